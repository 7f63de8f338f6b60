import PyProof.Rows.All
import Wide.All
import OpenK.AllK
import Wide.FinOn
import KE.KStateDown
import HandS.ForMost
import HandS.Deep
import HandS.Evl
import HandS.TupAny
import HandS.IsInst
import HandS.NoneIn
import HandS.Style
import HandS.SortInts
import PyProof.MinMaxWalk
import HandS.Conv
import HandS.SetFor
import HandS.DictComp
import HandS.DictTup
import KE.KDictCopyH
import HandS.Comp
import HandS.Iter
import HandS.Zip
import HandS.Words
import HandS.WordsList
import HandS.Defaults
import HandS.HeadEnd
import HandS.Head0
import HandS.Head1
import HandS.Head2
import HandS.HeadHook1
import HandS.HeadHook2
import PySem.Challenge.RW_curveroom_k07_whole_kinds_of_curves
set_option Elab.async false
set_option linter.all false
set_option maxRecDepth 100000
set_option maxHeartbeats 0
section
/-! PcCore: a small language of plain values, and what its texts compute (our own work). -/
namespace PC
open PySem
abbrev D := PyData

/-- a value: pure data; a changeable list or dict in the store; the script; a tuple of the module; a dict that changes no more (t: its keys are tuples) -/
inductive R where
  | d (x : D)
  | loc (n : Nat)
  | scr (ns : List Int)
  | kt (xs : List D)
  | dic (t : Bool) (kvs : List (D × D))

inductive Cell where
  | lst (xs : List D)
  | dct (t : Bool) (kvs : List (D × D))

abbrev Store := List Cell
abbrev Env := List (Option R)

inductive Bop where
  | add | sub | mul | div | mod | pow
  deriving DecidableEq
inductive Cop where
  | eq | ne | lt | le | gt | ge | inn | nin | isn | isnn
  deriving DecidableEq
/-- built-in functions of one argument -/
inductive B1 where
  | len | int | abs | tuple | list | sum | any | all | sorted | smin | smax
  deriving DecidableEq
inductive B2 where
  | max | min
  deriving DecidableEq
inductive Ty where
  | tuple | list | int | bool | str
  deriving DecidableEq

mutual
/-- a target -/
inductive G where
  | name (i : Nat)
  | tup (gs : Gs)
inductive Gs where
  | nil
  | cons (g : G) (r : Gs)
end
mutual
inductive E where
  | var (i : Nat)
  | glob (x : Str) (v : D)
  | int (i : Int)
  | bl (b : Bool)
  | non
  | str (s : Str)
  | bin (o : Bop) (a b : E)
  | neg (a : E)
  | not (a : E)
  | and (a b : E)
  | or (a b : E)
  | cmp (o : Cop) (a b : E)
  | chain (o p : Cop) (a b c : E)
  | ite (c a b : E)
  | ix (a b : E)
  | slo (a b : E)
  | shi (a b : E)
  | rev (a : E)
  | tup (es : Es)
  | lst (es : Es)
  | comp (g : G) (vs : List Nat) (it : It) (hc : Bool) (c e : E)
  | b1 (f : B1) (a : E)
  | b2 (f : B2) (a b : E)
  | isi (a : E) (t : Ty)
  | call (f : Nat) (es : Es)
  | lcnt (a b : E)
  | lidx (a b : E)
  | dget (a b c : E)
  | dix (a b : E)
  | din (n : Bool) (a b : E)
  | dkeys (a : E)
  | dcomp (g : G) (vs : List Nat) (it : It) (k v : E)
inductive Es where
  | nil
  | cons (e : E) (r : Es)
/-- what a loop walks -/
inductive It where
  | rng1 (a : E)
  | rng2 (a b : E)
  | rng3 (a b c : E)
  | seq (a : E)
  | zip (a b : E)
end
mutual
inductive S where
  | asg (g : G) (e : E)
  | thaw (i : Nat) (e : E)
  | par (is : List Nat) (es : Es)
  | aug (i : Nat) (o : Bop) (e : E)
  | seti (a b e : E)
  | augi (a b : E) (o : Bop) (e : E)
  | if_ (c : E) (t f : Ss)
  | whl (c : E) (b : Ss)
  | for_ (g : G) (it : It) (b : Ss)
  | ret (e : E)
  | app (a e : E)
  | ext (a e : E)
  | pop (a : E)
  | dnew (i : Nat) (t : Bool)
  | dset (a b e : E)
  | dupd (a e : E)
  | expr (e : E)
  | parG (gs : Gs) (es : Es)
  | pass
  | dead
inductive Ss where
  | nil
  | cons (s : S) (r : Ss)
end

/-! ### plain operations -/
def viewD : R → Store → Option D
  | .d x, _ => some x
  | .loc n, S => match S[n]? with
    | some (.lst xs) => some (.list xs)
    | _ => none
  | .scr _, _ => none
  | .kt _, _ => none
  | .dic _ _, _ => none
/-- as viewD, the script too -/
def viewS : R → Store → Option D
  | .scr ns, _ => some (.list (ns.map PyData.int))
  | .kt xs, _ => some (.tuple xs)
  | r, S => viewD r S
/-- a dict -/
def dictOf : R → Store → Option (Bool × List (D × D))
  | .loc n, S => match S[n]? with
    | some (.dct t kvs) => some (t, kvs)
    | _ => none
  | .dic t kvs, _ => some (t, kvs)
  | _, _ => none
mutual
def sameD : D → D → Bool
  | .none, .none => true
  | .bool a, .bool b => a == b
  | .int a, .int b => decide (a = b)
  | .str a, .str b => decide (a = b)
  | .tuple a, .tuple b => sameDs a b
  | _, _ => false
def sameDs : List D → List D → Bool
  | [], [] => true
  | a :: as, b :: bs => sameD a b && sameDs as bs
  | _, _ => false
end
/-- what may be a key -/
def key1 : D → Bool
  | .int _ => true
  | .str _ => true
  | _ => false
def keyOk : Bool → D → Bool
  | false, d => key1 d
  | true, .tuple ds => ds.all key1
  | true, _ => false
def dFind : List (D × D) → D → Option D
  | [], _ => none
  | (k', v) :: r, k => if sameD k' k = true then some v else dFind r k
def dRep : List (D × D) → D → D → List (D × D)
  | [], _, _ => []
  | (k', v') :: r, k, v => if sameD k' k = true then (k', v) :: dRep r k v else (k', v') :: dRep r k v
def dPut (kvs : List (D × D)) (k v : D) : List (D × D) := match dFind kvs k with
  | some _ => dRep kvs k v
  | none => kvs ++ [(k, v)]
def seqOf : D → Option (List D)
  | .list xs => some xs
  | .tuple xs => some xs
  | _ => none
def toB : R → Option Bool
  | .d (.bool b) => some b
  | _ => none
def pure? : R → Option D
  | .d x => some x
  | _ => none
def pures : List R → Option (List D)
  | [] => some []
  | r :: rs => match pure? r, pures rs with
    | some x, some xs => some (x :: xs)
    | _, _ => none
def ints? : List D → Option (List Int)
  | [] => some []
  | .int i :: r => match ints? r with
    | some is => some (i :: is)
    | none => none
  | _ :: _ => none
def bools? : List D → Option (List Bool)
  | [] => some []
  | .bool i :: r => match bools? r with
    | some is => some (i :: is)
    | none => none
  | _ :: _ => none
def dMerge : List (D × D) → List (D × D) → List (D × D)
  | kvs, [] => kvs
  | kvs, (k, v) :: r => dMerge (dPut kvs k v) r
def ndB : List Int → Bool
  | [] => true
  | x :: r => !(r.any fun y => decide (x = y)) && ndB r
def hashTI (is : List Int) : Int := PySem.reduceHash (PySem.Builtin.Tuple.tupleHashOf (is.map PySem.hashInt))
def keysI : List (D × D) → Option (List (List Int))
  | [] => some []
  | (.tuple ds, _) :: r => match ints? ds, keysI r with
    | some is, some l => some (is :: l)
    | _, _ => none
  | _ :: _ => none
/-- what an empty dict takes over must hash apart -/
def upOk (kvs more : List (D × D)) : Bool := !kvs.isEmpty || (match keysI more with
  | some l => ndB (l.map hashTI)
  | none => false)
/-- a size that is always safe -/
def szOk (n : Nat) : Bool := Nat.ble n 1000000
/-- a factor that is always safe -/
def smI (i : Int) : Bool := decide (i.natAbs < 18446744073709551616)

def binI : Bop → Int → Int → Option Int
  | .add, i, j => some (i + j)
  | .sub, i, j => some (i - j)
  | .mul, i, j => if (smI i || smI j) = true then some (i * j) else none
  | .div, i, j => if 0 < j then (if j < 1073741824 then some (i / j) else none) else if j < 0 then (if -1073741824 < j then some (i.fdiv j) else none) else none
  | .mod, i, j => if 0 < j then some (i % j) else if j < 0 then some (i.fmod j) else none
  | .pow, i, j => if (decide (0 ≤ j) && decide (j ≤ 1000000) && smI i) = true then some (i ^ j.toNat) else none
def binD (o : Bop) : D → D → Option D
  | .int i, .int j => match binI o i j with
    | some z => some (.int z)
    | none => none
  | .str x, .str y => match o with
    | .add => if szOk (x.length + y.length) = true then some (.str (x ++ y)) else none
    | _ => none
  | .tuple xs, .tuple ys => match o with
    | .add => if szOk (xs.length + ys.length) = true then some (.tuple (xs ++ ys)) else none
    | _ => none
  | .list xs, .list ys => match o with
    | .add => if szOk (xs.length + ys.length) = true then some (.list (xs ++ ys)) else none
    | _ => none
  | .list xs, .int k => match o with
    | .mul => if (szOk k.natAbs && szOk (xs.length * k.toNat)) = true then some (.list (List.replicate k.toNat xs).flatten) else none
    | _ => none
  | _, _ => none

def eqD (d e : D) : Option Bool := if (SeqAt.shaped d && SeqAt.shaped e) = true then some (PyData.eqv d e) else none
def flat1 : D → Bool
  | .none => true
  | .bool _ => true
  | .int _ => true
  | .str _ => true
  | _ => false
def inD (d : D) : D → Option Bool
  | .list ds => if (SeqAt.shaped d && SeqAt.shaped (.list ds)) = true then some (ds.any fun z => PyData.eqv z d) else none
  | .tuple ds => if (flat1 d && ds.all flat1) = true then some (ds.any fun z => PyData.eqv z d) else none
  | _ => none
def cmpI : Cop → Int → Int → Option Bool
  | .eq, i, j => some (decide (i = j))
  | .ne, i, j => some (!decide (i = j))
  | .lt, i, j => some (decide (i < j))
  | .le, i, j => some (decide (i ≤ j))
  | .gt, i, j => some (decide (j < i))
  | .ge, i, j => some (decide (j ≤ i))
  | _, _, _ => none
def neg? : Option Bool → Option Bool
  | some b => some (!b)
  | none => none
def isN : D → Option Bool
  | .none => some true
  | .dict _ => none
  | _ => some false
def isNone : D → Bool
  | .none => true
  | _ => false
def cmpO (o : Cop) (d e : D) : Option Bool := match o with
  | .eq => eqD d e
  | .ne => neg? (eqD d e)
  | .inn => inD d e
  | .nin => neg? (inD d e)
  | .isn => if isNone e = true then isN d else none
  | .isnn => if isNone e = true then neg? (isN d) else none
  | _ => none
def cmpD (o : Cop) (d e : D) : Option Bool := match d, e with
  | .int i, .int j => cmpI o i j
  | d, e => cmpO o d e
def ixD : D → D → Option D
  | .list xs, .int i => L2.atI xs i
  | .tuple xs, .int i => L2.atI xs i
  | .str z, .int i => if szOk z.length = true then (match L2.atI z.cps.toList i with
    | some c => some (.str ⟨#[c]⟩)
    | none => none) else none
  | _, _ => none
/-- a part of a list -/
def cut (xs : List D) (lo hi : Option Int) : List D := (xs.drop (HT.sIx xs.length 0 lo)).take (HT.sIx xs.length xs.length hi - HT.sIx xs.length 0 lo)
def slD (d : D) (lo hi : Option Int) : Option D := match d with
  | .list xs => some (.list (cut xs lo hi))
  | .tuple xs => some (.tuple (cut xs lo hi))
  | _ => none
def slR (r : R) (S : Store) (lo hi : Option Int) : Option R := match r with
  | .kt xs => some (.kt (cut xs lo hi))
  | r => match viewS r S with
    | some x => (match slD x lo hi with
      | some z => some (.d z)
      | none => none)
    | none => none
def revD : D → Option D
  | .list xs => some (.list xs.reverse)
  | .tuple xs => some (.tuple xs.reverse)
  | _ => none
/-- the order of numbers and of tuples of numbers -/
def ltL : List Int → List Int → Bool
  | [], [] => false
  | [], _ :: _ => true
  | _ :: _, [] => false
  | x :: xs, y :: ys => if x = y then ltL xs ys else decide (x < y)
def ltD : D → D → Bool
  | .int i, .int j => decide (i < j)
  | .tuple xs, .tuple ys => (match ints? xs, ints? ys with
    | some is, some js => ltL is js
    | _, _ => false)
  | _, _ => false
def isI : D → Bool
  | .int _ => true
  | _ => false
def isTI : D → Bool
  | .tuple (x :: xs) => (match ints? (x :: xs) with
    | some _ => true
    | none => false)
  | _ => false
def isTE : D → Bool
  | .tuple xs => (match ints? xs with
    | some _ => true
    | none => false)
  | _ => false
def minD : D → List D → D
  | m, [] => m
  | m, x :: r => minD (if ltD x m = true then x else m) r
def insD (x : D) : List D → List D
  | [] => [x]
  | y :: r => if ltD y x = true then y :: insD x r else x :: y :: r
def isort : List D → List D
  | [] => []
  | x :: r => insD x (isort r)
def sortD (xs : List D) : Option (List D) := if (xs.all isI || xs.all isTI) = true then some (isort xs) else match xs with
  | .tuple [] :: r => if r.all isTE = true then some (isort xs) else none
  | _ => none
def maxI : Int → List Int → Int
  | m, [] => m
  | m, x :: r => maxI (if x > m then x else m) r
def minI : Int → List Int → Int
  | m, [] => m
  | m, x :: r => minI (if x < m then x else m) r
def b1D : B1 → D → Option D
  | .len, .list xs => some (.int xs.length)
  | .len, .tuple xs => some (.int xs.length)
  | .len, .str x => if szOk x.length = true then some (.int x.length) else none
  | .int, .int i => some (.int i)
  | .abs, .int i => some (.int (if i < 0 then -i else i))
  | .tuple, .list xs => some (.tuple xs)
  | .list, .list xs => some (.list xs)
  | .list, .tuple xs => some (.list xs)
  | .sum, .list xs => match ints? xs with
    | some is => some (.int is.sum)
    | none => none
  | .any, .list xs => match bools? xs with
    | some is => some (.bool (is.any id))
    | none => none
  | .all, .list xs => match bools? xs with
    | some is => some (.bool (is.all id))
    | none => none
  | .sorted, .list xs => match sortD xs with
    | some ys => some (.list ys)
    | none => none
  | .smax, .list xs => match ints? xs with
    | some (i :: is) => some (.int (maxI i is))
    | _ => none
  | .smin, .list xs => match ints? xs with
    | some (i :: is) => some (.int (minI i is))
    | _ => (match xs with
      | x :: r => if (x :: r).all isTI = true then some (minD x r) else none
      | [] => none)
  | _, _ => none
def lcntD : D → D → Option D
  | .list xs, .int i => match ints? xs with
    | some is => some (.int (is.count i : Nat))
    | none => none
  | _, _ => none
def idxD (d : D) : List D → Nat → Option Nat
  | [], _ => none
  | x :: r, n => if PyData.eqv x d = true then some n else idxD d r (n + 1)
def lidxD : D → D → Option D
  | .list xs, d => if (SeqAt.shaped d && SeqAt.shaped (.list xs)) = true then (match idxD d xs 0 with
    | some n => some (.int (n : Nat))
    | none => none) else none
  | _, _ => none
def b2D : B2 → D → D → Option D
  | .max, .int i, .int j => some (.int (if j > i then j else i))
  | .min, .int i, .int j => some (.int (if j < i then j else i))
  | _, _, _ => none
def isD : D → Ty → Option Bool
  | .none, _ => some false
  | .bool _, .bool => some true
  | .bool _, .int => some true
  | .bool _, _ => some false
  | .int _, .int => some true
  | .int _, _ => some false
  | .str _, .str => some true
  | .str _, _ => some false
  | .tuple _, .tuple => some true
  | .tuple _, _ => some false
  | .list _, .list => some true
  | .list _, _ => some false
  | _, _ => none

/-! ### targets -/
mutual
def asgG : G → R → Env → Option Env
  | .name i, r, ρ => some (ρ.set i (some r))
  | .tup gs, .d (.tuple xs), ρ => asgGs gs xs ρ
  | .tup gs, .d (.list xs), ρ => asgGs gs xs ρ
  | .tup gs, .kt xs, ρ => asgGs gs xs ρ
  | .tup _, _, _ => none
def asgGs : Gs → List D → Env → Option Env
  | .nil, [], ρ => some ρ
  | .cons g gs, x :: xs, ρ => match asgG g (.d x) ρ with
    | some ρ' => asgGs gs xs ρ'
    | none => none
  | _, _, _ => none
end
mutual
def G.slots : G → List Nat
  | .name i => [i]
  | .tup gs => Gs.slots gs
def Gs.slots : Gs → List Nat
  | .nil => []
  | .cons g gs => G.slots g ++ Gs.slots gs
end
def wipeE (ρ : Env) : List Nat → Env
  | [] => ρ
  | v :: vs => (wipeE ρ vs).set v none
def sets (ρ : Env) : List Nat → List R → Option Env
  | [], [] => some ρ
  | i :: is, r :: rs => sets (ρ.set i (some r)) is rs
  | _, _ => none

/-! ### what loops walk -/
inductive Items where
  | rng (lo st : Int) (n : Nat)
  | seq (r : R) (n : Nat)
  | zip (r q : R) (n : Nat)
def listOf (r : R) (S : Store) : Option (List D) := match viewD r S with
  | some (.list xs) => some xs
  | _ => none
def Items.n : Items → Nat
  | .rng _ _ n => n
  | .seq _ n => n
  | .zip _ _ n => n
def Items.get : Items → Nat → Store → Option D
  | .rng lo st _, i, _ => some (.int (lo + i * st))
  | .seq r _, i, S => match viewS r S with
    | some d => (match seqOf d with
      | some xs => xs[i]?
      | none => none)
    | none => none
  | .zip r q _, i, S => match listOf r S, listOf q S with
    | some xs, some ys => (match xs[i]?, ys[i]? with
      | some x, some y => some (.tuple [x, y])
      | _, _ => none)
    | _, _ => none
def Items.fin : Items → Store → Bool
  | .rng .., _ => true
  | .seq r n, S => match viewS r S with
    | some d => (match seqOf d with
      | some xs => Nat.ble xs.length n
      | none => false)
    | none => false
  | .zip r q n, S => match listOf r S, listOf q S with
    | some xs, some ys => Nat.ble xs.length n || Nat.ble ys.length n
    | _, _ => false
def rngOk (i : Int) : Bool := decide (-(2 ^ 62) ≤ i) && decide (i < 2 ^ 62)

inductive Out where
  | nx (ρ : Env) (s : Store)
  | rt (r : R) (s : Store)

def setCell (s : Store) (n : Nat) (xs : List D) : Store := s.set n (.lst xs)
def cellAt (s : Store) (n : Nat) : Option (List D) := match s[n]? with
  | some (.lst xs) => some xs
  | _ => none
/-- a comprehension's turns: rem turns are left, the next is the i-th; the new list is the cell n -/
def compN (J : Items) (n : Nat) (step : D → Store → Option (Option D × Store)) : Nat → Nat → Store → Option Store
  | 0, _, s => if J.fin s = true then some s else none
  | m + 1, i, s => match J.get i s with
    | none => none
    | some x => match step x s with
      | none => none
      | some (none, s') => compN J n step m (i + 1) s'
      | some (some y, s') => match cellAt s' n with
        | some acc => if szOk acc.length = true then compN J n step m (i + 1) (setCell s' n (acc ++ [y])) else none
        | none => none
def dcompN (J : Items) (n : Nat) (step : D → Store → Option (D × D × Store)) : Nat → Nat → Store → Option Store
  | 0, _, s => if J.fin s = true then some s else none
  | m + 1, i, s => match J.get i s with
    | none => none
    | some x => match step x s with
      | none => none
      | some (k, v, s') => match s'[n]? with
        | some (.dct true kvs) => if (keyOk true k && szOk kvs.length) = true then dcompN J n step m (i + 1) (s'.set n (.dct true (dPut kvs k v))) else none
        | _ => none
def forN (J : Items) (step : D → Env → Store → Option Out) : Nat → Nat → Env → Store → Option Out
  | 0, _, ρ, s => if J.fin s = true then some (.nx ρ s) else none
  | m + 1, i, ρ, s => match J.get i s with
    | none => none
    | some x => match step x ρ s with
      | some (.nx ρ' s') => forN J step m (i + 1) ρ' s'
      | o => o
def whlN (t : Env → Store → Option (Bool × Store)) (b : Env → Store → Option Out) : Nat → Env → Store → Option Out
  | 0, _, _ => none
  | m + 1, ρ, s => match t ρ s with
    | none => none
    | some (false, s1) => some (.nx ρ s1)
    | some (true, s1) => match b ρ s1 with
      | some (.nx ρ' s') => whlN t b m ρ' s'
      | o => o

/-- a global constant's value -/
def globR : D → R
  | .tuple xs => .kt xs
  | d => .d d
abbrev Call := Nat → List R → Store → Option (R × Store)

/-! ### expressions -/
mutual
def evE (C : Call) : E → Env → Store → Option (R × Store)
  | .var i, ρ, s => match ρ[i]? with
    | some (some r) => some (r, s)
    | _ => none
  | .glob _ v, _, s => some (globR v, s)
  | .int i, _, s => some (.d (.int i), s)
  | .bl b, _, s => some (.d (.bool b), s)
  | .non, _, s => some (.d .none, s)
  | .str x, _, s => some (.d (.str x), s)
  | .bin o a b, ρ, s => match evE C a ρ s with
    | none => none
    | some (ra, s1) => match evE C b ρ s1 with
      | none => none
      | some (rb, s2) => match viewD ra s2, viewD rb s2 with
        | some x, some y => (match binD o x y with
          | some z => some (.d z, s2)
          | none => none)
        | _, _ => none
  | .neg a, ρ, s => match evE C a ρ s with
    | some (.d (.int i), s1) => some (.d (.int (-i)), s1)
    | _ => none
  | .not a, ρ, s => match evE C a ρ s with
    | some (.d (.bool b), s1) => some (.d (.bool (!b)), s1)
    | _ => none
  | .and a b, ρ, s => match evE C a ρ s with
    | some (.d (.bool true), s1) => evE C b ρ s1
    | some (.d (.bool false), s1) => some (.d (.bool false), s1)
    | _ => none
  | .or a b, ρ, s => match evE C a ρ s with
    | some (.d (.bool true), s1) => some (.d (.bool true), s1)
    | some (.d (.bool false), s1) => evE C b ρ s1
    | _ => none
  | .cmp o a b, ρ, s => match evE C a ρ s with
    | none => none
    | some (ra, s1) => match evE C b ρ s1 with
      | none => none
      | some (rb, s2) => match viewS ra s2, viewS rb s2 with
        | some x, some y => (match cmpD o x y with
          | some z => some (.d (.bool z), s2)
          | none => none)
        | _, _ => none
  | .chain o p a b c, ρ, s => match evE C a ρ s with
    | none => none
    | some (ra, s1) => match evE C b ρ s1 with
      | none => none
      | some (rb, s2) => match viewS ra s2, viewS rb s2 with
        | some x, some y => (match cmpD o x y with
          | some true => (match evE C c ρ s2 with
            | none => none
            | some (rc, s3) => match viewS rb s3, viewS rc s3 with
              | some y', some z => (match cmpD p y' z with
                | some t => some (.d (.bool t), s3)
                | none => none)
              | _, _ => none)
          | some false => some (.d (.bool false), s2)
          | none => none)
        | _, _ => none
  | .ite c a b, ρ, s => match evE C c ρ s with
    | some (.d (.bool true), s1) => evE C a ρ s1
    | some (.d (.bool false), s1) => evE C b ρ s1
    | _ => none
  | .ix a b, ρ, s => match evE C a ρ s with
    | none => none
    | some (ra, s1) => match evE C b ρ s1 with
      | none => none
      | some (rb, s2) => match viewS ra s2, viewS rb s2 with
        | some x, some y => (match ixD x y with
          | some z => some (.d z, s2)
          | none => none)
        | _, _ => none
  | .slo a b, ρ, s => match evE C a ρ s with
    | none => none
    | some (ra, s1) => match evE C b ρ s1 with
      | some (.d (.int i), s2) => (match slR ra s2 (some i) none with
        | some z => some (z, s2)
        | none => none)
      | _ => none
  | .shi a b, ρ, s => match evE C a ρ s with
    | none => none
    | some (ra, s1) => match evE C b ρ s1 with
      | some (.d (.int i), s2) => (match slR ra s2 none (some i) with
        | some z => some (z, s2)
        | none => none)
      | _ => none
  | .rev a, ρ, s => match evE C a ρ s with
    | none => none
    | some (ra, s1) => match viewD ra s1 with
      | some x => (match revD x with
        | some z => some (.d z, s1)
        | none => none)
      | none => none
  | .tup es, ρ, s => match evEs C es ρ s with
    | some (rs, s1) => (match pures rs with
      | some xs => if szOk xs.length = true then some (.d (.tuple xs), s1) else none
      | none => none)
    | none => none
  | .lst es, ρ, s => match evEs C es ρ s with
    | some (rs, s1) => (match pures rs with
      | some xs => if szOk xs.length = true then some (.d (.list xs), s1) else none
      | none => none)
    | none => none
  | .comp g vs it hc c e, ρ, s => match evIt C it ρ s with
    | none => none
    | some (J, s1) => match compN J s1.length (fun x s2 => match asgG g (.d x) (wipeE ρ vs) with
        | none => none
        | some ρ2 => match (if hc = true then evE C c ρ2 s2 else some (.d (.bool true), s2)) with
          | some (.d (.bool true), s3) => (match evE C e ρ2 s3 with
            | some (.d y, s4) => some (some y, s4)
            | _ => none)
          | some (.d (.bool false), s3) => some (none, s3)
          | _ => none) J.n 0 (s1 ++ [.lst []]) with
      | some s5 => (match cellAt s5 s1.length with
        | some xs => some (.d (.list xs), s5.take s1.length)
        | none => none)
      | none => none
  | .b1 f a, ρ, s => match evE C a ρ s with
    | none => none
    | some (ra, s1) => match viewS ra s1 with
      | some x => (match b1D f x with
        | some z => some (.d z, s1)
        | none => none)
      | none => none
  | .b2 f a b, ρ, s => match evE C a ρ s with
    | none => none
    | some (ra, s1) => match evE C b ρ s1 with
      | none => none
      | some (rb, s2) => match viewD ra s2, viewD rb s2 with
        | some x, some y => (match b2D f x y with
          | some z => some (.d z, s2)
          | none => none)
        | _, _ => none
  | .isi a t, ρ, s => match evE C a ρ s with
    | none => none
    | some (ra, s1) => match viewD ra s1 with
      | some x => (match isD x t with
        | some z => some (.d (.bool z), s1)
        | none => none)
      | none => none
  | .call f es, ρ, s => match evEs C es ρ s with
    | some (rs, s1) => C f rs s1
    | none => none
  | .lcnt a b, ρ, s => match evE C a ρ s with
    | none => none
    | some (ra, s1) => match evE C b ρ s1 with
      | none => none
      | some (rb, s2) => match viewD ra s1, viewD ra s2, viewS rb s2 with
        | some (.list _), some x, some y => (match lcntD x y with
          | some z => some (.d z, s2)
          | none => none)
        | _, _, _ => none
  | .lidx a b, ρ, s => match evE C a ρ s with
    | none => none
    | some (ra, s1) => match evE C b ρ s1 with
      | none => none
      | some (rb, s2) => match viewD ra s1, viewD ra s2, viewS rb s2 with
        | some (.list _), some x, some y => (match lidxD x y with
          | some z => some (.d z, s2)
          | none => none)
        | _, _, _ => none
  | .dget a b c, ρ, s => match evE C a ρ s with
    | none => none
    | some (ra, s1) => match dictOf ra s1 with
      | none => none
      | some _ => match evE C b ρ s1 with
        | some (.d k, s2) => (match evE C c ρ s2 with
          | some (.d z, s3) => (match dictOf ra s3 with
            | some (t, kvs) => if keyOk t k = true then some (.d ((dFind kvs k).getD z), s3) else none
            | none => none)
          | _ => none)
        | _ => none
  | .dix a b, ρ, s => match evE C a ρ s with
    | none => none
    | some (ra, s1) => match evE C b ρ s1 with
      | some (.d k, s2) => (match dictOf ra s2 with
        | some (t, kvs) => if keyOk t k = true then (match dFind kvs k with
          | some z => some (.d z, s2)
          | none => none) else none
        | none => none)
      | _ => none
  | .din n a b, ρ, s => match evE C a ρ s with
    | some (.d k, s1) => (match evE C b ρ s1 with
      | none => none
      | some (rb, s2) => (match dictOf rb s2 with
        | some (t, kvs) => if keyOk t k = true then some (.d (.bool (if n = true then !(dFind kvs k).isSome else (dFind kvs k).isSome)), s2) else none
        | none => none))
    | _ => none
  | .dkeys a, ρ, s => match evE C a ρ s with
    | none => none
    | some (ra, s1) => match dictOf ra s1 with
      | some (_, kvs) => some (.d (.list (kvs.map (·.1))), s1)
      | none => none
  | .dcomp g vs it k v, ρ, s => match evIt C it ρ s with
    | none => none
    | some (J, s1) => match dcompN J s1.length (fun x s2 => match asgG g (.d x) (wipeE ρ vs) with
        | none => none
        | some ρ2 => match evE C k ρ2 s2 with
          | some (.d y, s3) => (match evE C v ρ2 s3 with
            | some (.d z, s4) => some (y, z, s4)
            | _ => none)
          | _ => none) J.n 0 (s1 ++ [.dct true []]) with
      | some s5 => (match s5[s1.length]? with
        | some (.dct true kvs) => some (.dic true kvs, s5.take s1.length)
        | _ => none)
      | none => none
def evEs (C : Call) : Es → Env → Store → Option (List R × Store)
  | .nil, _, s => some ([], s)
  | .cons e r, ρ, s => match evE C e ρ s with
    | none => none
    | some (v, s1) => match evEs C r ρ s1 with
      | none => none
      | some (vs, s2) => some (v :: vs, s2)
def evIt (C : Call) : It → Env → Store → Option (Items × Store)
  | .rng1 a, ρ, s => match evE C a ρ s with
    | some (.d (.int j), s1) => if rngOk j = true then some (.rng 0 1 j.toNat, s1) else none
    | _ => none
  | .rng2 a b, ρ, s => match evE C a ρ s with
    | some (.d (.int i), s1) => (match evE C b ρ s1 with
      | some (.d (.int j), s2) => if (rngOk i && rngOk j) = true then some (.rng i 1 (j - i).toNat, s2) else none
      | _ => none)
    | _ => none
  | .rng3 a b c, ρ, s => match evE C a ρ s with
    | some (.d (.int i), s1) => (match evE C b ρ s1 with
      | some (.d (.int j), s2) => (match evE C c ρ s2 with
        | some (.d (.int k), s3) => if (rngOk i && rngOk j && decide (k = -1)) = true then some (.rng i (-1) (i - j).toNat, s3) else none
        | _ => none)
      | _ => none)
    | _ => none
  | .seq a, ρ, s => match evE C a ρ s with
    | none => none
    | some (ra, s1) => match viewS ra s1 with
      | some x => (match seqOf x with
        | some xs => some (.seq ra xs.length, s1)
        | none => none)
      | none => none
  | .zip a b, ρ, s => match evE C a ρ s with
    | none => none
    | some (ra, s1) => match evE C b ρ s1 with
      | none => none
      | some (rb, s2) => match listOf ra s2, listOf rb s2 with
        | some xs, some ys => some (.zip ra rb (min xs.length ys.length), s2)
        | _, _ => none
end
/-! ### statements -/
mutual
def exS (C : Call) (W : Nat) : S → Env → Store → Option Out
  | .asg g e, ρ, s => match evE C e ρ s with
    | none => none
    | some (r, s1) => (match asgG g r ρ with
      | some ρ' => some (.nx ρ' s1)
      | none => none)
  | .thaw i e, ρ, s => match evE C e ρ s with
    | some (.d (.list xs), s1) => some (.nx (ρ.set i (some (.loc s1.length))) (s1 ++ [.lst xs]))
    | _ => none
  | .par is es, ρ, s => match evEs C es ρ s with
    | none => none
    | some (rs, s1) => (match sets ρ is rs with
      | some ρ' => some (.nx ρ' s1)
      | none => none)
  | .aug i o e, ρ, s => match ρ[i]? with
    | some (some r) => (match evE C e ρ s with
      | none => none
      | some (re, s1) => match r, re with
        | .d (.int x), .d (.int y) => (match binD o (.int x) (.int y) with
          | some z => some (.nx (ρ.set i (some (.d z))) s1)
          | none => none)
        | _, _ => none)
    | _ => none
  | .seti a b e, ρ, s => match evE C e ρ s with
    | some (.d x, s1) => (match evE C a ρ s1 with
      | some (.loc n, s2) => (match evE C b ρ s2 with
        | some (.d (.int k), s3) => (match cellAt s3 n with
          | some xs => (match L2.ixN xs.length k with
            | some j => some (.nx ρ (setCell s3 n (xs.set j x)))
            | none => none)
          | none => none)
        | _ => none)
      | _ => none)
    | _ => none
  | .augi a b o e, ρ, s => match evE C a ρ s with
    | some (.loc n, s1) => (match evE C b ρ s1 with
      | some (.d (.int k), s2) => (match cellAt s2 n with
        | some xs => (match L2.atI xs k with
          | some (.int x) => (match evE C e ρ s2 with
            | some (.d (.int y), s3) => (match binD o (.int x) (.int y) with
              | some z => (match cellAt s3 n with
                | some ys => (match L2.ixN ys.length k with
                  | some j => some (.nx ρ (setCell s3 n (ys.set j z)))
                  | none => none)
                | none => none)
              | none => none)
            | _ => none)
          | _ => none)
        | none => none)
      | _ => none)
    | _ => none
  | .if_ c t f, ρ, s => match evE C c ρ s with
    | some (.d (.bool true), s1) => exSs C W t ρ s1
    | some (.d (.bool false), s1) => exSs C W f ρ s1
    | _ => none
  | .whl c b, ρ, s => whlN (fun ρ s => match evE C c ρ s with
      | some (.d (.bool t), s1) => some (t, s1)
      | _ => none) (fun ρ s => exSs C W b ρ s) W ρ s
  | .for_ g it b, ρ, s => match evIt C it ρ s with
    | none => none
    | some (J, s1) => forN J (fun x ρ s => match asgG g (.d x) ρ with
        | none => none
        | some ρ' => exSs C W b ρ' s) J.n 0 ρ s1
  | .ret e, ρ, s => match evE C e ρ s with
    | none => none
    | some (r, s1) => some (.rt r s1)
  | .app a e, ρ, s => match evE C a ρ s with
    | some (.loc n, s1) => (match cellAt s1 n with
      | some _ => (match evE C e ρ s1 with
        | some (.d x, s2) => (match cellAt s2 n with
          | some xs => if szOk xs.length = true then some (.nx ρ (setCell s2 n (xs ++ [x]))) else none
          | none => none)
        | _ => none)
      | none => none)
    | _ => none
  | .ext a e, ρ, s => match evE C a ρ s with
    | some (.loc n, s1) => (match cellAt s1 n with
      | some _ => (match evE C e ρ s1 with
        | some (.d (.list ys), s2) => (match cellAt s2 n with
          | some xs => if szOk (xs.length + ys.length) = true then some (.nx ρ (setCell s2 n (xs ++ ys))) else none
          | none => none)
        | _ => none)
      | none => none)
    | _ => none
  | .pop a, ρ, s => match evE C a ρ s with
    | some (.loc n, s1) => (match cellAt s1 n with
        | some xs => (match xs[xs.length - 1]? with
          | some _ => some (.nx ρ (setCell s1 n xs.dropLast))
          | none => none)
        | none => none)
    | _ => none
  | .dnew i t, ρ, s => some (.nx (ρ.set i (some (.loc s.length))) (s ++ [.dct t []]))
  | .dset a b e, ρ, s => match evE C e ρ s with
    | some (.d x, s1) => (match evE C a ρ s1 with
      | some (.loc n, s2) => (match evE C b ρ s2 with
        | some (.d k, s3) => (match s3[n]? with
          | some (.dct t kvs) => if (keyOk t k && szOk kvs.length) = true then some (.nx ρ (s3.set n (.dct t (dPut kvs k x)))) else none
          | _ => none)
        | _ => none)
      | _ => none)
    | _ => none
  | .dupd a e, ρ, s => match evE C a ρ s with
    | some (.loc n, s1) => (match s1[n]? with
      | some (.dct true _) => (match evE C e ρ s1 with
        | some (.dic true more, s2) => (match s2[n]? with
          | some (.dct true kvs) => if (upOk kvs more && szOk (kvs.length + more.length)) = true then some (.nx ρ (s2.set n (.dct true (dMerge kvs more)))) else none
          | _ => none)
        | _ => none)
      | _ => none)
    | _ => none
  | .expr e, ρ, s => match evE C e ρ s with
    | none => none
    | some (_, s1) => some (.nx ρ s1)
  | .parG gs es, ρ, s => match evEs C es ρ s with
    | none => none
    | some (rs, s1) => (match pures rs with
      | some xs => if szOk xs.length = true then (match asgGs gs xs ρ with
        | some ρ' => some (.nx ρ' s1)
        | none => none) else none
      | none => none)
  | .pass, ρ, s => some (.nx ρ s)
  | .dead, _, _ => none
def exSs (C : Call) (W : Nat) : Ss → Env → Store → Option Out
  | .nil, ρ, s => some (.nx ρ s)
  | .cons a r, ρ, s => match exS C W a ρ s with
    | some (.nx ρ' s') => exSs C W r ρ' s'
    | o => o
end
/-! ### defs -/
/-- a def: its name, how many parameters, its names by slot (parameters first), its body; the last text, if it hands back a new list -/
structure Def where
  name : Str
  np : Nat
  names : List Str
  body : Ss
  fin : Option E := none
/-- what a call hands back: new lists are frozen, the callee's own cells are dropped -/
def back (n : Nat) : Option Out → Option (R × Store)
  | some (.rt (.d x) s) => some (.d x, s.take n)
  | some (.rt (.loc i) s) => if i < n then none else (match s[i]? with
    | some (.lst xs) => some (.d (.list xs), s.take n)
    | some (.dct t kvs) => some (.dic t kvs, s.take n)
    | none => none)
  | some (.rt (.kt xs) s) => some (.kt xs, s.take n)
  | some (.rt (.dic t kvs) s) => some (.dic t kvs, s.take n)
  | some (.nx _ s) => some (.d .none, s.take n)
  | _ => none
/-- .. a new list -/
def backN (n : Nat) (C : Call) (e : E) : Option Out → Option (R × Store)
  | some (.nx ρ s) => (match evE C e ρ s with
    | some (.d (.list xs), s2) => some (.d (.list xs), s2.take n)
    | _ => none)
  | _ => none
def start (N : Nat) (rs : List R) : Env := rs.map some ++ List.replicate (N - rs.length) none
def callD (T : List Def) (W : Nat) : Nat → Call
  | 0 => fun _ _ _ => none
  | k + 1 => fun f rs s => match T[f]? with
    | some d => if rs.length = d.np then (match d.fin with
      | none => back s.length (exSs (callD T W k) W d.body (start d.names.length rs) s)
      | some e => backN s.length (callD T W k) e (exSs (callD T W k) W d.body (start d.names.length rs) s)) else none
    | none => none
end PC
end
section
/-! PcRel: how the plain values stand in the model's heap. -/
namespace PC
open PySem PySem.Spec PyProof.Rows L2

mutual
/-- v is the plain value d, in the frozen heap F -/
inductive Rep (K : PySem.W.Frag) (F : Hp) : V → D → Prop
  | non : Rep K F .non .none
  | bl (b : Bool) : Rep K F (.bl b) (.bool b)
  | int (i : Int) : Rep K F (.int i) (.int i)
  | str (x : Str) : Rep K F (.str x) (.str x)
  | lst {a : Addr} {vs : List V} {ds : List D} : F a = some (.lst vs) → Reps K F vs ds → Rep K F (.ref a) (.list ds)
  | tup {a : Addr} {vs : List V} {ds : List D} : F a = some (.tup vs) → Reps K F vs ds → Rep K F (.ref a) (.tuple ds)
inductive Reps (K : PySem.W.Frag) (F : Hp) : List V → List D → Prop
  | nil : Reps K F [] []
  | cons {v : V} {vs : List V} {d : D} {ds : List D} : Rep K F v d → Reps K F vs ds → Reps K F (v :: vs) (d :: ds)
end
abbrev Ex := Evl.Ex
section
variable {K : PySem.W.Frag} {F F' H : Hp}
mutual
theorem Rep.mono (e : Ex F F') : ∀ (d : D) {v : V}, Rep K F v d → Rep K F' v d
  | .none, _, h => by cases h; exact .non
  | .bool _, _, h => by cases h; exact .bl _
  | .int _, _, h => by cases h; exact .int _
  | .str _, _, h => by cases h; exact .str _
  | .list ds, _, h => by cases h with | lst a r => exact .lst (e _ _ a) (Reps.mono e ds r)
  | .tuple ds, _, h => by cases h with | tup a r => exact .tup (e _ _ a) (Reps.mono e ds r)
  | .dict _, _, h => by cases h
theorem Reps.mono (e : Ex F F') : ∀ (ds : List D) {vs : List V}, Reps K F vs ds → Reps K F' vs ds
  | [], _, h => by cases h; exact .nil
  | d :: ds, _, h => by cases h with | cons a r => exact .cons (Rep.mono e d a) (Reps.mono e ds r)
end
mutual
theorem Rep.dp (e : Ex F H) : ∀ (d : D) {v : V}, Rep K F v d → Dp K H v d
  | .none, _, h => by cases h; exact .non
  | .bool _, _, h => by cases h; exact .bl _
  | .int _, _, h => by cases h; exact .int _
  | .str _, _, h => by cases h; exact .str _
  | .list ds, _, h => by cases h with | lst a r => exact .lst (SqL.of (e _ _ a)) (Reps.dp e ds r)
  | .tuple ds, _, h => by cases h with | tup a r => exact .tup (SqT.of (e _ _ a)) (Reps.dp e ds r)
  | .dict _, _, h => by cases h
theorem Reps.dp (e : Ex F H) : ∀ (ds : List D) {vs : List V}, Reps K F vs ds → DpAll K H vs ds
  | [], _, h => by cases h; exact .nil
  | d :: ds, _, h => by cases h with | cons a r => exact .cons (Rep.dp e d a) (Reps.dp e ds r)
end
theorem Reps.length : ∀ {vs : List V} {ds : List D}, Reps K F vs ds → vs.length = ds.length
  | _, _, .nil => rfl
  | _, _, .cons _ r => congrArg Nat.succ r.length
theorem Reps.get : ∀ {ds : List D} {vs : List V} {i : Nat} {d : D}, Reps K F vs ds → ds[i]? = some d → ∃ v, vs[i]? = some v ∧ Rep K F v d
  | [], _, _, _, _, e => by simp at e
  | x :: ds, _, i, d, h, e => by
    cases h with
    | cons a r =>
      cases i with
      | zero =>
        have e' : x = d := by simpa using e
        subst e'
        exact ⟨_, rfl, a⟩
      | succ i =>
        obtain ⟨v, h1, h2⟩ := Reps.get (i := i) (d := d) r (by simpa using e)
        exact ⟨v, by simpa using h1, h2⟩
theorem Reps.set {v : V} {d : D} (q : Rep K F v d) : ∀ {vs : List V} {ds : List D} (i : Nat), Reps K F vs ds → Reps K F (vs.set i v) (ds.set i d)
  | _, _, _, .nil => .nil
  | _, _, 0, .cons _ r => .cons q r
  | _, _, i + 1, .cons a r => .cons a (Reps.set q i r)
theorem Reps.append : ∀ {vs : List V} {ds : List D} {ws : List V} {es : List D}, Reps K F vs ds → Reps K F ws es → Reps K F (vs ++ ws) (ds ++ es)
  | _, _, _, _, .nil, s => s
  | _, _, _, _, .cons a r, s => .cons a (Reps.append r s)
theorem Reps.take : ∀ {vs : List V} {ds : List D} (n : Nat), Reps K F vs ds → Reps K F (vs.take n) (ds.take n)
  | _, _, 0, _ => .nil
  | _, _, _ + 1, .nil => .nil
  | _, _, n + 1, .cons a r => .cons a (Reps.take n r)
theorem Reps.drop : ∀ {vs : List V} {ds : List D} (n : Nat), Reps K F vs ds → Reps K F (vs.drop n) (ds.drop n)
  | _, _, 0, r => r
  | _, _, _ + 1, .nil => .nil
  | _, _, n + 1, .cons _ r => Reps.drop n r
theorem Reps.reverse {vs : List V} {ds : List D} (h : Reps K F vs ds) : Reps K F vs.reverse ds.reverse := by
  match vs, ds, h with
  | _, _, .nil => exact .nil
  | _, _, .cons a r => rw [List.reverse_cons, List.reverse_cons]; exact Reps.append (Reps.reverse r) (.cons a .nil)
theorem Reps.dropLast : ∀ {vs : List V} {ds : List D}, Reps K F vs ds → Reps K F vs.dropLast ds.dropLast
  | _, _, .nil => .nil
  | _, _, .cons a .nil => .nil
  | _, _, .cons a (.cons b r) => .cons a (Reps.dropLast (.cons b r))
theorem Reps.rep {vs : List V} {ds : List D} (h : Reps K F vs ds) : ∀ k : Nat, Reps K F (List.replicate k vs).flatten (List.replicate k ds).flatten
  | 0 => .nil
  | k + 1 => by
    rw [List.replicate_succ, List.replicate_succ, List.flatten_cons, List.flatten_cons]
    exact Reps.append h (Reps.rep h k)
theorem Reps.ints : ∀ {ds : List D} {vs : List V} {is : List Int}, Reps K F vs ds → ints? ds = some is → vs = is.map V.int
  | [], _, _, h, e => by
    cases h
    cases (Option.some.inj e : [] = _)
    rfl
  | .int i :: ds, _, is, h, e => by
    cases h with
    | cons a r =>
      cases a
      unfold ints? at e
      cases q : ints? ds with
      | none => rw [q] at e; cases e
      | some js =>
        rw [q] at e
        cases (Option.some.inj e : i :: js = is)
        rw [Reps.ints r q]
        rfl
  | .none :: _, _, _, _, e => by cases e
  | .bool _ :: _, _, _, _, e => by cases e
  | .str _ :: _, _, _, _, e => by cases e
  | .list _ :: _, _, _, _, e => by cases e
  | .tuple _ :: _, _, _, _, e => by cases e
  | .dict _ :: _, _, _, _, e => by cases e
theorem Reps.bools : ∀ {ds : List D} {vs : List V} {is : List Bool}, Reps K F vs ds → bools? ds = some is → vs = is.map V.bl
  | [], _, _, h, e => by
    cases h
    cases (Option.some.inj e : [] = _)
    rfl
  | .bool i :: ds, _, is, h, e => by
    cases h with
    | cons a r =>
      cases a
      unfold bools? at e
      cases q : bools? ds with
      | none => rw [q] at e; cases e
      | some js =>
        rw [q] at e
        cases (Option.some.inj e : i :: js = is)
        rw [Reps.bools r q]
        rfl
  | .none :: _, _, _, _, e => by cases e
  | .int _ :: _, _, _, _, e => by cases e
  | .str _ :: _, _, _, _, e => by cases e
  | .list _ :: _, _, _, _, e => by cases e
  | .tuple _ :: _, _, _, _, e => by cases e
  | .dict _ :: _, _, _, _, e => by cases e
theorem reps_ints : ∀ ns : List Int, Reps K F (ns.map V.int) (ns.map PyData.int)
  | [] => .nil
  | n :: ns => .cons (.int n) (reps_ints ns)
end

/-- what a value reads as, just now -/
def View (K : PySem.W.Frag) (F H : Hp) (v : V) : D → Prop
  | .none => v = .non
  | .bool b => v = .bl b
  | .int i => v = .int i
  | .str x => v = .str x
  | .list ds => ∃ a vs, v = .ref a ∧ H a = some (.lst vs) ∧ Reps K F vs ds
  | .tuple ds => ∃ a vs, v = .ref a ∧ F a = some (.tup vs) ∧ Reps K F vs ds
  | .dict _ => False
/-- .. the script too -/
def ViewS (K : PySem.W.Frag) (F H : Hp) (v : V) : D → Prop
  | .list ds => ∃ a vs, v = .ref a ∧ SqL K H a vs ∧ Reps K F vs ds
  | .tuple ds => ∃ a vs, v = .ref a ∧ SqT K F a vs ∧ Reps K F vs ds
  | d => View K F H v d
/-- a dict's keys -/
def kD : L2.Key → D
  | .inl i => .int i
  | .inr x => .str x
def kDs (k : List L2.Key) : D := .tuple (k.map kD)
inductive KRel (K : PySem.W.Frag) (F : Hp) {κ : Type} (f : κ → D) : List (κ × V) → List (D × D) → Prop
  | nil : KRel K F f [] []
  | cons {k : κ} {v : V} {d : D} {r : List (κ × V)} {s : List (D × D)} : Rep K F v d → KRel K F f r s → KRel K F f ((k, v) :: r) ((f k, d) :: s)
def DAt (K : PySem.W.Frag) (F : Hp) (o : HO) : Bool → List (D × D) → Prop
  | false, kvs => ∃ ks, o = .dK ks ∧ KRel K F kD ks kvs
  | true, kvs => ∃ ks, o = .dT ks ∧ KRel K F kDs ks kvs
theorem KRel.mono {K : PySem.W.Frag} {F F' : Hp} {κ : Type} {f : κ → D} (e : Ex F F') : ∀ {ks : List (κ × V)} {kvs : List (D × D)}, KRel K F f ks kvs → KRel K F' f ks kvs
  | _, _, .nil => .nil
  | _, _, .cons a r => .cons (Rep.mono e _ a) (KRel.mono e r)
theorem DAt.mono {K : PySem.W.Frag} {F F' : Hp} {o : HO} (e : Ex F F') : ∀ {t : Bool} {kvs : List (D × D)}, DAt K F o t kvs → DAt K F' o t kvs
  | false, _, ⟨ks, h, r⟩ => ⟨ks, h, r.mono e⟩
  | true, _, ⟨ks, h, r⟩ => ⟨ks, h, r.mono e⟩
/-- a value of the small language -/
def RepR (K : PySem.W.Frag) (F : Hp) (α : List Addr) (v : V) : R → Prop
  | .d x => Rep K F v x
  | .loc n => ∃ a, v = .ref a ∧ α[n]? = some a
  | .scr ns => ∃ a, v = .ref a ∧ SqL K F a (ns.map V.int)
  | .kt ds => ∃ a vs, v = .ref a ∧ SqT K F a vs ∧ Reps K F vs ds
  | .dic t kvs => ∃ a o, v = .ref a ∧ F a = some o ∧ DAt K F o t kvs
inductive RepRs (K : PySem.W.Frag) (F : Hp) (α : List Addr) : List V → List R → Prop
  | nil : RepRs K F α [] []
  | cons {v : V} {vs : List V} {r : R} {rs : List R} : RepR K F α v r → RepRs K F α vs rs → RepRs K F α (v :: vs) (r :: rs)
def CellOk (K : PySem.W.Frag) (F H : Hp) (a : Addr) : Cell → Prop
  | .lst ds => ∃ vs, H a = some (.lst vs) ∧ Reps K F vs ds
  | .dct t kvs => ∃ o, H a = some o ∧ DAt K F o t kvs
/-- the store stands in the heap -/
structure SW (K : PySem.W.Frag) (H : Hp) (S : Store) (F : Hp) (α : List Addr) : Prop where
  sub : Ex F H
  len : α.length = S.length
  nd : α.Nodup
  out : ∀ a ∈ α, F a = none
  cell : ∀ (n : Nat) (a : Addr) (c : Cell), α[n]? = some a → S[n]? = some c → CellOk K F H a c
structure EnvOk (K : PySem.W.Frag) (F : Hp) (α : List Addr) (σ : L2.St) (ρ : Env) : Prop where
  len : ρ.length = σ.length
  at_ : ∀ (i : Nat) (r : R), ρ[i]? = some (some r) → ∃ v, σ[i]? = some (some v) ∧ RepR K F α v r
structure Ext (F : Hp) (α : List Addr) (F' : Hp) (α' : List Addr) : Prop where
  ex : Ex F F'
  pre : α <+: α'
theorem Ext.refl {F : Hp} {α : List Addr} : Ext F α F α := ⟨Evl.Ex.refl F, List.prefix_refl _⟩
theorem Ext.trans {F F' F'' : Hp} {α α' α'' : List Addr} (a : Ext F α F' α') (b : Ext F' α' F'' α'') : Ext F α F'' α'' := ⟨a.ex.trans b.ex, a.pre.trans b.pre⟩
theorem pre_get {α α' : List Addr} (p : α <+: α') {n : Nat} {a : Addr} (h : α[n]? = some a) : α'[n]? = some a := by
  obtain ⟨t, rfl⟩ := p
  rw [List.getElem?_append_left (List.getElem?_eq_some_iff.mp h).1]
  exact h

section
variable {K : PySem.W.Frag} {F F' H H' : Hp} {α α' : List Addr} {S S' : Store} {v : V} {σ : L2.St} {ρ : Env}
theorem RepR.mono (x : Ext F α F' α') : ∀ {r : R}, RepR K F α v r → RepR K F' α' v r
  | .d d, h => Rep.mono x.ex d h
  | .loc _, ⟨a, e, h⟩ => ⟨a, e, pre_get x.pre h⟩
  | .scr _, ⟨a, e, h⟩ => ⟨a, e, Evl.ex_l x.ex h⟩
  | .kt _, ⟨a, vs, e, h, r⟩ => ⟨a, vs, e, Evl.ex_t x.ex h, Reps.mono x.ex _ r⟩
  | .dic _ _, ⟨a, o, e, h, r⟩ => ⟨a, o, e, x.ex _ _ h, r.mono x.ex⟩
theorem RepRs.mono (x : Ext F α F' α') : ∀ {vs : List V} {rs : List R}, RepRs K F α vs rs → RepRs K F' α' vs rs
  | _, _, .nil => .nil
  | _, _, .cons a r => .cons (RepR.mono x a) (RepRs.mono x r)
theorem RepRs.length : ∀ {vs : List V} {rs : List R}, RepRs K F α vs rs → vs.length = rs.length
  | _, _, .nil => rfl
  | _, _, .cons _ r => congrArg Nat.succ r.length
theorem RepRs.get : ∀ {rs : List R} {vs : List V} {i : Nat} {r : R}, RepRs K F α vs rs → rs[i]? = some r → ∃ v, vs[i]? = some v ∧ RepR K F α v r
  | [], _, _, _, _, e => by simp at e
  | x :: ds, _, i, d, h, e => by
    cases h with
    | cons a r =>
      cases i with
      | zero =>
        have e' : x = d := by simpa using e
        subst e'
        exact ⟨_, rfl, a⟩
      | succ i =>
        obtain ⟨v, h1, h2⟩ := RepRs.get (i := i) (r := d) r (by simpa using e)
        exact ⟨v, by simpa using h1, h2⟩
theorem RepRs.pures : ∀ {rs : List R} {vs : List V} {ds : List D}, RepRs K F α vs rs → pures rs = some ds → Reps K F vs ds
  | [], _, _, h, e => by
    cases h
    cases (Option.some.inj e : [] = _)
    exact .nil
  | r :: rs, _, ds, h, e => by
    cases h with
    | cons a t =>
      unfold PC.pures at e
      cases q : PC.pures rs with
      | none => rw [q] at e; cases r <;> cases e
      | some xs =>
        rw [q] at e
        cases r with
        | d x =>
          cases (Option.some.inj e : x :: xs = ds)
          exact .cons a (RepRs.pures t q)
        | loc _ => cases e
        | scr _ => cases e
        | kt _ => cases e
        | dic _ _ => cases e
theorem EnvOk.mono (x : Ext F α F' α') (h : EnvOk K F α σ ρ) : EnvOk K F' α' σ ρ := ⟨h.len, fun i r e => let ⟨v, a, b⟩ := h.at_ i r e; ⟨v, a, b.mono x⟩⟩
theorem EnvOk.set {r : R} (h : EnvOk K F α σ ρ) (q : RepR K F α v r) (i : Nat) : EnvOk K F α (σ.set i (some v)) (ρ.set i (some r)) := by
  refine ⟨by simp [h.len], fun j r' e => ?_⟩
  by_cases hj : i = j
  · subst hj
    by_cases hi : i < ρ.length
    · rw [List.getElem?_set_self hi] at e
      cases e
      exact ⟨v, by rw [List.getElem?_set_self (h.len ▸ hi)], q⟩
    · rw [List.getElem?_eq_none (by simpa using hi)] at e
      cases e
  · rw [List.getElem?_set_ne hj] at e ⊢
    exact h.at_ j r' e
theorem EnvOk.clear (h : EnvOk K F α σ ρ) (i : Nat) : EnvOk K F α (σ.set i none) (ρ.set i none) := by
  refine ⟨by simp [h.len], fun j r' e => ?_⟩
  by_cases hj : i = j
  · subst hj
    by_cases hi : i < ρ.length
    · rw [List.getElem?_set_self hi] at e
      cases e
    · rw [List.getElem?_eq_none (by simpa using hi)] at e
      cases e
  · rw [List.getElem?_set_ne hj] at e ⊢
    exact h.at_ j r' e
theorem EnvOk.wipe (h : EnvOk K F α σ ρ) : ∀ vs : List Nat, EnvOk K F α (L2.wipe σ vs) (wipeE ρ vs)
  | [] => h
  | i :: vs => (EnvOk.wipe h vs).clear i
theorem View.of : ∀ {d : D}, Rep K F v d → Ex F H → View K F H v d
  | .none, h, _ => by cases h; rfl
  | .bool _, h, _ => by cases h; rfl
  | .int _, h, _ => by cases h; rfl
  | .str _, h, _ => by cases h; rfl
  | .list ds, h, e => by cases h with | lst a r => exact ⟨_, _, rfl, e _ _ a, r⟩
  | .tuple ds, h, e => by cases h with | tup a r => exact ⟨_, _, rfl, a, r⟩
  | .dict _, h, _ => by cases h
theorem View.s : ∀ {d : D}, View K F H v d → ViewS K F H v d
  | .none, h => h
  | .bool _, h => h
  | .int _, h => h
  | .str _, h => h
  | .list _, ⟨a, vs, e, h, r⟩ => ⟨a, vs, e, SqL.of h, r⟩
  | .tuple _, ⟨a, vs, e, h, r⟩ => ⟨a, vs, e, SqT.of h, r⟩
  | .dict _, h => h
theorem ViewS.dp (x : Ex F H) : ∀ {d : D}, ViewS K F H v d → Dp K H v d
  | .none, h => by cases (show v = _ from h); exact .non
  | .bool _, h => by cases (show v = _ from h); exact .bl _
  | .int _, h => by cases (show v = _ from h); exact .int _
  | .str _, h => by cases (show v = _ from h); exact .str _
  | .list _, ⟨a, vs, e, h, r⟩ => by subst e; exact .lst h (Reps.dp x _ r)
  | .tuple _, ⟨a, vs, e, h, r⟩ => by subst e; exact .tup (Evl.ex_t x h) (Reps.dp x _ r)
  | .dict _, h => (show False from h).elim
theorem SW.view (w : SW K H S F α) : ∀ {r : R} {d : D}, RepR K F α v r → viewD r S = some d → View K F H v d
  | .d x, d, h, e => by cases (Option.some.inj e : x = d); exact View.of h w.sub
  | .loc n, d, ⟨a, ev, ea⟩, e => by
    simp only [viewD] at e
    cases q : S[n]? with
    | none => rw [q] at e; cases e
    | some c =>
      cases c with
      | lst xs =>
        rw [q] at e
        cases (Option.some.inj e : PyData.list xs = d)
        obtain ⟨vs, h1, h2⟩ := w.cell n a _ ea q
        exact ⟨a, vs, ev, h1, h2⟩
      | dct _ _ =>
        rw [q] at e
        cases e
  | .scr _, _, _, e => by cases e
  | .kt _, _, _, e => by cases e
  | .dic _ _, _, _, e => by cases e
theorem SW.viewS (w : SW K H S F α) : ∀ {r : R} {d : D}, RepR K F α v r → viewS r S = some d → ViewS K F H v d
  | .d x, d, h, e => (w.view (r := .d x) h e).s
  | .loc n, d, h, e => (w.view (r := .loc n) h e).s
  | .scr ns, d, ⟨a, ev, ea⟩, e => by
    cases (Option.some.inj e : PyData.list _ = d)
    exact ⟨a, _, ev, Evl.ex_l w.sub ea, reps_ints ns⟩
  | .kt ds, d, ⟨a, vs, ev, ea, r⟩, e => by
    cases (Option.some.inj e : PyData.tuple ds = d)
    exact ⟨a, vs, ev, ea, r⟩
  | .dic _ _, _, _, e => by cases e
theorem SW.dict (w : SW K H S F α) : ∀ {r : R} {t : Bool} {kvs : List (D × D)}, RepR K F α v r → dictOf r S = some (t, kvs) → ∃ a o, v = .ref a ∧ H a = some o ∧ DAt K F o t kvs
  | .d _, _, _, _, e => by cases e
  | .scr _, _, _, _, e => by cases e
  | .kt _, _, _, _, e => by cases e
  | .dic t kvs, t', kvs', ⟨a, o, ev, ea, r⟩, e => by
    cases e
    exact ⟨a, o, ev, w.sub _ _ ea, r⟩
  | .loc n, t, kvs, ⟨a, ev, ea⟩, e => by
    simp only [dictOf] at e
    split at e
    · rename_i t' kvs' q
      cases e
      obtain ⟨o, h1, h2⟩ := w.cell n a _ ea q
      exact ⟨a, o, ev, h1, h2⟩
    · cases e
/-- a plain value (no changeable list) is in the frozen heap -/
theorem View.rep : ∀ {d : D}, View K F H v d → (∀ ds, d ≠ .list ds) → Rep K F v d
  | .none, h, _ => by cases (show v = _ from h); exact .non
  | .bool _, h, _ => by cases (show v = _ from h); exact .bl _
  | .int _, h, _ => by cases (show v = _ from h); exact .int _
  | .str _, h, _ => by cases (show v = _ from h); exact .str _
  | .list ds, _, n => (n ds rfl).elim
  | .tuple _, ⟨a, vs, e, h, r⟩, _ => by subst e; exact .tup h r
  | .dict _, h, _ => (show False from h).elim
theorem fresh_notin (w : SW K H S F α) {p : Addr} (hp : H p = none) : p ∉ α := fun hm => by
  obtain ⟨n, hn⟩ := List.mem_iff_getElem?.mp hm
  have hl : n < S.length := by rw [← w.len]; exact (List.getElem?_eq_some_iff.mp hn).1
  have := w.cell n p S[n] hn (List.getElem?_eq_getElem hl)
  cases hc : S[n] with
  | lst xs =>
    rw [hc] at this
    obtain ⟨vs, h1, _⟩ := this
    rw [hp] at h1
    cases h1
  | dct t kvs =>
    rw [hc] at this
    obtain ⟨o, h1, _⟩ := this
    rw [hp] at h1
    cases h1
theorem cellOk_mono {a : Addr} {c : Cell} (x : Ex F F') (h : H' a = H a) (q : CellOk K F H a c) : CellOk K F' H' a c := by
  cases c with
  | lst ds =>
    obtain ⟨vs, h1, h2⟩ := q
    exact ⟨vs, h.trans h1, Reps.mono x _ h2⟩
  | dct t kvs =>
    obtain ⟨o, h1, h2⟩ := q
    exact ⟨o, h.trans h1, h2.mono x⟩
/-- a new frozen object -/
theorem SW.frozen (w : SW K H S F α) {p : Addr} {o : HO} (hp : H p = none) : SW K (upd H p o) S (upd F p o) α ∧ Ext F α (upd F p o) α := by
  have hF : F p = none := Evl.fresh_back w.sub hp
  have xF : Ex F (upd F p o) := Evl.Ex.new hF
  have hn := fresh_notin w hp
  refine ⟨⟨fun a u h => ?_, w.len, w.nd, fun a ha => ?_, fun n a c h1 h2 => ?_⟩, ⟨xF, List.prefix_refl _⟩⟩
  · by_cases e : a = p
    · subst e; rw [upd_same] at h ⊢; exact h
    · rw [upd_ne e] at h ⊢; exact w.sub a u h
  · rw [upd_ne (fun e => hn (by rw [← e]; exact ha))]; exact w.out a ha
  · exact cellOk_mono xF (upd_ne (fun e => hn (by rw [← e]; exact List.mem_of_getElem? h1))) (w.cell n a c h1 h2)
/-- a new cell -/
theorem SW.celledG (w : SW K H S F α) {p : Addr} {o : HO} {cc : Cell} (hp : H p = none) (r : CellOk K F (upd H p o) p cc) : SW K (upd H p o) (S ++ [cc]) F (α ++ [p]) ∧ Ext F α F (α ++ [p]) := by
  have hF : F p = none := Evl.fresh_back w.sub hp
  have hn := fresh_notin w hp
  refine ⟨⟨fun a u h => ?_, by simp [w.len], ?_, fun a ha => ?_, fun n a c h1 h2 => ?_⟩, ⟨Evl.Ex.refl F, List.prefix_append _ _⟩⟩
  · rw [upd_ne (ne_of_none h hF)]; exact w.sub a u h
  · rw [List.nodup_append]
    refine ⟨w.nd, by simp, fun a ha b hb => ?_⟩
    have : b = p := by simpa using hb
    subst this
    exact fun e => hn (by rw [← e]; exact ha)
  · rcases List.mem_append.mp ha with ha | ha
    · exact w.out a ha
    · have : a = p := by simpa using ha
      subst this
      exact hF
  · by_cases hl : n < α.length
    · rw [List.getElem?_append_left hl] at h1
      rw [List.getElem?_append_left (w.len ▸ hl)] at h2
      exact cellOk_mono (Evl.Ex.refl F) (upd_ne (fun e => hn (by rw [← e]; exact List.mem_of_getElem? h1))) (w.cell n a c h1 h2)
    · have hn2 : n = α.length := by
        have := (List.getElem?_eq_some_iff.mp h1).1
        simp at this
        omega
      subst hn2
      rw [List.getElem?_append_right (Nat.le_refl _)] at h1
      rw [w.len, List.getElem?_append_right (Nat.le_refl _)] at h2
      simp at h1 h2
      subst h1 h2
      exact r
/-- a new changeable list -/
theorem SW.celled (w : SW K H S F α) {p : Addr} {vs : List V} {ds : List D} (hp : H p = none) (r : Reps K F vs ds) : SW K (upd H p (.lst vs)) (S ++ [.lst ds]) F (α ++ [p]) ∧ Ext F α F (α ++ [p]) := w.celledG hp ⟨vs, upd_same, r⟩
/-- a cell is changed -/
theorem SW.wroteG (w : SW K H S F α) {n : Nat} {a : Addr} {o : HO} {cc : Cell} (ha : α[n]? = some a) (r : CellOk K F (upd H a o) a cc) : SW K (upd H a o) (S.set n cc) F α := by
  have hF : F a = none := w.out a (List.mem_of_getElem? ha)
  refine ⟨fun b u h => ?_, by simp [w.len], w.nd, w.out, fun m b c h1 h2 => ?_⟩
  · rw [upd_ne (ne_of_none h hF)]; exact w.sub b u h
  · by_cases e : n = m
    · subst e
      have hl : n < S.length := by rw [← w.len]; exact (List.getElem?_eq_some_iff.mp ha).1
      rw [List.getElem?_set_self hl] at h2
      cases h2
      rw [ha] at h1
      cases h1
      exact r
    · rw [List.getElem?_set_ne e] at h2
      have hb : b ≠ a := fun z => by
        subst z
        obtain ⟨q1, e1⟩ := List.getElem?_eq_some_iff.mp ha
        obtain ⟨q2, e2⟩ := List.getElem?_eq_some_iff.mp h1
        exact e ((List.getElem_inj w.nd).mp (e1.trans e2.symm))
      exact cellOk_mono (Evl.Ex.refl F) (upd_ne hb) (w.cell m b c h1 h2)
/-- a changeable list is changed -/
theorem SW.wrote (w : SW K H S F α) {n : Nat} {a : Addr} {vs : List V} {ds : List D} (ha : α[n]? = some a) (r : Reps K F vs ds) : SW K (upd H a (.lst vs)) (setCell S n ds) F α := w.wroteG ha ⟨vs, upd_same, r⟩
theorem SW.at_ (w : SW K H S F α) {n : Nat} {a : Addr} {ds : List D} (ha : α[n]? = some a) (h : cellAt S n = some ds) : ∃ vs, H a = some (.lst vs) ∧ Reps K F vs ds := by
  unfold cellAt at h
  cases q : S[n]? with
  | none => rw [q] at h; cases h
  | some c =>
    cases c with
    | lst xs =>
      rw [q] at h
      cases h
      exact w.cell n a _ ha q
    | dct _ _ =>
      rw [q] at h
      cases h
end
end PC
end
section
/-! PcOps: the operations on plain values, by the layer's rules. -/
namespace PC
open PySem PySem.Spec PyProof.Rows L2

/-- a plain result -/
abbrev Fin1 (K : PySem.W.Frag) (F : Hp) (α : List Addr) (S : Store) (dz : D) (Q : VK) : Prop := ∀ v H' F' α', Ext F α F' α' → SW K H' S F' α' → Rep K F' v dz → Q v H'
/-- a new list -/
abbrev FinN (K : PySem.W.Frag) (F H : Hp) (ds : List D) (Q : VK) : Prop := ∀ p vs, H p = none → Reps K F vs ds → Q (.ref p) (upd H p (.lst vs))
/-- two plain operands -/
def rB (K : PySem.W.Frag) (f : D → D → Option D) : R2 := fun x y H Q => ∃ F α S dx dy dz, SW K H S F α ∧ View K F H x dx ∧ View K F H y dy ∧ f dx dy = some dz ∧ Fin1 K F α S dz Q
def rBN (K : PySem.W.Frag) (f : D → D → Option D) : R2 := fun x y H Q => ∃ F α S dx dy ds, SW K H S F α ∧ View K F H x dx ∧ View K F H y dy ∧ f dx dy = some (.list ds) ∧ FinN K F H ds Q
section
variable {K : PySem.W.Frag} {F H : Hp} {α : List Addr} {S : Store} {Q : VK}
theorem Fin1.here {dz : D} (q : Fin1 K F α S dz Q) (w : SW K H S F α) {v : V} (r : Rep K F v dz) : Q v H := q v H F α Ext.refl w r
theorem Fin1.list {ds : List D} (q : Fin1 K F α S (.list ds) Q) (w : SW K H S F α) : FinN K F H ds Q := fun p vs hp r => by
  obtain ⟨w', x⟩ := w.frozen (o := .lst vs) hp
  exact q _ _ _ _ x w' (.lst upd_same (Reps.mono x.ex _ r))
theorem Fin1.tup {ds : List D} (q : Fin1 K F α S (.tuple ds) Q) (w : SW K H S F α) {p : Addr} {vs : List V} (hp : H p = none) (r : Reps K F vs ds) : Q (.ref p) (upd H p (.tup vs)) := by
  obtain ⟨w', x⟩ := w.frozen (o := .tup vs) hp
  exact q _ _ _ _ x w' (.tup upd_same (Reps.mono x.ex _ r))
end
theorem sz_le {n : Nat} (h : szOk n = true) : n ≤ sizeLine := Nat.le_trans (Nat.le_of_ble_eq_true h) (by rw [sizeLine_eq]; decide)
theorem sz_lt {n : Nat} (h : szOk n = true) : n < sizeLine := Nat.lt_of_le_of_lt (Nat.le_of_ble_eq_true h) (by rw [sizeLine_eq]; decide)
theorem sm_of {i : Int} (h : smI i = true) : -(2 ^ 64) < i ∧ i < 2 ^ 64 := by
  have := of_decide_eq_true h
  omega
def Bop.py : Bop → Operator
  | .add => .Add | .sub => .Sub | .mul => .Mult | .div => .FloorDiv | .mod => .Mod | .pow => .Pow
def Cop.py : Cop → CmpOp
  | .eq => .Eq | .ne => .NotEq | .lt => .Lt | .le => .LtE | .gt => .Gt | .ge => .GtE | .inn => .In | .nin => .NotIn | .isn => .Is | .isnn => .IsNot
theorem flatV_of {K : PySem.W.Frag} {F H : Hp} {v : V} : ∀ {d : D}, View K F H v d → flat1 d = true → flatV v = true
  | .none, h, _ => by cases (show v = _ from h); rfl
  | .bool _, h, _ => by cases (show v = _ from h); rfl
  | .int _, h, _ => by cases (show v = _ from h); rfl
  | .str _, h, _ => by cases (show v = _ from h); rfl
  | .list _, _, e => by cases e
  | .tuple _, _, e => by cases e
  | .dict _, _, e => by cases e
theorem ViewS.flat {K : PySem.W.Frag} {F H : Hp} {v : V} : ∀ {d : D}, ViewS K F H v d → flat1 d = true → View K F H v d
  | .none, h, _ => h
  | .bool _, h, _ => h
  | .int _, h, _ => h
  | .str _, h, _ => h
  | .list _, _, e => by cases e
  | .tuple _, _, e => by cases e
  | .dict _, _, e => by cases e
theorem eqV_of {K : PySem.W.Frag} {F : Hp} {v w : V} : ∀ {d e : D}, Rep K F v d → Rep K F w e → flat1 d = true → flat1 e = true → eqV v w = PyData.eqv d e := by
  intro d e h1 h2 f1 f2
  cases h1 <;> first | (cases f1; done) | skip
  all_goals (cases h2 <;> first | (cases f2; done) | skip)
  all_goals first | rfl | simp [eqV, PyData.eqv]
theorem any_of {K : PySem.W.Frag} {F H : Hp} {v : V} {d : D} (hv : Rep K F v d) (fd : flat1 d = true) : ∀ {vs : List V} {ds : List D}, Reps K F vs ds → ds.all flat1 = true → vs.all flatV = true ∧ inV v vs = ds.any fun z => PyData.eqv z d
  | _, _, .nil, _ => ⟨rfl, rfl⟩
  | _, _, .cons (v := u) (d := z) a r, f => by
    rw [List.all_cons, Bool.and_eq_true] at f
    obtain ⟨h1, h2⟩ := any_of (H := H) hv fd r f.2
    refine ⟨by rw [List.all_cons, flatV_of (View.of a (Evl.Ex.refl F)) f.1, h1]; rfl, ?_⟩
    unfold inV at h2 ⊢
    rw [List.any_cons, List.any_cons, h2, eqV_of a hv f.1 fd]
section
variable {X : Cx}
theorem op_binN (o : Bop) : OpR X (binaryOp o.py) (rBN X.K (binD o)) := by
  intro pins s σ H x y v u Q I rx ry ⟨F, α, S, dx, dy, ds, w, hx, hy, e, q⟩
  cases dx <;> cases dy <;> first | (cases e; done) | skip
  · rename_i i j
    simp only [binD] at e
    cases h : binI o i j with
    | none => rw [h] at e; cases e
    | some z => rw [h] at e; cases e
  · cases o <;> first | (cases e; done) | skip
    simp only [binD] at e
    split at e <;> cases e
  · rename_i xs k
    cases o <;> first | (cases e; done) | skip
    simp only [binD] at e
    split at e
    · rename_i hs
      cases e
      obtain ⟨a, vs, ex, ha, ra⟩ := hx
      cases (show y = _ from hy)
      subst ex
      rw [Bool.and_eq_true] at hs
      have hk : k.natAbs ≤ 1000000 := Nat.le_of_ble_eq_true hs.1
      refine op_rep pins s σ H _ _ v u Q I rx ry ⟨a, k, vs, rfl, rfl, ha, by omega, by omega, ?_, fun p hp => q p _ hp (ra.rep _)⟩
      rw [ra.length]
      exact sz_le hs.2
    · cases e
  · rename_i xs ys
    cases o <;> first | (cases e; done) | skip
    simp only [binD] at e
    split at e
    · rename_i hs
      cases e
      obtain ⟨a, vs, ex, ha, ra⟩ := hx
      obtain ⟨b, ws, ey, hb, rb⟩ := hy
      subst ex ey
      refine op_cat pins s σ H _ _ v u Q I rx ry ⟨a, b, vs, ws, rfl, rfl, ha, hb, ?_, fun p hp => q p _ hp (ra.append rb)⟩
      rw [ra.length, rb.length]
      exact sz_le hs
    · cases e
  · cases o <;> first | (cases e; done) | skip
    simp only [binD] at e
    split at e <;> cases e
theorem op_binI (o : Bop) {i j z : Int} (h : binI o i j = some z) : ∀ (pins : List (Addr × Obj)) (s : Shared) (σ : L2.St) (H : Hp) (v u : Value) (Q : VK), Inv X pins σ H s → RelV (.int i) v → RelV (.int j) u → Q (.int z) H →
    wpAny (model X.prog X.w) X.A (binaryOp o.py v u) (EP X pins σ Q) X.xe s := by
  intro pins s σ H v u Q I rx ry q
  cases o with
  | add => cases h; exact op_add pins s σ H _ _ v u Q I rx ry ⟨i, j, rfl, rfl, q⟩
  | sub => cases h; exact op_sub pins s σ H _ _ v u Q I rx ry ⟨i, j, rfl, rfl, q⟩
  | mul =>
    simp only [binI] at h
    split at h
    · rename_i hs
      cases h
      rw [Bool.or_eq_true] at hs
      exact op_mul pins s σ H _ _ v u Q I rx ry ⟨i, j, rfl, rfl, hs.imp sm_of sm_of, q⟩
    · cases h
  | div =>
    simp only [binI] at h
    split at h
    · split at h
      · cases h
        rename_i h1 h2
        exact op_fdiv pins s σ H _ _ v u Q I rx ry ⟨i, j, rfl, rfl, ⟨h1, h2⟩, q⟩
      · cases h
    · split at h
      · split at h
        · cases h
          exact op_fdivN pins s σ H _ _ v u Q I rx ry ⟨i, j, rfl, rfl, ⟨by omega, by omega⟩, q⟩
        · cases h
      · cases h
  | mod =>
    simp only [binI] at h
    split at h
    · cases h
      rename_i h1
      exact op_mod pins s σ H _ _ v u Q I rx ry ⟨i, j, rfl, rfl, h1, q⟩
    · split at h
      · cases h
        exact op_modN pins s σ H _ _ v u Q I rx ry ⟨i, j, rfl, rfl, by omega, q⟩
      · cases h
  | pow =>
    simp only [binI] at h
    split at h
    · rename_i hs
      cases h
      rw [Bool.and_eq_true, Bool.and_eq_true] at hs
      exact op_pow pins s σ H _ _ v u Q I rx ry ⟨i, j, rfl, rfl, ⟨of_decide_eq_true hs.1.1, of_decide_eq_true hs.1.2, of_decide_eq_true hs.2⟩, q⟩
    · cases h
theorem op_bin (o : Bop) : OpR X (binaryOp o.py) (rB X.K (binD o)) := by
  intro pins s σ H x y v u Q I rx ry ⟨F, α, S, dx, dy, dz, w, hx, hy, e, q⟩
  cases dx <;> cases dy <;> first | (cases e; done) | skip
  · rename_i i j
    simp only [binD] at e
    cases h : binI o i j with
    | none => rw [h] at e; cases e
    | some z =>
      rw [h] at e
      cases e
      cases (show x = _ from hx)
      cases (show y = _ from hy)
      exact op_binI o h pins s σ H v u Q I rx ry (q.here w (.int z))
  · rename_i xs ys
    cases o <;> first | (cases e; done) | skip
    simp only [binD] at e
    split at e
    · rename_i hs
      cases e
      cases (show x = _ from hx)
      cases (show y = _ from hy)
      exact op_add_str pins s σ H _ _ v u Q I rx ry ⟨xs, ys, rfl, rfl, sz_le hs, q.here w (.str _)⟩
    · cases e
  · rename_i xs k
    cases o <;> first | (cases e; done) | skip
    have e' := e
    simp only [binD] at e'
    split at e'
    · cases e'
      exact op_binN .mul pins s σ H x y v u Q I rx ry ⟨F, α, S, .list xs, .int k, _, w, hx, hy, e, q.list w⟩
    · cases e'
  · rename_i xs ys
    cases o <;> first | (cases e; done) | skip
    have e' := e
    simp only [binD] at e'
    split at e'
    · cases e'
      exact op_binN .add pins s σ H x y v u Q I rx ry ⟨F, α, S, .list xs, .list ys, _, w, hx, hy, e, q.list w⟩
    · cases e'
  · rename_i xs ys
    cases o <;> first | (cases e; done) | skip
    simp only [binD] at e
    split at e
    · rename_i hs
      cases e
      obtain ⟨a, vs, ex, ha, ra⟩ := hx
      obtain ⟨b, ws, ey, hb, rb⟩ := hy
      subst ex ey
      refine op_catA pins s σ H _ _ v u Q I rx ry ⟨a, b, vs, ws, rfl, rfl, SqT.of (w.sub _ _ ha), SqT.of (w.sub _ _ hb), ?_, fun z => ?_, fun _ z => ?_, fun _ _ p hp => q.tup w hp (ra.append rb)⟩
      · rw [ra.length, rb.length]
        exact sz_le hs
      · subst z
        cases ra
        exact q.here w (.tup hb rb)
      · subst z
        cases rb
        rw [List.append_nil] at q
        exact q.here w (.tup ha ra)
    · cases e
/-- a comparison's rule: a truth value comes -/
def rC (K : PySem.W.Frag) (f : D → D → Option Bool) : R2 := fun x y H Q => ∃ F α S dx dy b, SW K H S F α ∧ ViewS K F H x dx ∧ ViewS K F H y dy ∧ f dx dy = some b ∧ Q (.bl b) H
theorem rel_none {x : V} {K : PySem.W.Frag} {F H : Hp} {d : D} {b : Bool} (h : ViewS K F H x d) (e : isN d = some b) : decide (x = .non) = b := by
  cases d <;> cases e
  · cases (show x = _ from h); rfl
  · cases (show x = _ from h); rfl
  · cases (show x = _ from h); rfl
  · cases (show x = _ from h); rfl
  · obtain ⟨a, vs, e, _⟩ := h; subst e; rfl
  · obtain ⟨a, vs, e, _⟩ := h; subst e; rfl
theorem op_isn : OpR X (compareOp .Is) (rC X.K fun d e => if isNone e = true then isN d else none) := by
  intro pins s σ H x y v u Q I rx ry ⟨F, α, S, dx, dy, b, w, hx, hy, e, q⟩
  cases dy <;> first | (cases e; done) | skip
  cases (show y = _ from hy)
  exact op_isN pins s σ H _ _ v u Q I rx ry ⟨rfl, by rw [rel_none hx e]; exact q⟩
theorem op_isnn : OpR X (compareOp .IsNot) (rC X.K fun d e => if isNone e = true then neg? (isN d) else none) := by
  intro pins s σ H x y v u Q I rx ry ⟨F, α, S, dx, dy, b, w, hx, hy, e, q⟩
  cases dy <;> first | (cases e; done) | skip
  cases (show y = _ from hy)
  have e' : neg? (isN dx) = some b := e
  cases h : isN dx with
  | none => rw [h] at e'; cases e'
  | some c =>
    rw [h] at e'
    cases e'
    exact op_notN pins s σ H _ _ v u Q I rx ry ⟨rfl, by rw [rel_none hx h]; exact q⟩
theorem op_eqq (hu : X.A.units + 65 < cLine) : OpR X (compareOp .Eq) (rC X.K eqD) := by
  intro pins s σ H x y v u Q I rx ry ⟨F, α, S, dx, dy, b, w, hx, hy, e, q⟩
  unfold eqD at e
  split at e
  · rename_i hs
    cases e
    rw [Bool.and_eq_true] at hs
    exact op_eqD (by omega) pins s σ H _ _ v u Q I rx ry ⟨dx, dy, hx.dp w.sub, hy.dp w.sub, hs.1, hs.2, q⟩
  · cases e
theorem op_neq (hu : X.A.units + 65 < cLine) : OpR X (compareOp .NotEq) (rC X.K fun d e => neg? (eqD d e)) := by
  intro pins s σ H x y v u Q I rx ry ⟨F, α, S, dx, dy, b, w, hx, hy, e, q⟩
  unfold eqD at e
  simp only at e
  split at e
  · rename_i hs
    cases e
    rw [Bool.and_eq_true] at hs
    exact op_neD (by omega) pins s σ H _ _ v u Q I rx ry ⟨dx, dy, hx.dp w.sub, hy.dp w.sub, hs.1, hs.2, q⟩
  · cases e
theorem op_inn (hu : X.A.units + 65 < cLine) : OpR X (compareOp .In) (rC X.K inD) := by
  intro pins s σ H x y v u Q I rx ry ⟨F, α, S, dx, dy, b, w, hx, hy, e, q⟩
  unfold inD at e
  split at e
  · split at e
    · rename_i hs
      cases e
      rw [Bool.and_eq_true] at hs
      exact op_inD hu pins s σ H _ _ v u Q I rx ry ⟨dx, _, hx.dp w.sub, hy.dp w.sub, hs.1, hs.2, q⟩
    · cases e
  · split at e
    · rename_i hs
      cases e
      rw [Bool.and_eq_true] at hs
      obtain ⟨a, vs, ey, hb, rb⟩ := hy
      subst ey
      have hr : Rep X.K F x dx := (hx.flat hs.1).rep fun ds z => by subst z; cases hs.1
      obtain ⟨h1, h2⟩ := any_of (H := H) hr hs.1 rb hs.2
      refine op_in_seq pins s σ H _ _ v u Q I rx ry ⟨a, vs, rfl, .inr (Evl.ex_t w.sub hb), flatV_of (hx.flat hs.1) hs.1, h1, ?_⟩
      show Q (.bl (inV x vs)) H
      rw [h2]
      exact q
    · cases e
  · cases e
theorem op_nin (hu : X.A.units + 65 < cLine) : OpR X (compareOp .NotIn) (rC X.K fun d e => neg? (inD d e)) := by
  intro pins s σ H x y v u Q I rx ry ⟨F, α, S, dx, dy, b, w, hx, hy, e, q⟩
  unfold inD at e
  simp only at e
  split at e
  · split at e
    · rename_i hs
      cases e
      rw [Bool.and_eq_true] at hs
      exact op_notInD hu pins s σ H _ _ v u Q I rx ry ⟨dx, _, hx.dp w.sub, hy.dp w.sub, hs.1, hs.2, q⟩
    · cases e
  · split at e
    · rename_i hs
      cases e
      rw [Bool.and_eq_true] at hs
      obtain ⟨a, vs, ey, hb, rb⟩ := hy
      subst ey
      have hr : Rep X.K F x dx := (hx.flat hs.1).rep fun ds z => by subst z; cases hs.1
      obtain ⟨h1, h2⟩ := any_of (H := H) hr hs.1 rb hs.2
      refine op_notIn_seq pins s σ H _ _ v u Q I rx ry ⟨a, vs, rfl, .inr (Evl.ex_t w.sub hb), flatV_of (hx.flat hs.1) hs.1, h1, ?_⟩
      show Q (.bl (!inV x vs)) H
      rw [h2]
      exact q
    · cases e
  · cases e
theorem op_cmpI (o : Cop) {i j : Int} {b : Bool} (h : cmpI o i j = some b) : ∀ (pins : List (Addr × Obj)) (s : Shared) (σ : L2.St) (H : Hp) (v u : Value) (Q : VK), Inv X pins σ H s → RelV (.int i) v → RelV (.int j) u → Q (.bl b) H →
    wpAny (model X.prog X.w) X.A (compareOp o.py v u) (EP X pins σ Q) X.xe s := by
  intro pins s σ H v u Q I rx ry q
  cases o <;> cases h
  · exact op_eq pins s σ H _ _ v u Q I rx ry ⟨rfl, by
      have e : decide (V.int i = V.int j) = decide (i = j) := by rw [Bool.eq_iff_iff]; simp
      rw [e]; exact q⟩
  · exact op_ne pins s σ H _ _ v u Q I rx ry ⟨rfl, by
      have e : decide (V.int i = V.int j) = decide (i = j) := by rw [Bool.eq_iff_iff]; simp
      rw [e]; exact q⟩
  · exact op_lt pins s σ H _ _ v u Q I rx ry ⟨i, j, rfl, rfl, q⟩
  · exact op_le pins s σ H _ _ v u Q I rx ry ⟨i, j, rfl, rfl, q⟩
  · exact op_gt pins s σ H _ _ v u Q I rx ry ⟨i, j, rfl, rfl, q⟩
  · exact op_ge pins s σ H _ _ v u Q I rx ry ⟨i, j, rfl, rfl, q⟩
theorem op_cmp (hu : X.A.units + 65 < cLine) (o : Cop) : OpR X (compareOp o.py) (rC X.K (cmpD o)) := by
  intro pins s σ H x y v u Q I rx ry ⟨F, α, S, dx, dy, b, w, hx, hy, e, q⟩
  by_cases hi : ∃ i j, dx = .int i ∧ dy = .int j
  · obtain ⟨i, j, rfl, rfl⟩ := hi
    cases (show x = _ from hx)
    cases (show y = _ from hy)
    exact op_cmpI o e pins s σ H v u Q I rx ry q
  · have e2 : cmpO o dx dy = some b := by
      rw [← e]
      cases dx <;> cases dy <;> first | rfl | exact (hi ⟨_, _, rfl, rfl⟩).elim
    cases o <;> first | (cases e2; done) | skip
    · exact op_eqq hu pins s σ H _ _ v u Q I rx ry ⟨F, α, S, dx, dy, b, w, hx, hy, e2, q⟩
    · exact op_neq hu pins s σ H _ _ v u Q I rx ry ⟨F, α, S, dx, dy, b, w, hx, hy, e2, q⟩
    · exact op_inn hu pins s σ H _ _ v u Q I rx ry ⟨F, α, S, dx, dy, b, w, hx, hy, e2, q⟩
    · exact op_nin hu pins s σ H _ _ v u Q I rx ry ⟨F, α, S, dx, dy, b, w, hx, hy, e2, q⟩
    · exact op_isn pins s σ H _ _ v u Q I rx ry ⟨F, α, S, dx, dy, b, w, hx, hy, e2, q⟩
    · exact op_isnn pins s σ H _ _ v u Q I rx ry ⟨F, α, S, dx, dy, b, w, hx, hy, e2, q⟩
end
end PC
end
section
/-! PcOps2: subscripts, slices, built-in functions, isinstance. -/
namespace PC
open PySem PySem.Spec PyProof.Rows L2

theorem atI_rep {K : PySem.W.Frag} {F : Hp} {vs : List V} {ds : List D} {i : Int} {d : D} (r : Reps K F vs ds) (e : atI ds i = some d) : ∃ v, atI vs i = some v ∧ Rep K F v d := by
  unfold atI at e ⊢
  rw [r.length]
  cases h : ixN ds.length i with
  | none => rw [h] at e; cases e
  | some j =>
    rw [h] at e
    exact r.get e
section
variable {X : Cx}
/-- two operands, the first read wide -/
def rBS (K : PySem.W.Frag) (f : D → D → Option D) : R2 := fun x y H Q => ∃ F α S dx dy dz, SW K H S F α ∧ ViewS K F H x dx ∧ ViewS K F H y dy ∧ f dx dy = some dz ∧ Fin1 K F α S dz Q
theorem ix_D : IxR X (rBS X.K ixD) := by
  intro value slice pins s σ H x y v u Q I rx ry ⟨F, α, S, dx, dy, dz, w, hx, hy, e, q⟩ hs
  cases dx <;> cases dy <;> first | (cases e; done) | skip
  · rename_i z i
    simp only [ixD] at e
    cases (show x = _ from hx)
    cases (show y = _ from hy)
    split at e
    · rename_i hz
      cases hc : atI z.cps.toList i with
      | none => rw [hc] at e; cases e
      | some c =>
        rw [hc] at e
        cases e
        exact ix_str value slice pins s σ H _ _ v u Q I rx ry ⟨z, i, c, rfl, rfl, sz_le hz, hc, q.here w (.str _)⟩ hs
    · cases e
  · rename_i xs i
    cases (show y = _ from hy)
    obtain ⟨a, vs, ex, ha, ra⟩ := hx
    subst ex
    obtain ⟨z, hz, rz⟩ := atI_rep ra e
    exact ix_list value slice pins s σ H _ _ v u Q I rx ry ⟨a, vs, i, z, rfl, rfl, ha, hz, q.here w rz⟩ hs
  · rename_i xs i
    cases (show y = _ from hy)
    obtain ⟨a, vs, ex, ha, ra⟩ := hx
    subst ex
    obtain ⟨z, hz, rz⟩ := atI_rep ra e
    exact ix_tup value slice pins s σ H _ _ v u Q I rx ry ⟨a, vs, i, z, rfl, rfl, Evl.ex_t w.sub ha, hz, q.here w rz⟩ hs
theorem get_list : PGet X (rIxL X.K) := by
  intro pins s σ H o i ov iv Q I ro ri h
  obtain ⟨p, xs, i, z, rfl, rfl, hq, he, q⟩ := h
  cases ro
  obtain ⟨t, rfl⟩ := ri
  obtain ⟨its, r, pl, hz⟩ := I.list hq
  obtain ⟨j, h1, h2, h3, h4, h5⟩ := atI_get he
  obtain ⟨w, ew, rw'⟩ := r.get h2
  have hl := r.length
  have hn := line63
  have fin : EP X pins σ Q w s := ⟨z, H, I, rw', q⟩
  by_cases h0 : 0 ≤ i
  · have hj : i.toNat = j := by
      rw [seqIndex_of h0 h5] at h1
      exact Option.some.inj h1
    exact wpAny_getItem_list pl.isList h0 (by omega) (by rw [hj]; simpa using ew) fin
  · have hj : (i + (its.toArray.size : Int)).toNat = j := by
      rw [seqIndex_neg (by omega) h4] at h1
      rw [List.size_toArray, ← hl]
      exact Option.some.inj h1
    exact wpAny_getItem_list_neg pl.isList (by omega) (by rw [List.size_toArray] <;> omega) (by omega) (by rw [hj]; simpa using ew) fin
/-! ### slices -/
abbrev PostR (K : PySem.W.Frag) (F : Hp) (α : List Addr) (S : Store) (r : R) (Q : VK) : Prop := ∀ v H' F' α', Ext F α F' α' → SW K H' S F' α' → RepR K F' α' v r → Q v H'
def rS (K : PySem.W.Frag) : V → Option Int → Option Int → Hp → VK → Prop := fun x lo hi H Q => ∃ F α S r r', SW K H S F α ∧ RepR K F α x r ∧ slR r S lo hi = some r' ∧ PostR K F α S r' Q
theorem cut_all {K : PySem.W.Frag} {F : Hp} {xs : List D} {vs : List V} {lo hi : Option Int} (ra : Reps K F vs xs) (hw : HT.sIx vs.length 0 lo = 0 ∧ HT.sIx vs.length vs.length hi = vs.length) : cut xs lo hi = xs := by
  unfold cut
  rw [← ra.length, hw.1, hw.2, List.drop_zero, ra.length, Nat.sub_zero]
  exact List.take_length
theorem sl_D : SlR X (rS X.K) := by
  intro pins s σ H x v vl vu lo hi sl Q I rx hs pl pu ⟨F, α, S, r, r', w, hr, e, q⟩
  have key : ∀ dx, viewS r S = some dx → (∀ xs, r ≠ .kt xs) → (match slD dx lo hi with
      | some z => some (R.d z)
      | none => none) = some r' → ∃ T id, typeLookup (.type T) "__getitem__" = pure (some (.builtin id)) ∧ s.TypeIs v T ∧ wpAny (model X.prog X.w) X.A (getItem v (.ref sl)) (EP X pins σ Q) X.xe s := fun dx hv hk e => by
    cases dx <;> first | (cases e; done) | skip
    · rename_i xs
      cases e
      obtain ⟨a, vs, ex, ha, ra⟩ := w.viewS hr hv
      subst ex
      refine sl_list pins s σ H _ v vl vu lo hi sl Q I rx hs pl pu ⟨a, vs, rfl, ha, fun p hp => ?_⟩
      refine Fin1.list (Q := Q) (fun v H' F' α' x w' rr => q v H' F' α' x w' rr) w p _ hp ?_
      unfold cutV cut
      rw [ra.length]
      exact (ra.drop _).take _
    · rename_i xs
      cases e
      have hd : r = .d (.tuple xs) := by
        cases r with
        | d y => exact congrArg R.d (Option.some.inj hv)
        | loc n =>
          simp only [viewS, viewD] at hv
          split at hv <;> cases hv
        | scr ns => cases hv
        | kt ys => exact (hk ys rfl).elim
        | dic _ _ => cases hv
      subst hd
      cases (show Rep X.K F x _ from hr) with
      | tup ha ra =>
        refine sl_tupA pins s σ H _ v vl vu lo hi sl Q I rx hs pl pu ⟨_, _, rfl, SqT.of (w.sub _ _ ha), fun hw => ?_, fun hw p hp => ?_⟩
        · have ec := cut_all ra hw
          rw [ec] at q
          exact q _ H F α Ext.refl w (.tup ha ra)
        · refine Fin1.tup (Q := Q) (fun v H' F' α' x w' rr => q v H' F' α' x w' rr) w hp ?_
          unfold cutV cut
          rw [ra.length]
          exact (ra.drop _).take _
  cases r with
  | d y => exact key y rfl (fun _ h => by cases h) e
  | loc n =>
    simp only [slR] at e
    cases hv : viewS (.loc n) S with
    | none => rw [hv] at e; cases e
    | some dx => rw [hv] at e; exact key dx hv (fun _ h => by cases h) e
  | scr ns => exact key _ rfl (fun _ h => by cases h) e
  | dic _ _ => cases e
  | kt xs =>
    cases e
    obtain ⟨a, vs, ex, ha, ra⟩ := hr
    subst ex
    refine sl_tupA pins s σ H _ v vl vu lo hi sl Q I rx hs pl pu ⟨a, vs, rfl, Evl.ex_t w.sub ha, fun hw => ?_, fun hw p hp => ?_⟩
    · have ec := cut_all ra hw
      rw [ec] at q
      exact q _ H F α Ext.refl w ⟨a, vs, rfl, ha, ra⟩
    · obtain ⟨w', x⟩ := w.frozen (o := .tup (cutV vs lo hi)) hp
      have rc : Reps X.K F (cutV vs lo hi) (cut xs lo hi) := by
        unfold cutV cut
        rw [ra.length]
        exact (ra.drop _).take _
      exact q _ _ _ _ x w' ⟨p, _, rfl, SqT.of upd_same, Reps.mono x.ex _ rc⟩
/-! ### built-in functions -/
def r1 (K : PySem.W.Frag) (f : D → Option D) : List V → Hp → VK → Prop := fun xs H Q => ∃ x F α S dx dz, xs = [x] ∧ SW K H S F α ∧ ViewS K F H x dx ∧ f dx = some dz ∧ Fin1 K F α S dz Q
def r1N (K : PySem.W.Frag) (f : D → Option D) : List V → Hp → VK → Prop := fun xs H Q => ∃ x F α S dx ds, xs = [x] ∧ SW K H S F α ∧ ViewS K F H x dx ∧ f dx = some (.list ds) ∧ FinN K F H ds Q
theorem b1_len : CallR X (.builtin "len") (r1 X.K (b1D .len)) := by
  intro pins s σ H xs us Q I r ⟨x, F, α, S, dx, dz, ex, w, hx, e, q⟩
  subst ex
  cases dx <;> first | (cases e; done) | skip
  · rename_i z
    simp only [b1D] at e
    cases (show x = _ from hx)
    split at e
    · rename_i hz
      cases e
      exact call_len_str pins s σ H _ us Q I r ⟨z, rfl, sz_le hz, q.here w (.int _)⟩
    · cases e
  · cases e
    obtain ⟨a, vs, ex, ha, ra⟩ := hx
    subst ex
    exact call_len_seq pins s σ H _ us Q I r ⟨a, vs, rfl, .inl ha, by rw [ra.length]; exact q.here w (.int _)⟩
  · cases e
    obtain ⟨a, vs, ex, ha, ra⟩ := hx
    subst ex
    exact call_len_seq pins s σ H _ us Q I r ⟨a, vs, rfl, .inr (Evl.ex_t w.sub ha), by rw [ra.length]; exact q.here w (.int _)⟩
theorem b1_int : CallR X (.type "int") (r1 X.K (b1D .int)) := by
  intro pins s σ H xs us Q I r ⟨x, F, α, S, dx, dz, ex, w, hx, e, q⟩
  subst ex
  cases dx <;> first | (cases e; done) | skip
  cases e
  cases (show x = _ from hx)
  exact call_int1 pins s σ H _ us Q I r (.inl ⟨_, rfl, q.here w (.int _)⟩)
theorem b1_abs : CallR X (.builtin "abs") (r1 X.K (b1D .abs)) := by
  intro pins s σ H xs us Q I r ⟨x, F, α, S, dx, dz, ex, w, hx, e, q⟩
  subst ex
  cases dx <;> first | (cases e; done) | skip
  cases e
  cases (show x = _ from hx)
  exact call_abs pins s σ H _ us Q I r ⟨_, rfl, q.here w (.int _)⟩
theorem b1_tuple : CallR X (.type "tuple") (r1 X.K (b1D .tuple)) := by
  intro pins s σ H xs us Q I r ⟨x, F, α, S, dx, dz, ex, w, hx, e, q⟩
  subst ex
  cases dx <;> first | (cases e; done) | skip
  · cases e
    obtain ⟨a, vs, ex, ha, ra⟩ := hx
    subst ex
    exact call_tuple_of pins s σ H _ us Q I r ⟨a, vs, rfl, .inl ⟨ha, fun l hl => q.tup w hl ra⟩⟩
theorem b1_listN : CallR X (.type "list") (r1N X.K (b1D .list)) := by
  intro pins s σ H xs us Q I r ⟨x, F, α, S, dx, ds, ex, w, hx, e, q⟩
  subst ex
  cases dx <;> first | (cases e; done) | skip
  · cases e
    obtain ⟨a, vs, ex, ha, ra⟩ := hx
    subst ex
    exact call_list_of pins s σ H _ us Q I r ⟨a, vs, rfl, .inl ha, fun l hl => q l _ hl ra⟩
  · cases e
    obtain ⟨a, vs, ex, ha, ra⟩ := hx
    subst ex
    exact call_list_of pins s σ H _ us Q I r ⟨a, vs, rfl, .inr (Evl.ex_t w.sub ha), fun l hl => q l _ hl ra⟩
theorem b1_list : CallR X (.type "list") (r1 X.K (b1D .list)) := by
  intro pins s σ H xs us Q I r ⟨x, F, α, S, dx, dz, ex, w, hx, e, q⟩
  have hl : ∃ ds, dz = .list ds := by
    cases dx <;> first | (cases e; done) | skip
    all_goals (cases e; exact ⟨_, rfl⟩)
  obtain ⟨ds, rfl⟩ := hl
  exact b1_listN pins s σ H xs us Q I r ⟨x, F, α, S, dx, ds, ex, w, hx, e, q.list w⟩
theorem b1_sum (hc : X.calm = true) : CallR X (.builtin "sum") (r1 X.K (b1D .sum)) := by
  intro pins s σ H xs us Q I r ⟨x, F, α, S, dx, dz, ex, w, hx, e, q⟩
  subst ex
  cases dx <;> first | (cases e; done) | skip
  rename_i ds
  simp only [b1D] at e
  obtain ⟨a, vs, ex, ha, ra⟩ := hx
  subst ex
  cases h : ints? ds with
  | none => rw [h] at e; cases e
  | some is =>
    rw [h] at e
    cases e
    exact cr_sum hc pins s σ H _ us Q I r ⟨a, is, rfl, by rw [← ra.ints h]; exact ha, q.here w (.int _)⟩
theorem b1_any (hc : X.calm = true) : CallR X (.builtin "any") (r1 X.K (b1D .any)) := by
  intro pins s σ H xs us Q I r ⟨x, F, α, S, dx, dz, ex, w, hx, e, q⟩
  subst ex
  cases dx <;> first | (cases e; done) | skip
  rename_i ds
  simp only [b1D] at e
  obtain ⟨a, vs, ex, ha, ra⟩ := hx
  subst ex
  cases h : bools? ds with
  | none => rw [h] at e; cases e
  | some is =>
    rw [h] at e
    cases e
    exact cr_any hc pins s σ H _ us Q I r ⟨a, is, rfl, by rw [← ra.bools h]; exact ha, q.here w (.bl _)⟩
theorem b1_all (hc : X.calm = true) : CallR X (.builtin "all") (r1 X.K (b1D .all)) := by
  intro pins s σ H xs us Q I r ⟨x, F, α, S, dx, dz, ex, w, hx, e, q⟩
  subst ex
  cases dx <;> first | (cases e; done) | skip
  rename_i ds
  simp only [b1D] at e
  obtain ⟨a, vs, ex, ha, ra⟩ := hx
  subst ex
  cases h : bools? ds with
  | none => rw [h] at e; cases e
  | some is =>
    rw [h] at e
    cases e
    exact cr_all hc pins s σ H _ us Q I r ⟨a, is, rfl, by rw [← ra.bools h]; exact ha, q.here w (.bl _)⟩
def r2 (K : PySem.W.Frag) (f : D → D → Option D) : List V → Hp → VK → Prop := fun xs H Q => ∃ x y F α S dx dy dz, xs = [x, y] ∧ SW K H S F α ∧ View K F H x dx ∧ View K F H y dy ∧ f dx dy = some dz ∧ Fin1 K F α S dz Q
theorem b2_max (hc : X.calm = true) : CallR X (.builtin "max") (r2 X.K (b2D .max)) := by
  intro pins s σ H xs us Q I r ⟨x, y, F, α, S, dx, dy, dz, ex, w, hx, hy, e, q⟩
  subst ex
  cases dx <;> cases dy <;> first | (cases e; done) | skip
  cases e
  cases (show x = _ from hx)
  cases (show y = _ from hy)
  exact call_max2 hc pins s σ H _ us Q I r ⟨_, _, rfl, q.here w (.int _)⟩
theorem b2_min (hc : X.calm = true) : CallR X (.builtin "min") (r2 X.K (b2D .min)) := by
  intro pins s σ H xs us Q I r ⟨x, y, F, α, S, dx, dy, dz, ex, w, hx, hy, e, q⟩
  subst ex
  cases dx <;> cases dy <;> first | (cases e; done) | skip
  cases e
  cases (show x = _ from hx)
  cases (show y = _ from hy)
  exact call_min2 hc pins s σ H _ us Q I r ⟨_, _, rfl, q.here w (.int _)⟩
/-! ### isinstance -/
def Ty.py : Ty → String
  | .tuple => "tuple" | .list => "list" | .int => "int" | .bool => "bool" | .str => "str"
def tyD : D → String
  | .none => "NoneType" | .bool _ => "bool" | .int _ => "int" | .str _ => "str" | .list _ => "list" | .tuple _ => "tuple" | .dict _ => "dict"
theorem tyX_of {K : PySem.W.Frag} {F H : Hp} {v : V} (x : Ex F H) : ∀ {d : D}, View K F H v d → TyX K H v (.type (tyD d))
  | .none, h => by cases (show v = _ from h); exact .base .non
  | .bool _, h => by cases (show v = _ from h); exact .base (.bl _)
  | .int _, h => by cases (show v = _ from h); exact .base (.int _)
  | .str _, h => by cases (show v = _ from h); exact .base (.str _)
  | .list _, h => by
    obtain ⟨a, vs, e, ha, _⟩ := h
    subst e
    exact .base (.lst ha)
  | .tuple _, h => by
    obtain ⟨a, vs, e, ha, _⟩ := h
    subst e
    exact .base (.tup (x _ _ ha))
  | .dict _, h => (show False from h).elim
theorem kit_is (d : D) (t : Ty) (b : Bool) (h : isD d t = some b) : kitB (tyD d) t.py = some b := by
  cases d <;> cases t <;> cases h <;> (simp only [tyD, Ty.py]; decide +kernel)
def rI1 (K : PySem.W.Frag) (t : Ty) : List V → Hp → VK → Prop := fun xs H Q => ∃ x F α S dx b, xs = [x, .ty t.py] ∧ SW K H S F α ∧ View K F H x dx ∧ isD dx t = some b ∧ Q (.bl b) H
theorem isi_D (t : Ty) : CallR X (.builtin "isinstance") (rI1 X.K t) := by
  intro pins s σ H xs us Q I r ⟨x, F, α, S, dx, b, ex, w, hx, e, q⟩
  subst ex
  exact call_isi pins s σ H _ us Q I r ⟨x, _, _, _, b, rfl, .ty _, tyX_of w.sub hx, kit_ty (kit_is dx t b e), q⟩
end
end PC
end
section
/-! PcSort: sorted, of numbers and of tuples of numbers. -/
namespace PC
open PySem PySem.Spec PyProof.Rows L2

theorem ltL_asym : ∀ x y : List Int, ltL x y = true → ltL y x = false
  | [], [], h => by cases h
  | [], _ :: _, _ => rfl
  | _ :: _, [], h => by cases h
  | a :: x, b :: y, h => by
    unfold ltL at h ⊢
    by_cases e : a = b
    · rw [if_pos e] at h
      rw [if_pos e.symm]
      exact ltL_asym x y h
    · rw [if_neg e] at h
      rw [if_neg (fun z => e z.symm)]
      have := of_decide_eq_true h
      exact decide_eq_false (by omega)
theorem ltL_tr : ∀ x y z : List Int, ltL y x = false → ltL z y = false → ltL z x = false
  | [], _, [], _, _ => rfl
  | [], [], _ :: _, _, _ => rfl
  | [], _ :: _, _ :: _, _, _ => rfl
  | a :: x, [], _, h, _ => by cases h
  | a :: x, b :: y, [], h, h' => by cases h'
  | a :: x, b :: y, c :: z, h, h' => by
    unfold ltL at h h' ⊢
    by_cases e : b = a
    · rw [if_pos e] at h
      by_cases e' : c = b
      · rw [if_pos e'] at h'
        rw [if_pos (e'.trans e)]
        exact ltL_tr x y z h h'
      · rw [if_neg e'] at h'
        have := of_decide_eq_false h'
        rw [if_neg (fun q => e' (q.trans e.symm))]
        exact decide_eq_false (by omega)
    · rw [if_neg e] at h
      have h1 := of_decide_eq_false h
      by_cases e' : c = b
      · rw [if_pos e'] at h'
        rw [if_neg (fun q => e (e'.symm.trans q))]
        exact decide_eq_false (by omega)
      · rw [if_neg e'] at h'
        have h2 := of_decide_eq_false h'
        by_cases e3 : c = a
        · omega
        · rw [if_neg e3]
          exact decide_eq_false (by omega)
theorem ltL_anti : ∀ x y : List Int, ltL x y = false → ltL y x = false → x = y
  | [], [], _, _ => rfl
  | [], _ :: _, h, _ => by cases h
  | _ :: _, [], _, h => by cases h
  | a :: x, b :: y, h, h' => by
    unfold ltL at h h'
    by_cases e : a = b
    · rw [if_pos e] at h
      rw [if_pos e.symm] at h'
      rw [e, ltL_anti x y h h']
    · rw [if_neg e] at h
      rw [if_neg (fun z => e z.symm)] at h'
      have := of_decide_eq_false h
      have := of_decide_eq_false h'
      omega
theorem swo_ltL {α : Type} (k : α → List Int) : SrtO.Swo fun v u => ltL (k v) (k u) := ⟨fun x y => ltL_asym _ _, fun x y z => ltL_tr _ _ _⟩
/-- a tuple of numbers, not empty -/
def IsInts (h : Heap) (v : Value) (ns : List Int) : Prop := ∃ a o its n, v = .ref a ∧ h.get? a = some o ∧ o.cls = .type "tuple" ∧ o.data = .seq (its : List Value).toArray n ∧ IntsAre its ns ∧ ns ≠ []
theorem IsInts.keeps {h h' : Heap} {v : Value} {ns : List Int} (p : IsInts h v ns) (k : ∀ b o, h.get? b = some o → o.cls = .type "tuple" → h'.get? b = some o) : IsInts h' v ns := by
  obtain ⟨a, o, its, n, e, ho, hc, hd, hi, hn⟩ := p
  exact ⟨a, o, its, n, e, k a o ho hc, hc, hd, hi, hn⟩
section
variable {prog : Program} {w : World} {A : Around} {E : Value → Shared → Prop} {s : Shared}
theorem lex_ints {Q : Bool → Shared → Prop} {fin : Bool} : ∀ {its jts : List Value} {is js : List Int} (i : Nat), IntsAre its is → IntsAre jts js → fin = decide (is.length < js.length) → Q (ltL is js) s → PySem.W.KatLex prog w A true fin Q (its.zip jts) i s
  | _, _, _, _, i, .nil, .nil, hf, q => by
    subst hf
    exact q
  | _, _, _, _, i, .nil, .cons y u hy, hf, q => by
    have e : fin = true := hf.trans (decide_eq_true (by simp))
    subst e
    exact q
  | _, _, _, _, i, .cons x t hx, .nil, hf, q => by
    have e : fin = false := hf.trans (decide_eq_false (by simp))
    subst e
    exact q
  | _, _, _, _, i, .cons x t hx, .cons y u hy, hf, q => by
    refine PySem.W.kat_cons (SeqAt.EqAt.int_int x t y u prog w _ _ ?_)
    refine PySem.W.kat_go (fun e1 => ?_) (fun e1 => ?_)
    · have ex : x = y := by simpa using e1
      refine PySem.W.kat_yes (lex_ints (i + 1) hx hy ?_ ?_)
      · rw [hf]
        simp
      · unfold ltL at q
        rw [if_pos ex] at q
        exact q
    · have ex : ¬ x = y := by simpa using e1
      unfold ltL at q
      rw [if_neg ex] at q
      refine PySem.W.kat_no ?_
      cases i with
      | zero => exact TS.oneLt_ints _ q
      | succ i => exact PySem.W.kat_one _ _ (PyProof.Rows.lt_int q)
theorem ints_len {its : List Value} {is : List Int} (h : IntsAre its is) : its.length = is.length := by
  induction h with
  | nil => rfl
  | cons _ _ _ ih => rw [List.length_cons, List.length_cons, ih]
theorem ints_cmp {vs : List Value} {k : Value → List Int} (hp : ∀ v ∈ vs, IsInts s.heap v (k v)) : SrtO.Cmp prog w A s (tuples' true) (fun p => p.1 ∈ vs) (SrtO.lt2 fun v u => ltL (k v) (k u)) := by
  intro p q hm hm'
  have h1 := hp _ hm
  have h2 := hp _ hm'
  show wpAny (model prog w) A (keyLt' (tuples' true) p.1 q.1) (fun r s' => s' = s ∧ r = ltL (k p.1) (k q.1)) (fun _ _ => False) s
  generalize k p.1 = x at h1 ⊢
  generalize k q.1 = y at h2 ⊢
  obtain ⟨a, o, its, n, e, ho, hc, hd, hi, _⟩ := h1
  obtain ⟨a', o', jts, n', e', ho', hc', hd', hj, _⟩ := h2
  rw [e, e']
  refine PySem.W.kat_lt ho hd ho' hd' ?_
  refine lex_ints 0 hi hj ?_ ⟨rfl, rfl⟩
  rw [List.size_toArray, List.size_toArray, ints_len hi, ints_len hj]
theorem firsts_ints {h : Heap} {k : Value → List Int} : ∀ {vs : List Value}, (∀ v ∈ vs, IsInts h v (k v)) → ∃ fs : List Value, PySem.W.KatTups h vs fs ∧ fs.length = vs.length ∧ ∀ f ∈ fs, ∃ x t, f = Value.int x t
  | [], _ => ⟨[], PySem.W.KatTups.nil, rfl, fun f hf => absurd hf (by simp)⟩
  | v :: vs, hp => by
    obtain ⟨fs, h1, h2, h3⟩ := firsts_ints fun u hu => hp u (List.mem_cons_of_mem _ hu)
    obtain ⟨a, o, its, n, e, ho, hc, hd, hi, hn⟩ := hp v List.mem_cons_self
    generalize hk : k v = ns at hi hn
    cases hi with
    | nil => exact (hn rfl).elim
    | cons x t hi =>
      subst e
      refine ⟨.int x t :: fs, PySem.W.KatTups.cons ho hc hd (by simp) h1, congrArg Nat.succ h2, fun f hf => ?_⟩
      rcases List.mem_cons.mp hf with e | hf
      · exact ⟨x, t, e⟩
      · exact h3 f hf
theorem ints_sortableO {a : Addr} {vs : List Value} {k : Value → List Int} (h0 : 0 < vs.length) (hp : ∀ v ∈ vs, IsInts s.heap v (k v)) (ha : ∀ o, s.heap.get? a = some o → o.cls ≠ .type "tuple") : SrtO.SortableO prog w A s a vs fun v u => ltL (k v) (k u) := by
  intro h' keep
  have hp' : ∀ v ∈ vs, IsInts h' v (k v) := fun v hm => (hp v hm).keeps fun b o e c => keep b o (fun z => by subst z; exact ha o e c) e
  obtain ⟨fs, h1, h2, h3⟩ := firsts_ints hp'
  refine ⟨tuples' true, fun Q E hq => ?_, ints_cmp hp'⟩
  refine PySem.W.kat_kind (T := .type "int") h1 (by omega) (fun f hm => ?_) (by rfl) ?_
  · obtain ⟨x, t, rfl⟩ := h3 f hm
    exact PySem.W.Looks.now
  · have e : (Value.type "int" != Value.type "tuple") = true := by first | decide +kernel | rfl | decide
    rw [e]
    exact hq
theorem sorted_intsO {l : Addr} {vs : List Value} {k : Value → List Int} {Q : Value → Shared → Prop} (hl : s.heap.IsList l vs.toArray) (hz : vs.length ≤ sizeLine) (hp : ∀ v ∈ vs, IsInts s.heap v (k v))
    (h : ∀ (h' : Heap) (d : Addr) (out : List Value), SrtO.Srtd (fun v u => ltL (k v) (k u)) out → SrtO.Stb (fun v u => ltL (k v) (k u)) out vs → (∀ b o, s.heap.get? b = some o → h'.get? b = some o) → s.heap.objs.size ≤ d → (∃ n, h'.get? d = some (seqObj "list" out.toArray n)) → Q (.ref d) { s with heap := h' }) :
    wpAny (model prog w) A (call (.builtin "sorted") [.ref l]) Q E s := by
  refine SrtO.sorted_ord (swo_ltL k) hl hz (fun h2 h₁ a ha kk => ?_) fun out hs hb => ?_
  · refine ints_sortableO (s := { s with heap := h₁ }) (by omega) (fun v hm => (hp v hm).keeps fun b o e _ => (kk b o e).2) fun o e => ?_
    have e' : some o = some (seqObj "list" vs.toArray 0) := e.symm.trans ha
    cases e'
    intro c
    exact absurd (Value.type.inj c) (by decide)
  · exact h _ _ out hs hb (fun b o e => PyProof.Rows.sortedAll_old e) (Nat.le_succ _) (PyProof.Rows.sortedAll_at s.heap vs out.toArray)
end
/-- sorted(xs), tuples of numbers -/
def rSortTI (K : PySem.W.Frag) : List V → Hp → VK → Prop := fun vs H Q => ∃ (a : Addr) (xs : List V) (k : V → List Int), vs = [V.ref a] ∧ SqL K H a xs ∧ (∀ x ∈ xs, ∃ t, x = V.ref t ∧ H t = some (.tup ((k x).map V.int)) ∧ k x ≠ []) ∧
  ∀ ys p, SrtO.Srtd (fun x y => ltL (k x) (k y)) ys → ys.Perm xs → H p = none → Q (.ref p) (upd H p (.lst ys))
section
variable {X : Cx}
theorem cr_sortTI : CallR X (.builtin "sorted") (rSortTI X.K) := by
  intro pins s σ H vs us Q I r h
  obtain ⟨a, xs, k, rfl, hs, hx, q⟩ := h
  obtain ⟨its, rv, hl, hz⟩ := I.list hs
  obtain ⟨u, rfl, ru⟩ := vals1 r
  obtain rfl : u = Value.ref a := ru
  obtain ⟨e1, e2⟩ := refs_back rv fun x m => by
    obtain ⟨t, e, _⟩ := hx x m
    exact ⟨t, e⟩
  refine sorted_intsO (k := fun u => k (backV u)) hl.isList (by rw [← rv.length]; exact hz) (fun v hv => ?_) fun h' d out h1 h2 kp hd hn => ?_
  · obtain ⟨t, rfl⟩ := e2 v hv
    have hm : V.ref t ∈ xs := by rw [e1]; exact List.mem_map.mpr ⟨_, hv, rfl⟩
    obtain ⟨t', e, ht, hne⟩ := hx _ hm
    cases e
    obtain ⟨_, its2, r2, o, ho, hc, n, hd⟩ := I.hok _ _ ht
    exact ⟨t, o, its2, n, rfl, ho, hc, hd, r2.ints, hne⟩
  · have h3 : ∀ u ∈ out, ∃ a, u = Value.ref a := fun u hu => e2 u (h2.perm.mem_iff.mp hu)
    obtain ⟨n, hn⟩ := hn
    have hb : (out.map backV).Perm xs := by
      rw [e1]
      exact h2.perm.map backV
    refine ⟨.ref d, upd H d (.lst (out.map backV)), I.laid (t' := s.toks) kp hd ⟨?_, out, n, vals_back h3, hn⟩, rfl, q _ d (List.pairwise_map.mpr h1) hb (I.hok.fresh hd)⟩
    rw [hb.length_eq]
    exact hz
/-! ### on plain values -/
theorem reps_perm {K : PySem.W.Frag} {F : Hp} : ∀ {ys xs : List V}, ys.Perm xs → ∀ {ds : List D}, Reps K F xs ds → ∃ es, Reps K F ys es ∧ es.Perm ds := by
  intro ys xs h
  induction h with
  | nil => exact fun r => ⟨_, r, List.Perm.refl _⟩
  | cons x _ ih =>
    intro ds r
    cases r with
    | cons a r =>
      obtain ⟨es, h1, h2⟩ := ih r
      exact ⟨_, .cons a h1, h2.cons _⟩
  | swap x y l =>
    intro ds r
    cases r with
    | cons a r =>
      cases r with
      | cons b r => exact ⟨_, .cons b (.cons a r), List.Perm.swap _ _ _⟩
  | trans _ _ ih1 ih2 =>
    intro ds r
    obtain ⟨es, h1, h2⟩ := ih2 r
    obtain ⟨es', h3, h4⟩ := ih1 h1
    exact ⟨es', h3, h4.trans h2⟩
theorem insD_perm (x : D) : ∀ l : List D, (insD x l).Perm (x :: l)
  | [] => List.Perm.refl _
  | y :: r => by
    unfold insD
    split
    · exact ((insD_perm x r).cons y).trans (List.Perm.swap _ _ _)
    · exact List.Perm.refl _
theorem isort_perm : ∀ l : List D, (isort l).Perm l
  | [] => List.Perm.refl _
  | x :: r => (insD_perm x (isort r)).trans ((isort_perm r).cons x)
/-- an order that the sort keeps -/
structure OrdD (P : D → Prop) : Prop where
  asym : ∀ x y, P x → P y → ltD x y = true → ltD y x = false
  tr : ∀ x y z, P x → P y → P z → ltD y x = false → ltD z y = false → ltD z x = false
  anti : ∀ x y, P x → P y → ltD x y = false → ltD y x = false → x = y
theorem insD_srt {P : D → Prop} (O : OrdD P) {x : D} (hx : P x) : ∀ {l : List D}, (∀ y ∈ l, P y) → l.Pairwise (fun a b => ltD b a = false) → (insD x l).Pairwise (fun a b => ltD b a = false)
  | [], _, _ => List.pairwise_singleton _ _
  | y :: r, hP, h => by
    obtain ⟨h1, h2⟩ := List.pairwise_cons.mp h
    have hy := hP y List.mem_cons_self
    have hr := fun z hz => hP z (List.mem_cons_of_mem _ hz)
    unfold insD
    split
    · rename_i hlt
      refine List.pairwise_cons.mpr ⟨fun z hz => ?_, insD_srt O hx hr h2⟩
      rcases List.mem_cons.mp ((insD_perm x r).mem_iff.mp hz) with e | hz
      · subst e
        exact O.asym _ _ hy hx hlt
      · exact h1 z hz
    · rename_i hlt
      have hlt' : ltD y x = false := by simpa using hlt
      refine List.pairwise_cons.mpr ⟨fun z hz => ?_, h⟩
      rcases List.mem_cons.mp hz with e | hz
      · subst e
        exact hlt'
      · exact O.tr x y z hx hy (hr z hz) hlt' (h1 z hz)
theorem isort_srt {P : D → Prop} (O : OrdD P) : ∀ {l : List D}, (∀ y ∈ l, P y) → (isort l).Pairwise (fun a b => ltD b a = false)
  | [], _ => List.Pairwise.nil
  | x :: r, h => insD_srt O (h x List.mem_cons_self) (fun y hy => h y (List.mem_cons_of_mem _ ((isort_perm r).mem_iff.mp hy))) (isort_srt O fun y hy => h y (List.mem_cons_of_mem _ hy))
theorem isort_is {P : D → Prop} (O : OrdD P) {l m : List D} (h : ∀ y ∈ l, P y) (hp : m.Perm l) (hs : m.Pairwise (fun a b => ltD b a = false)) : m = isort l := by
  refine List.Perm.eq_of_pairwise (le := fun a b => ltD b a = false) (fun a b ha hb h1 h2 => ?_) hs (isort_srt O h) (hp.trans (isort_perm l).symm)
  exact O.anti a b (h a (hp.mem_iff.mp ha)) (h b ((isort_perm l).mem_iff.mp hb)) h2 h1
theorem ordI : OrdD (fun d => isI d = true) := by
  refine ⟨fun x y hx hy h => ?_, fun x y z hx hy hz h h' => ?_, fun x y hx hy h h' => ?_⟩
  · cases x <;> first | (cases hx; done) | skip
    cases y <;> first | (cases hy; done) | skip
    have := of_decide_eq_true (show decide (_ < _) = true from h)
    exact decide_eq_false (by omega)
  · cases x <;> first | (cases hx; done) | skip
    cases y <;> first | (cases hy; done) | skip
    cases z <;> first | (cases hz; done) | skip
    have h1 := of_decide_eq_false (show decide (_ < _) = false from h)
    have h2 := of_decide_eq_false (show decide (_ < _) = false from h')
    exact decide_eq_false (by omega)
  · cases x <;> first | (cases hx; done) | skip
    cases y <;> first | (cases hy; done) | skip
    have h1 := of_decide_eq_false (show decide (_ < _) = false from h)
    have h2 := of_decide_eq_false (show decide (_ < _) = false from h')
    exact congrArg PyData.int (by omega)
theorem isTI_of {d : D} (h : isTI d = true) : ∃ ds is, d = .tuple ds ∧ ints? ds = some is ∧ is ≠ [] := by
  cases d <;> first | (cases h; done) | skip
  rename_i ds
  cases ds with
  | nil => cases h
  | cons x xs =>
    have h' : (match ints? (x :: xs) with
      | some _ => true
      | none => false) = true := h
    cases q : ints? (x :: xs) with
    | none => rw [q] at h'; cases h'
    | some is =>
      refine ⟨_, is, rfl, q, fun e => ?_⟩
      subst e
      cases x <;> first | (cases q; done) | skip
      simp only [ints?] at q
      split at q <;> cases q
theorem ints_inj : ∀ {ds es : List D} {is : List Int}, ints? ds = some is → ints? es = some is → ds = es := by
  have key : ∀ {ds : List D} {is : List Int}, ints? ds = some is → ds = is.map PyData.int := by
    intro ds
    induction ds with
    | nil => intro is h; cases h; rfl
    | cons d ds ih =>
      intro is h
      cases d <;> first | (cases h; done) | skip
      simp only [ints?] at h
      split at h
      · rename_i js hj
        cases h
        rw [ih hj]
        rfl
      · cases h
  intro ds es is h h'
  rw [key h, key h']
theorem ltD_t {ds es : List D} {is js : List Int} (h : ints? ds = some is) (h' : ints? es = some js) : ltD (.tuple ds) (.tuple es) = ltL is js := by
  simp only [ltD, h, h']
theorem ordTI : OrdD (fun d => isTI d = true) := by
  refine ⟨fun x y hx hy h => ?_, fun x y z hx hy hz h h' => ?_, fun x y hx hy h h' => ?_⟩
  · obtain ⟨ds, is, rfl, h1, _⟩ := isTI_of hx
    obtain ⟨es, js, rfl, h2, _⟩ := isTI_of hy
    rw [ltD_t h1 h2] at h
    rw [ltD_t h2 h1]
    exact ltL_asym _ _ h
  · obtain ⟨ds, is, rfl, h1, _⟩ := isTI_of hx
    obtain ⟨es, js, rfl, h2, _⟩ := isTI_of hy
    obtain ⟨fs, ks, rfl, h3, _⟩ := isTI_of hz
    rw [ltD_t h2 h1] at h
    rw [ltD_t h3 h2] at h'
    rw [ltD_t h3 h1]
    exact ltL_tr _ _ _ h h'
  · obtain ⟨ds, is, rfl, h1, _⟩ := isTI_of hx
    obtain ⟨es, js, rfl, h2, _⟩ := isTI_of hy
    rw [ltD_t h1 h2] at h
    rw [ltD_t h2 h1] at h'
    have e := ltL_anti _ _ h h'
    subst e
    rw [ints_inj h1 h2]
/-- what stands at a tuple of numbers -/
def iV : V → Int
  | .int i => i
  | _ => 0
def kOf (H : Hp) : V → List Int
  | .ref t => match H t with
    | some (.tup us) => us.map iV
    | _ => []
  | _ => []
theorem kOf_rep {K : PySem.W.Frag} {F H : Hp} (x : Ex F H) {v : V} {ds : List D} {is : List Int} (r : Rep K F v (.tuple ds)) (h : ints? ds = some is) : ∃ t, v = .ref t ∧ H t = some (.tup ((kOf H v).map V.int)) ∧ kOf H v = is := by
  cases r with
  | tup ha ra =>
    rename_i a vs
    have e := ra.ints h
    subst e
    have hk : kOf H (.ref a) = is := by
      have hh := x _ _ ha
      unfold kOf
      simp only [hh, List.map_map]
      have : (iV ∘ V.int) = id := rfl
      rw [this, List.map_id]
    refine ⟨a, rfl, ?_, hk⟩
    rw [hk]
    exact x _ _ ha
theorem srt_reps {K : PySem.W.Frag} {F H : Hp} (x : Ex F H) : ∀ {ys : List V} {es : List D}, Reps K F ys es → (∀ d ∈ es, isTI d = true) → SrtO.Srtd (fun x y => ltL (kOf H x) (kOf H y)) ys → es.Pairwise (fun a b => ltD b a = false) := by
  intro ys es h
  induction es generalizing ys with
  | nil => intro _ _; exact List.Pairwise.nil
  | cons d es ih =>
    intro hP hs
    cases h with
    | cons a r =>
      obtain ⟨s1, s2⟩ := List.pairwise_cons.mp hs
      refine List.pairwise_cons.mpr ⟨fun e he => ?_, ih r (fun z hz => hP z (List.mem_cons_of_mem _ hz)) s2⟩
      obtain ⟨i, hi⟩ := List.mem_iff_getElem?.mp he
      obtain ⟨v, hv, rv⟩ := r.get hi
      obtain ⟨ds, is, rfl, h1, _⟩ := isTI_of (hP d List.mem_cons_self)
      obtain ⟨fs, js, rfl, h2, _⟩ := isTI_of (hP e (List.mem_cons_of_mem _ he))
      obtain ⟨_, _, _, k1⟩ := kOf_rep x a h1
      obtain ⟨_, _, _, k2⟩ := kOf_rep x rv h2
      have this : ltL (kOf H v) (kOf H _) = false := s1 v (List.mem_of_getElem? hv)
      rw [k1, k2] at this
      rw [ltD_t h2 h1]
      exact this
theorem all_isI {ds : List D} (h : ds.all isI = true) : ∃ is, ints? ds = some is ∧ ds = is.map PyData.int := by
  induction ds with
  | nil => exact ⟨[], rfl, rfl⟩
  | cons d ds ih =>
    rw [List.all_cons, Bool.and_eq_true] at h
    obtain ⟨is, h1, h2⟩ := ih h.2
    cases d <;> first | (cases h.1; done) | skip
    rename_i i
    refine ⟨i :: is, ?_, ?_⟩
    · simp only [ints?, h1]
    · rw [List.map_cons, ← h2]
theorem maxI_is : ∀ (l : List Int) (m : Int), (maxI m l ∈ m :: l) ∧ ∀ y ∈ m :: l, y ≤ maxI m l
  | [], m => ⟨List.mem_cons_self, fun y hy => by
    have e : y = m := by simpa using hy
    subst e
    exact Int.le_refl _⟩
  | x :: r, m => by
    have ih := maxI_is r (if x > m then x else m)
    unfold maxI
    refine ⟨?_, fun y hy => ?_⟩
    · rcases List.mem_cons.mp ih.1 with e | h
      · rw [e]
        split
        · exact List.mem_cons_of_mem _ List.mem_cons_self
        · exact List.mem_cons_self
      · exact List.mem_cons_of_mem _ (List.mem_cons_of_mem _ h)
    · have h0 := ih.2 _ List.mem_cons_self
      rcases List.mem_cons.mp hy with e | hy
      · subst e
        refine Int.le_trans ?_ h0
        split <;> omega
      · rcases List.mem_cons.mp hy with e | hy
        · subst e
          refine Int.le_trans ?_ h0
          split <;> omega
        · exact ih.2 y (List.mem_cons_of_mem _ hy)
theorem minI_is : ∀ (l : List Int) (m : Int), (minI m l ∈ m :: l) ∧ ∀ y ∈ m :: l, minI m l ≤ y
  | [], m => ⟨List.mem_cons_self, fun y hy => by
    have e : y = m := by simpa using hy
    subst e
    exact Int.le_refl _⟩
  | x :: r, m => by
    have ih := minI_is r (if x < m then x else m)
    unfold minI
    refine ⟨?_, fun y hy => ?_⟩
    · rcases List.mem_cons.mp ih.1 with e | h
      · rw [e]
        split
        · exact List.mem_cons_of_mem _ List.mem_cons_self
        · exact List.mem_cons_self
      · exact List.mem_cons_of_mem _ (List.mem_cons_of_mem _ h)
    · have h0 := ih.2 _ List.mem_cons_self
      rcases List.mem_cons.mp hy with e | hy
      · subst e
        refine Int.le_trans h0 ?_
        split <;> omega
      · rcases List.mem_cons.mp hy with e | hy
        · subst e
          refine Int.le_trans h0 ?_
          split <;> omega
        · exact ih.2 y (List.mem_cons_of_mem _ hy)
theorem b1_smax (hc : X.calm = true) : CallR X (.builtin "max") (r1 X.K (b1D .smax)) := by
  intro pins s σ H xs us Q I r ⟨x, F, α, S, dx, dz, ex, w, hx, e, q⟩
  subst ex
  cases dx <;> first | (cases e; done) | skip
  rename_i zs
  simp only [b1D] at e
  split at e
  · rename_i i is hi
    cases e
    obtain ⟨a, vs, ex, ha, ra⟩ := hx
    subst ex
    refine cr_max hc pins s σ H _ us Q I r ⟨a, i :: is, rfl, by rw [← ra.ints hi]; exact ha, by simp, fun m h1 h2 => ?_⟩
    have k := maxI_is is i
    have e1 := h2 _ k.1
    have e2 := k.2 m h1
    have e : m = maxI i is := by omega
    subst e
    exact q.here w (.int _)
  · cases e
end
end PC
end
section
/-! PcMin: min of a list of tuples of numbers. -/
namespace PC
open PySem PySem.Spec PyProof.Rows L2
theorem lex_eq : ∀ x y : List Int, HT.lexLt x y = ltL x y
  | [], [] => by unfold HT.lexLt ltL; rfl
  | [], _ :: _ => by unfold HT.lexLt ltL; rfl
  | _ :: _, [] => by unfold HT.lexLt ltL; rfl
  | a :: x, b :: y => by unfold HT.lexLt ltL; rw [lex_eq x y]
section
variable {prog : Program} {w : World} {A : Around} {E : Value → Shared → Prop} {s : Shared} {R : Result → Shared → Prop}
/-- the items all are tuples of numbers -/
def TupI (items : List Value) (k : Nat → List Int) (h : Heap) : Prop := ∀ i v, items[i]? = some v → IsInts h v (k i)
theorem TupI.keeps {items : List Value} {k : Nat → List Int} {h h' : Heap} (t : TupI items k h) (kp : ∀ b o, h.get? b = some o → o.cls = .type "tuple" → h'.get? b = some o) : TupI items k h' := fun i v e => (t i v e).keeps kp
theorem lt_ints {u v : Value} {x y : List Int} {Q : Value → Shared → Prop} (hu : A.units < cLine) (h1 : IsInts s.heap u x) (h2 : IsInts s.heap v y) (q : Q (.bool (ltL x y)) s) : wpAny (model prog w) A (richCompare .Lt u v) Q E s := by
  obtain ⟨a, o, its, n, e, ho, hc, hd, hi, _⟩ := h1
  obtain ⟨b, o', jts, m, e', ho', hc', hd', hj, _⟩ := h2
  subst e e'
  rw [← lex_eq] at q
  exact HT.lt_tupInts (items := its.toArray) (items2 := jts.toArray) ⟨o, ho, hc, n, hd⟩ ⟨o', ho', hc', m, hd'⟩ (by simpa using hi) (by simpa using hj) hu q
/-- one turn and the rest; the best so far is the j-th -/
theorem min_go {items : List Value} {k : Nat → List Int} {I l S : Addr} (hh : A.in1.handled = none) (hu : A.in1.units < cLine) (hlI : l ≠ I) (hSI : S ≠ I) (hSl : S ≠ l)
    (good : ∀ j, j < items.length → (∀ i, i < items.length → ltL (k i) (k j) = false) → ∀ v h' tk, items[j]? = some v → (∀ b o, b ≠ I → b ≠ S → s.heap.get? b = some o → h'.get? b = some o) → R (.ok (.ret v)) { s with heap := h', toks := tk }) :
    ∀ (n i j : Nat) (t : Shared) (vb : Value) (c : Nat), n + i = items.length → j < i → items[j]? = some vb → (∀ i', i' < i → ltL (k i') (k j) = false) →
      t.heap.IsListIter I l i → t.heap.IsList l items.toArray → TupI items k t.heap → t.heap.get? S = some { cls := .type "list", dict := none, data := .seq #[vb, vb] c, slots := #[] } →
      (∀ b o, b ≠ I → b ≠ S → s.heap.get? b = some o → t.heap.get? b = some o) → (∃ h' tk, t = { s with heap := h', toks := tk }) →
      codeAny (model prog w) A (.builtin "min.loop" ⟨[.ref I, .none, .ref S], []⟩) R t := by
  have loopName : (toString "min" ++ toString ".loop" : String) = "min.loop" := by decide
  intro n
  induction n with
  | zero =>
    intro i j t vb c hi hj hvb hbest hit hl hT hS hk ht
    refine codeAny_builtin F.entry_min_loop ?_
    rw [Around.under_plainId F.plain_min_loop _]
    show wpAny _ A.in1 (seqItems? (.ref S) >>= _) _ _ t
    refine wpAny_bind (wpAny_seqItems hS rfl (wpAny_bind (wpAny_tryCatch (wpAny_pyNext_list_end hh hit hl (by simp; omega) fun h' he => ?_))))
    have hS' : h'.get? S = _ := he S _ hSI hS
    show wpAny _ A.in1 (updateSeq S (fun _ => #[]) >>= _) _ _ _
    refine wpAny_bind (wpAny_updateSeq hS' rfl (wpAny_bind (wpAny_letGo (wpAny_pure ?_))))
    obtain ⟨h0, tk0, rfl⟩ := ht
    have hz : i = items.length := by omega
    exact good j (by omega) (fun i' hi' => hbest i' (by omega)) vb _ _ hvb fun b o b1 b2 e => (Heap.get?_update_other _ _ (Ne.symm b2)).trans (he b o b1 (hk b o b1 b2 e))
  | succ n ih =>
    intro i j t vb c hi hj hvb hbest hit hl hT hS hk ht
    have lt : i < items.length := by omega
    obtain ⟨v, hv⟩ : ∃ v, items[i]? = some v := ⟨_, List.getElem?_eq_getElem lt⟩
    refine codeAny_builtin F.entry_min_loop ?_
    rw [Around.under_plainId F.plain_min_loop _]
    show wpAny _ A.in1 (seqItems? (.ref S) >>= _) _ _ t
    refine wpAny_bind (wpAny_seqItems hS rfl (wpAny_bind (wpAny_tryCatch (wpAny_pyNext_list_item (x := v) hit hl (by simpa using hv) fun h1 it1 sb1 => ?_))))
    have l1 : h1.IsList l items.toArray := hl.extBut sb1.extBut hlI
    have notI : ∀ b o, t.heap.get? b = some o → o.cls = .type "tuple" → b ≠ I := fun b o e hc z => by
      subst z
      obtain ⟨o2, e2, c2, _⟩ := hit
      rw [e] at e2
      cases e2
      rw [hc] at c2
      exact absurd (Value.type.inj c2) (by decide)
    have T1 : TupI items k h1 := hT.keeps fun b o e hc => sb1.extBut b o (notI b o e hc) e
    have S1 : h1.get? S = _ := sb1.extBut S _ hSI hS
    have k1 : ∀ b o, b ≠ I → b ≠ S → s.heap.get? b = some o → h1.get? b = some o := fun b o b1 b2 e => sb1.extBut b o b1 (hk b o b1 b2 e)
    obtain ⟨h0, tk0, rfl⟩ := ht
    show wpAny _ A.in1 (tryCatch (holding [v, v] (richCompare .Lt v vb >>= _)) _ >>= _) _ _ _
    refine wpAny_bind (wpAny_tryCatch (wpAny_holding (wpAny_bind (lt_ints hu (T1 i v hv) (T1 j vb hvb) ?_))))
    refine wpAny_bind (wpAny_holding (wpAny_truthy_bool (wpAny_bind (wpAny_letGo (wpAny_pure ?_)))))
    cases hb : ltL (k i) (k j) with
    | true =>
      rw [if_pos rfl]
      refine wpAny_bind (wpAny_updateSeq S1 rfl (wpAny_bind (wpAny_letGo ?_)))
      rw [loopName]
      have notS : ∀ b o, h1.get? b = some o → o.cls = .type "tuple" → b ≠ S := fun b o e hc z => by
        subst z
        rw [S1] at e
        cases e
        exact absurd (Value.type.inj hc) (by decide)
      refine wpAny_pure ⟨plainId_quiet F.plain_min_loop _, ih (i + 1) i _ v _ (by omega) (by omega) hv (fun i' hi' => ?_) (it1.at fun o e => (Heap.get?_update_other _ _ hSI).trans e) (l1.at fun o e => (Heap.get?_update_other _ _ hSl).trans e)
        (T1.keeps fun b o e hc => (Heap.get?_update_other _ _ (Ne.symm (notS b o e hc))).trans e) (Heap.get?_update_self _ S1 rfl) (fun b o b1 b2 e => (Heap.get?_update_other _ _ (Ne.symm b2)).trans (k1 b o b1 b2 e)) ⟨_, _, rfl⟩⟩
      by_cases e : i' = i
      · subst e
        cases q : ltL (k i') (k i') with
        | false => rfl
        | true =>
          have z := ltL_asym _ _ q
          rw [q] at z
          cases z
      · exact ltL_tr (k i) (k j) (k i') (ltL_asym _ _ hb) (hbest i' (by omega))
    | false =>
      rw [if_neg Bool.false_ne_true]
      refine wpAny_bind (wpAny_letGo ?_)
      rw [loopName]
      refine wpAny_pure ⟨plainId_quiet F.plain_min_loop _, ih (i + 1) j _ vb c (by omega) (by omega) hvb (fun i' hi' => ?_) it1 l1 T1 S1 k1 ⟨_, _, rfl⟩⟩
      by_cases e : i' = i
      · subst e; exact hb
      · exact hbest i' (by omega)
theorem min_call {items : List Value} {k : Nat → List Int} {l : Addr} {Q : Value → Shared → Prop} (hh : A.handled = none) (hu : A.units + 2 < cLine) (hl : s.heap.IsList l items.toArray) (hne : 0 < items.length) (hT : TupI items k s.heap)
    (good : ∀ j, j < items.length → (∀ i, i < items.length → ltL (k i) (k j) = false) → ∀ v h' tk, items[j]? = some v → (∀ b o, s.heap.get? b = some o → h'.get? b = some o) → Q v { s with heap := h', toks := tk }) :
    wpAny (model prog w) A (call (.builtin "min") [.ref l]) Q E s := by
  have loopName : (toString "min" ++ toString ".loop" : String) = "min.loop" := by decide
  refine call_function_tree F.kind_min F.plain_min F.entry_min (F.args_min1 _) ?_
  show wpAny _ A.in1 (Builtin.Builtins.bindParams "min" ["key", "default"] 0 ⟨[], []⟩ >>= _) _ _ s
  refine wpAny_bind (wpAny_of_eq (show Builtin.Builtins.bindParams "min" ["key", "default"] 0 ⟨[], []⟩ = pure [none, none] from rfl) (wpAny_bind (wpAny_pure ?_)))
  refine wpAny_bind (wpAny_pyIter_list hl ?_)
  refine wpAny_bind (wpAny_newObj_type ?_)
  rw [loopName]
  generalize hI : s.heap.objs.size = I
  have lt : l < I := by
    obtain ⟨o, e, _⟩ := hl
    rw [← hI]
    exact Heap.lt_size e
  generalize hg : s.heap.push { cls := .type "list_iterator", data := .fields #[.ref l, .int 0 0] } = g
  have gI : g.get? I = some { cls := .type "list_iterator", data := .fields #[.ref l, .int 0 0] } := by subst hg hI; exact Heap.get?_push_size _ rfl
  have gk : ∀ b o, s.heap.get? b = some o → g.get? b = some o := fun b o e => by subst hg; exact Heap.get?_push_of_some _ e
  generalize hS : g.objs.size = S
  have ltS : I < S := by rw [← hS]; exact Heap.lt_size gI
  show wpAny _ _ _ _ _ { s with heap := g.push { cls := .type "list", data := .seq #[] 0 } }
  generalize hf : g.push { cls := .type "list", data := .seq #[] 0 } = f
  have fS : f.get? S = some { cls := .type "list", data := .seq #[] 0 } := by subst hf hS; exact Heap.get?_push_size _ rfl
  have fk : ∀ b o, g.get? b = some o → f.get? b = some o := fun b o e => by subst hf; exact Heap.get?_push_of_some _ e
  have sk : ∀ b o, s.heap.get? b = some o → f.get? b = some o := fun b o e => fk b o (gk b o e)
  obtain ⟨v, hv⟩ : ∃ v, items[0]? = some v := ⟨_, List.getElem?_eq_getElem hne⟩
  refine wpAny_pure ⟨plainId_quiet F.plain_min_loop _, ?_⟩
  refine codeAny_builtin F.entry_min_loop ?_
  rw [Around.under_plainId F.plain_min_loop _]
  show wpAny _ A.in1 (seqItems? (.ref S) >>= _) _ _ _
  refine wpAny_bind (wpAny_seqItems fS rfl (wpAny_bind (wpAny_tryCatch (wpAny_pyNext_list_item (x := v) (s := { s with heap := f }) ⟨_, fk _ _ gI, rfl, rfl⟩ (hl.at fun o e => sk _ o e) (by simpa using hv) fun h1 it1 sb1 => ?_))))
  have hlI : l ≠ I := Nat.ne_of_lt lt
  have hSI : S ≠ I := Nat.ne_of_gt ltS
  have hSl : S ≠ l := Nat.ne_of_gt (Nat.lt_trans lt ltS)
  have S1 : h1.get? S = _ := sb1.extBut S _ hSI fS
  show wpAny _ _ (updateSeq S (fun _ => #[v, v]) >>= _) _ _ _
  refine wpAny_bind (wpAny_updateSeq S1 rfl ?_)
  rw [loopName]
  have old : ∀ b o, s.heap.get? b = some o → b ≠ I ∧ b ≠ S := fun b o e => by
    have z := Heap.lt_size e
    rw [hI] at z
    exact ⟨Nat.ne_of_lt z, Nat.ne_of_lt (Nat.lt_trans z ltS)⟩
  have kp : ∀ b o, s.heap.get? b = some o → h1.get? b = some o := fun b o e => sb1.extBut b o (old b o e).1 (sk b o e)
  refine wpAny_pure ⟨plainId_quiet F.plain_min_loop _, min_go (s := s) (A := A) (items := items) (k := k) (I := I) (l := l) (S := S) (R := _) hh (show A.units + 1 < cLine by omega) hlI hSI hSl (fun j hj hb v' h' tk' hv' hk' => ?_) (items.length - 1) 1 0 _ v _ (by omega) (by omega) hv (fun i' hi' => ?_)
    (it1.at fun o e => (Heap.get?_update_other _ _ hSI).trans e) ((hl.at fun o e => kp _ o e).at fun o e => (Heap.get?_update_other _ _ hSl).trans e) ((hT.keeps fun b o e _ => kp b o e).keeps fun b o e hc => ?_) (Heap.get?_update_self _ S1 rfl) (fun b o b1 b2 e => (Heap.get?_update_other _ _ (Ne.symm b2)).trans (kp b o e)) ⟨_, _, rfl⟩⟩
  · exact good j hj hb v' h' tk' hv' fun b o e => hk' b o (old b o e).1 (old b o e).2 e
  · have e0 : i' = 0 := by omega
    subst e0
    cases q : ltL (k 0) (k 0) with
    | false => rfl
    | true =>
      have z := ltL_asym _ _ q
      rw [q] at z
      cases z
  · refine (Heap.get?_update_other _ _ fun z => ?_).trans e
    subst z
    rw [S1] at e
    cases e
    exact absurd (Value.type.inj hc) (by decide)
end
/-- min(xs), tuples of numbers -/
def rMinTI (K : PySem.W.Frag) : List V → Hp → VK → Prop := fun vs H Q => ∃ (a : Addr) (xs : List V) (k : V → List Int), vs = [V.ref a] ∧ SqL K H a xs ∧ 0 < xs.length ∧ (∀ x ∈ xs, ∃ t, x = V.ref t ∧ H t = some (.tup ((k x).map V.int)) ∧ k x ≠ []) ∧
  ∀ m ∈ xs, (∀ y ∈ xs, ltL (k y) (k m) = false) → Q m H
section
variable {X : Cx}
theorem cr_minTI (hc : X.calm = true) (hu : X.A.units + 2 < cLine) : CallR X (.builtin "min") (rMinTI X.K) := by
  intro pins s σ H vs us Q I r h
  obtain ⟨a, xs, k, rfl, hs, hne, hx, q⟩ := h
  obtain ⟨its, rv, hl, hz⟩ := I.list hs
  obtain ⟨u, rfl, ru⟩ := vals1 r
  obtain rfl : u = Value.ref a := ru
  obtain ⟨e1, e2⟩ := refs_back rv fun x m => by
    obtain ⟨t, e, _⟩ := hx x m
    exact ⟨t, e⟩
  have hlen : xs.length = its.length := rv.length
  have at_ : ∀ i v, its[i]? = some v → ∃ t, v = Value.ref t ∧ V.ref t ∈ xs ∧ xs[i]? = some (V.ref t) := fun i v hv => by
    obtain ⟨t, rfl⟩ := e2 v (List.mem_of_getElem? hv)
    have ex : xs[i]? = some (V.ref t) := by
      rw [e1, List.getElem?_map, hv]
      rfl
    exact ⟨t, rfl, List.mem_of_getElem? ex, ex⟩
  refine min_call (k := fun i => k (xs.getD i .non)) (I.ok.hd hc) hu hl.isList (by omega) (fun i v hv => ?_) fun j hj hb v h' tk hv hk => ?_
  · obtain ⟨t, rfl, hm, ex⟩ := at_ i v hv
    obtain ⟨t', e, ht, hn⟩ := hx _ hm
    cases e
    obtain ⟨_, its2, r2, o, ho, hcl, n, hd⟩ := I.hok _ _ ht
    have ek : xs.getD i .non = V.ref t := by rw [List.getD_eq_getElem?_getD, ex]; rfl
    show IsInts s.heap (Value.ref t) (k (xs.getD i .non))
    rw [ek]
    exact ⟨t, o, its2, n, rfl, ho, hcl, hd, r2.ints, hn⟩
  · obtain ⟨t, rfl, hm, ex⟩ := at_ j v hv
    refine ⟨.ref t, H, I.kept hk, rfl, q _ hm fun y hy => ?_⟩
    obtain ⟨i, hi⟩ := List.mem_iff_getElem?.mp hy
    have li : i < its.length := by rw [← hlen]; exact (List.getElem?_eq_some_iff.mp hi).1
    have z := hb i li
    have ei : xs.getD i .non = y := by rw [List.getD_eq_getElem?_getD, hi]; rfl
    have ej : xs.getD j .non = V.ref t := by rw [List.getD_eq_getElem?_getD, ex]; rfl
    rw [ei, ej] at z
    exact z
end
end PC
end
section
/-! PcSort2: sorted, of tuples of numbers the first of which is empty. -/
namespace PC
open PySem PySem.Spec PyProof.Rows L2
/-- a tuple of numbers -/
def IsIntsE (h : Heap) (v : Value) (ns : List Int) : Prop := ∃ a o its n, v = .ref a ∧ h.get? a = some o ∧ o.cls = .type "tuple" ∧ o.data = .seq (its : List Value).toArray n ∧ IntsAre its ns
theorem IsIntsE.keeps {h h' : Heap} {v : Value} {ns : List Int} (p : IsIntsE h v ns) (k : ∀ b o, h.get? b = some o → o.cls = .type "tuple" → h'.get? b = some o) : IsIntsE h' v ns := by
  obtain ⟨a, o, its, n, e, ho, hc, hd, hi⟩ := p
  exact ⟨a, o, its, n, e, k a o ho hc, hc, hd, hi⟩
section
variable {prog : Program} {w : World} {A : Around} {E : Value → Shared → Prop} {s : Shared}
theorem one_lt {u v : Value} {x y : List Int} {Q : Bool → Shared → Prop} (hu : A.units + 2 < cLine) (h1 : IsIntsE s.heap u x) (h2 : IsIntsE s.heap v y) (q : Q (ltL x y) s) : wpAny (model prog w) A (oneLt' true u v) Q E s := by
  obtain ⟨a, ⟨cls, dd, data, sl⟩, its, n, e, ho, hc, hd, hi⟩ := h1
  obtain ⟨b, ⟨cls2, dd2, data2, sl2⟩, jts, m, e', ho', hc', hd', hj⟩ := h2
  simp only at hc hd hc' hd'
  subst e e' hc hd hc' hd'
  rw [oneLt'_eq]
  simp only [if_true]
  refine wpAny_bind (wpAny_cRoomFor (by omega) ?_)
  refine wpAny_bind (wpAny_callSpecialIfBound?_slot ⟨_, ho, rfl⟩ PySem.F.slot_tuple_lt (call_meets PySem.F.slot_tuple_lt ⟨_, ho, rfl⟩ PySem.F.entry_tuple_lt (PySem.F.args_tuple_lt_2 _ _) (HT.tuple_lt_ints a b its.toArray jts.toArray n m dd dd2 sl sl2 x y (by simpa using hi) (by simpa using hj)) ⟨ho, ho', ?_⟩))
  rw [lex_eq]
  exact wpAny_truthy_bool q
theorem firsts_opt {k : Value → List Int} : ∀ (vs : List Value) {Q : List (Option Value) → Shared → Prop}, (∀ v ∈ vs, IsIntsE s.heap v (k v)) → (∀ fs : List (Option Value), fs.length = vs.length → (∀ v, vs[0]? = some v → k v = [] → fs[0]? = some none) → Q fs s) → wpAny (model prog w) A (vs.mapM firstOfTuple') Q E s
  | [], Q, _, h => by
    rw [List.mapM_nil]
    exact wpAny_pure (h [] rfl fun v e => by cases e)
  | v :: vs, Q, hp, h => by
    obtain ⟨a, o, its, n, e, ho, hc, hd, hi⟩ := hp v List.mem_cons_self
    rw [List.mapM_cons]
    refine wpAny_bind ?_
    rw [PySem.W.kas_first_eq]
    subst e
    refine wpAny_bind (PySem.W.Looks.here (show PySem.W.Looks (model prog w) s.heap (typeOf (.ref a)) o.cls from (PySem.W.Looks.ld ho).andThen .now) ?_)
    rw [hc, if_neg (by first | decide | simp)]
    refine wpAny_bind (listItems_at ho hd (wpAny_pure ?_))
    refine wpAny_bind (firsts_opt vs (Q := fun bs s' => wpAny (model prog w) A (pure (its.toArray[0]? :: bs)) Q E s') (fun u hu => hp u (List.mem_cons_of_mem _ hu)) fun fs hl h0 => wpAny_pure (h _ (by rw [List.length_cons, List.length_cons, hl]) fun u eu ku => ?_))
    have eu' : Value.ref a = u := by simpa using eu
    subst eu'
    rw [ku] at hi
    cases hi
    rfl
theorem kind_opt {k : Value → List Int} {v0 : Value} {vs : List Value} {Q : SortKind → Shared → Prop} (hp : ∀ v ∈ v0 :: vs, IsIntsE s.heap v (k v)) (h0 : k v0 = []) (q : Q oneType' s) : wpAny (model prog w) A (keyKind' (v0 :: vs).toArray) Q E s := by
  rw [kat_kind_eq, List.mapM_toArray, map_eq_pure_bind]
  refine wpAny_bind (wpAny_bind (firsts_opt (k := k) _ hp fun fs hl hn => wpAny_pure ?_))
  have hf : fs[0]? = some none := hn v0 rfl h0
  obtain ⟨r, rfl⟩ : ∃ r, fs = none :: r := by
    cases fs with
    | nil => cases hf
    | cons x r =>
      have : x = none := by simpa using hf
      exact ⟨r, by rw [this]⟩
  rw [if_neg (by simp), if_neg (by simp)]
  rw [oneTypeOnly'_eq, List.mapM_toArray, map_eq_pure_bind]
  refine wpAny_bind (wpAny_bind (wpAny_bind (PySem.W.kas_mapM (r := Value.type "tuple") _ (fun v hv Q' hq => ?_) (wpAny_pure ?_))))
  · obtain ⟨a, o, its, n, e, ho, hc, hd, hi⟩ := hp v hv
    subst e
    refine PySem.W.Looks.here (show PySem.W.Looks (model prog w) s.heap (typeOf (.ref a)) o.cls from (PySem.W.Looks.ld ho).andThen .now) ?_
    rw [hc]
    exact hq
  · have hall : ((List.map (fun _ => Value.type "tuple") (v0 :: vs)).toArray.all fun x => x == Value.type "tuple") = true := by
      simp only [List.all_toArray, List.all_map, List.all_eq_true]
      intro _ _
      rfl
    have h1 : (List.map (fun _ => Value.type "tuple") (v0 :: vs)).toArray[0]? = some (Value.type "tuple") := by simp
    rw [h1]
    simp only [hall, if_true]
    exact wpAny_pure (wpAny_pure q)
theorem opt_sortableO {a : Addr} {v0 : Value} {vs : List Value} {k : Value → List Int} (hu : A.units + 2 < cLine) (hp : ∀ v ∈ v0 :: vs, IsIntsE s.heap v (k v)) (h0 : k v0 = []) (ha : ∀ o, s.heap.get? a = some o → o.cls ≠ .type "tuple") : SrtO.SortableO prog w A s a (v0 :: vs) fun v u => ltL (k v) (k u) := by
  intro h' keep
  have hp' : ∀ v ∈ v0 :: vs, IsIntsE h' v (k v) := fun v hm => (hp v hm).keeps fun b o e c => keep b o (fun z => by subst z; exact ha o e c) e
  refine ⟨oneType', fun Q E hq => kind_opt hp' h0 hq, fun p q hm hm' => ?_⟩
  show wpAny (model prog w) A (keyLt' oneType' p.1 q.1) (fun r s' => s' = _ ∧ r = ltL (k p.1) (k q.1)) (fun _ _ => False) _
  rw [keyLt'_oneType]
  exact one_lt hu (hp' _ hm) (hp' _ hm') ⟨rfl, rfl⟩
theorem sorted_opt {l : Addr} {v0 : Value} {vs : List Value} {k : Value → List Int} {Q : Value → Shared → Prop} (hu : A.units + 6 < cLine) (hl : s.heap.IsList l (v0 :: vs).toArray) (hz : (v0 :: vs).length ≤ sizeLine) (hp : ∀ v ∈ v0 :: vs, IsIntsE s.heap v (k v)) (h0 : k v0 = [])
    (h : ∀ (h' : Heap) (d : Addr) (out : List Value), SrtO.Srtd (fun v u => ltL (k v) (k u)) out → SrtO.Stb (fun v u => ltL (k v) (k u)) out (v0 :: vs) → (∀ b o, s.heap.get? b = some o → h'.get? b = some o) → s.heap.objs.size ≤ d → (∃ n, h'.get? d = some (seqObj "list" out.toArray n)) → Q (.ref d) { s with heap := h' }) :
    wpAny (model prog w) A (call (.builtin "sorted") [.ref l]) Q E s := by
  refine SrtO.sorted_ord (swo_ltL k) hl hz (fun h2 h₁ a ha kk => ?_) fun out hs hb => ?_
  · refine opt_sortableO (s := { s with heap := h₁ }) (show A.units + 1 + 1 + 2 < cLine by omega) (fun v hm => (hp v hm).keeps fun b o e _ => (kk b o e).2) h0 fun o e => ?_
    have e' : some o = some (seqObj "list" (v0 :: vs).toArray 0) := e.symm.trans ha
    cases e'
    intro c
    exact absurd (Value.type.inj c) (by decide)
  · exact h _ _ out hs hb (fun b o e => PyProof.Rows.sortedAll_old e) (Nat.le_succ _) (PyProof.Rows.sortedAll_at s.heap (v0 :: vs) out.toArray)
end
/-- sorted(xs), tuples of numbers, the first of them empty -/
def rSortTE (K : PySem.W.Frag) : List V → Hp → VK → Prop := fun vs H Q => ∃ (a : Addr) (x0 : V) (xs : List V) (k : V → List Int), vs = [V.ref a] ∧ SqL K H a (x0 :: xs) ∧ k x0 = [] ∧ (∀ x ∈ x0 :: xs, ∃ t, x = V.ref t ∧ H t = some (.tup ((k x).map V.int))) ∧
  ∀ ys p, SrtO.Srtd (fun x y => ltL (k x) (k y)) ys → ys.Perm (x0 :: xs) → H p = none → Q (.ref p) (upd H p (.lst ys))
section
variable {X : Cx}
theorem cr_sortTE (hu : X.A.units + 6 < cLine) : CallR X (.builtin "sorted") (rSortTE X.K) := by
  intro pins s σ H vs us Q I r h
  obtain ⟨a, x0, xs, k, rfl, hs, k0, hx, q⟩ := h
  obtain ⟨its, rv, hl, hz⟩ := I.list hs
  obtain ⟨u, rfl, ru⟩ := vals1 r
  obtain rfl : u = Value.ref a := ru
  obtain ⟨e1, e2⟩ := refs_back rv fun x m => by
    obtain ⟨t, e, _⟩ := hx x m
    exact ⟨t, e⟩
  cases its with
  | nil => cases rv
  | cons v0 its =>
    have e0 : x0 = backV v0 := by
      rw [List.map_cons] at e1
      exact (List.cons.inj e1).1
    refine sorted_opt (k := fun u => k (backV u)) hu hl.isList (by rw [← rv.length]; exact hz) (fun v hv => ?_) (by rw [← e0]; exact k0) fun h' d out h1 h2 kp hd hn => ?_
    · obtain ⟨t, rfl⟩ := e2 v hv
      have hm : V.ref t ∈ x0 :: xs := by rw [e1]; exact List.mem_map.mpr ⟨_, hv, rfl⟩
      obtain ⟨t', e, ht⟩ := hx _ hm
      cases e
      obtain ⟨_, its2, r2, o, ho, hc, n, hd⟩ := I.hok _ _ ht
      exact ⟨t, o, its2, n, rfl, ho, hc, hd, r2.ints⟩
    · have h3 : ∀ u ∈ out, ∃ a, u = Value.ref a := fun u hu => e2 u (h2.perm.mem_iff.mp hu)
      obtain ⟨n, hn⟩ := hn
      have hb : (out.map backV).Perm (x0 :: xs) := by
        rw [e1]
        exact h2.perm.map backV
      refine ⟨.ref d, upd H d (.lst (out.map backV)), I.laid (t' := s.toks) kp hd ⟨?_, out, n, vals_back h3, hn⟩, rfl, q _ d (List.pairwise_map.mpr h1) hb (I.hok.fresh hd)⟩
      rw [hb.length_eq]
      exact hz
/-! ### on plain values -/
theorem isTE_of {d : D} (h : isTE d = true) : ∃ ds is, d = .tuple ds ∧ ints? ds = some is := by
  cases d <;> first | (cases h; done) | skip
  rename_i ds
  have h' : (match ints? ds with
    | some _ => true
    | none => false) = true := h
  cases q : ints? ds with
  | none => rw [q] at h'; cases h'
  | some is => exact ⟨_, is, rfl, q⟩
theorem ordTE : OrdD (fun d => isTE d = true) := by
  refine ⟨fun x y hx hy h => ?_, fun x y z hx hy hz h h' => ?_, fun x y hx hy h h' => ?_⟩
  · obtain ⟨ds, is, rfl, h1⟩ := isTE_of hx
    obtain ⟨es, js, rfl, h2⟩ := isTE_of hy
    rw [ltD_t h1 h2] at h
    rw [ltD_t h2 h1]
    exact ltL_asym _ _ h
  · obtain ⟨ds, is, rfl, h1⟩ := isTE_of hx
    obtain ⟨es, js, rfl, h2⟩ := isTE_of hy
    obtain ⟨fs, ks, rfl, h3⟩ := isTE_of hz
    rw [ltD_t h2 h1] at h
    rw [ltD_t h3 h2] at h'
    rw [ltD_t h3 h1]
    exact ltL_tr _ _ _ h h'
  · obtain ⟨ds, is, rfl, h1⟩ := isTE_of hx
    obtain ⟨es, js, rfl, h2⟩ := isTE_of hy
    rw [ltD_t h1 h2] at h
    rw [ltD_t h2 h1] at h'
    have e := ltL_anti _ _ h h'
    subst e
    rw [ints_inj h1 h2]
theorem srt_repsE {K : PySem.W.Frag} {F H : Hp} (x : Ex F H) : ∀ {ys : List V} {es : List D}, Reps K F ys es → (∀ d ∈ es, isTE d = true) → SrtO.Srtd (fun x y => ltL (kOf H x) (kOf H y)) ys → es.Pairwise (fun a b => ltD b a = false) := by
  intro ys es h
  induction es generalizing ys with
  | nil => intro _ _; exact List.Pairwise.nil
  | cons d es ih =>
    intro hP hs
    cases h with
    | cons a r =>
      obtain ⟨s1, s2⟩ := List.pairwise_cons.mp hs
      refine List.pairwise_cons.mpr ⟨fun e he => ?_, ih r (fun z hz => hP z (List.mem_cons_of_mem _ hz)) s2⟩
      obtain ⟨i, hi⟩ := List.mem_iff_getElem?.mp he
      obtain ⟨v, hv, rv⟩ := r.get hi
      obtain ⟨ds, is, rfl, h1⟩ := isTE_of (hP d List.mem_cons_self)
      obtain ⟨fs, js, rfl, h2⟩ := isTE_of (hP e (List.mem_cons_of_mem _ he))
      obtain ⟨_, _, _, k1⟩ := kOf_rep x a h1
      obtain ⟨_, _, _, k2⟩ := kOf_rep x rv h2
      have this : ltL (kOf H v) (kOf H _) = false := s1 v (List.mem_of_getElem? hv)
      rw [k1, k2] at this
      rw [ltD_t h2 h1]
      exact this
theorem b1_sortedN (hc : X.calm = true) (hu : X.A.units + 6 < cLine) : CallR X (.builtin "sorted") (r1N X.K (b1D .sorted)) := by
  intro pins s σ H xs us Q I r_ ⟨x, F, α, S, dx, ds, ex, w, hx, e, q⟩
  subst ex
  cases dx <;> first | (cases e; done) | skip
  rename_i zs
  simp only [b1D] at e
  cases hs : sortD zs with
  | none => rw [hs] at e; cases e
  | some ys =>
    rw [hs] at e
    cases e
    unfold sortD at hs
    split at hs
    · rename_i hk
      cases hs
      obtain ⟨a, vs, ex, ha, ra⟩ := hx
      subst ex
      by_cases hI : zs.all isI = true
      · obtain ⟨is, h1, h2⟩ := all_isI hI
        have hv := ra.ints h1
        subst hv
        refine cr_sortedI pins s σ H _ us Q I r_ ⟨a, is, rfl, ha, fun ns' p hp hs hn => q p _ hn ?_⟩
        have e := isort_is ordI (l := zs) (m := ns'.map PyData.int) (fun y hy => List.all_eq_true.mp hI y hy) (by rw [h2]; exact hp.map _) (List.pairwise_map.mpr (hs.imp fun {a b} hab => decide_eq_false (by omega)))
        rw [← e]
        exact reps_ints ns'
      · have hT : zs.all isTI = true := by
          rw [Bool.or_eq_true] at hk
          exact hk.resolve_left hI
        refine cr_sortTI pins s σ H _ us Q I r_ ⟨a, vs, kOf H, rfl, ha, fun v hv => ?_, fun ys p hs hp hn => q p ys hn ?_⟩
        · obtain ⟨i, hi⟩ := List.mem_iff_getElem?.mp hv
          have hl : i < zs.length := by rw [← ra.length]; exact (List.getElem?_eq_some_iff.mp hi).1
          obtain ⟨v', hv', rv⟩ := ra.get (List.getElem?_eq_getElem hl)
          rw [hi] at hv'
          cases hv'
          obtain ⟨es, is, he, h1, h2⟩ := isTI_of (List.all_eq_true.mp hT _ (List.getElem_mem hl))
          rw [he] at rv
          obtain ⟨t, e1, e2, e3⟩ := kOf_rep w.sub rv h1
          exact ⟨t, e1, e2, by rw [e3]; exact h2⟩
        · obtain ⟨es, h1, h2⟩ := reps_perm hp ra
          have hP : ∀ d ∈ es, isTI d = true := fun d hd => List.all_eq_true.mp hT d (h2.mem_iff.mp hd)
          have e := isort_is ordTI (l := zs) (m := es) (fun y hy => List.all_eq_true.mp hT y hy) h2 (srt_reps w.sub h1 hP hs)
          rw [← e]
          exact h1
    · split at hs
      · rename_i r hno
        split at hs
        · rename_i hE
          cases hs
          obtain ⟨a, vs, ex, ha, ra⟩ := hx
          subst ex
          cases ra with
          | cons a0 ra =>
            rename_i v0 vs
            have hall : ∀ d ∈ PyData.tuple [] :: r, isTE d = true := fun d hd => by
              rcases List.mem_cons.mp hd with e | hd
              · subst e; rfl
              · exact List.all_eq_true.mp hE d hd
            have rr : Reps X.K F (v0 :: vs) (PyData.tuple [] :: r) := .cons a0 ra
            refine cr_sortTE hu pins s σ H _ us Q I r_ ⟨a, v0, vs, kOf H, rfl, ha, (kOf_rep w.sub a0 (is := []) rfl).choose_spec.2.2, fun v hv => ?_, fun ys p hs hp hn => q p ys hn ?_⟩
            · obtain ⟨i, hi⟩ := List.mem_iff_getElem?.mp hv
              have hl : i < (PyData.tuple [] :: r).length := by rw [← rr.length]; exact (List.getElem?_eq_some_iff.mp hi).1
              obtain ⟨v', hv', rv⟩ := rr.get (List.getElem?_eq_getElem hl)
              rw [hi] at hv'
              cases hv'
              obtain ⟨es, is, he, h1⟩ := isTE_of (hall _ (List.getElem_mem hl))
              rw [he] at rv
              obtain ⟨t, e1, e2, e3⟩ := kOf_rep w.sub rv h1
              exact ⟨t, e1, e2⟩
            · obtain ⟨es, h1, h2⟩ := reps_perm hp rr
              have hP : ∀ d ∈ es, isTE d = true := fun d hd => hall d (h2.mem_iff.mp hd)
              have e := isort_is ordTE (l := PyData.tuple [] :: r) (m := es) hall h2 (srt_repsE w.sub h1 hP hs)
              rw [← e]
              exact h1
        · cases hs
      · cases hs
theorem b1_sorted (hc : X.calm = true) (hu : X.A.units + 6 < cLine) : CallR X (.builtin "sorted") (r1 X.K (b1D .sorted)) := by
  intro pins s σ H xs us Q I r ⟨x, F, α, S, dx, dz, ex, w, hx, e, q⟩
  have hl : ∃ ds, dz = .list ds := by
    cases dx <;> first | (cases e; done) | skip
    simp only [b1D] at e
    split at e
    · cases e; exact ⟨_, rfl⟩
    · cases e
  obtain ⟨ds, rfl⟩ := hl
  exact b1_sortedN hc hu pins s σ H xs us Q I r ⟨x, F, α, S, dx, ds, ex, w, hx, e, q.list w⟩
theorem minD_is {P : D → Prop} (O : OrdD P) : ∀ (l : List D) (m : D), (∀ y ∈ m :: l, P y) → (minD m l ∈ m :: l) ∧ ∀ y ∈ m :: l, ltD y (minD m l) = false
  | [], m, h => ⟨List.mem_cons_self, fun y hy => by
    have e : y = m := by simpa using hy
    subst e
    show ltD y y = false
    cases q : ltD y y with
    | false => rfl
    | true =>
      have z := O.asym y y (h y List.mem_cons_self) (h y List.mem_cons_self) q
      rw [q] at z
      cases z⟩
  | x :: r, m, h => by
    have hm := h m List.mem_cons_self
    have hx := h x (List.mem_cons_of_mem _ List.mem_cons_self)
    obtain ⟨m', hm', hP'⟩ : ∃ m', (if ltD x m = true then x else m) = m' ∧ P m' := ⟨_, rfl, by split <;> assumption⟩
    have ih := minD_is O r m' fun y hy => by
      rcases List.mem_cons.mp hy with e | hy
      · subst e; exact hP'
      · exact h y (List.mem_cons_of_mem _ (List.mem_cons_of_mem _ hy))
    unfold minD
    rw [hm']
    have hmin : P (minD m' r) := by
      rcases List.mem_cons.mp ih.1 with e | hy
      · rw [e]; exact hP'
      · exact h _ (List.mem_cons_of_mem _ (List.mem_cons_of_mem _ hy))
    have h0 := ih.2 m' List.mem_cons_self
    refine ⟨?_, fun y hy => ?_⟩
    · rcases List.mem_cons.mp ih.1 with e | hy
      · rw [e, ← hm']
        split
        · exact List.mem_cons_of_mem _ List.mem_cons_self
        · exact List.mem_cons_self
      · exact List.mem_cons_of_mem _ (List.mem_cons_of_mem _ hy)
    · by_cases hlt : ltD x m = true
      · rw [if_pos hlt] at hm'
        subst hm'
        rcases List.mem_cons.mp hy with e | hy
        · subst e
          exact O.tr _ x y hmin hx hm h0 (O.asym x y hx hm hlt)
        · rcases List.mem_cons.mp hy with e | hy
          · subst e; exact h0
          · exact ih.2 y (List.mem_cons_of_mem _ hy)
      · rw [if_neg hlt] at hm'
        subst hm'
        rcases List.mem_cons.mp hy with e | hy
        · subst e; exact h0
        · rcases List.mem_cons.mp hy with e | hy
          · subst e
            exact O.tr _ m y hmin hm hx h0 (by simpa using hlt)
          · exact ih.2 y (List.mem_cons_of_mem _ hy)
theorem b1_smin (hc : X.calm = true) (hu : X.A.units + 2 < cLine) : CallR X (.builtin "min") (r1 X.K (b1D .smin)) := by
  intro pins s σ H xs us Q I r_ ⟨x, F, α, S, dx, dz, ex, w, hx, e, q⟩
  subst ex
  cases dx <;> first | (cases e; done) | skip
  rename_i zs
  simp only [b1D] at e
  split at e
  · rename_i i is hi
    cases e
    obtain ⟨a, vs, ex, ha, ra⟩ := hx
    subst ex
    refine cr_min hc pins s σ H _ us Q I r_ ⟨a, i :: is, rfl, by rw [← ra.ints hi]; exact ha, by simp, fun m h1 h2 => ?_⟩
    have k := minI_is is i
    have e1 := h2 _ k.1
    have e2 := k.2 m h1
    have e : m = minI i is := by omega
    subst e
    exact q.here w (.int _)
  · split at e
    · rename_i z0 r hno
      split at e
      · rename_i hT
        cases e
        obtain ⟨a, vs, ex, ha, ra⟩ := hx
        subst ex
        have hP : ∀ d ∈ z0 :: r, isTI d = true := fun d hd => List.all_eq_true.mp hT d hd
        have at_ : ∀ v ∈ vs, ∃ d ∈ z0 :: r, Rep X.K F v d := fun v hv => by
          obtain ⟨i, hi⟩ := List.mem_iff_getElem?.mp hv
          have hl : i < (z0 :: r).length := by rw [← ra.length]; exact (List.getElem?_eq_some_iff.mp hi).1
          obtain ⟨v', hv', rv⟩ := ra.get (List.getElem?_eq_getElem hl)
          rw [hi] at hv'
          cases hv'
          exact ⟨_, List.getElem_mem hl, rv⟩
        refine cr_minTI hc hu pins s σ H _ us Q I r_ ⟨a, vs, kOf H, rfl, ha, by rw [ra.length]; simp, fun v hv => ?_, fun m hm hb => ?_⟩
        · obtain ⟨d, hd, rv⟩ := at_ v hv
          obtain ⟨es, is, rfl, h1, h2⟩ := isTI_of (hP d hd)
          obtain ⟨t, e1, e2, e3⟩ := kOf_rep w.sub rv h1
          exact ⟨t, e1, e2, by rw [e3]; exact h2⟩
        · obtain ⟨d, hd, rv⟩ := at_ m hm
          have k := minD_is ordTI r z0 hP
          have e : d = minD z0 r := by
            refine ordTI.anti _ _ (hP d hd) (hP _ k.1) (k.2 d hd) ?_
            obtain ⟨j, hj⟩ := List.mem_iff_getElem?.mp k.1
            obtain ⟨v2, hv2, rv2⟩ := ra.get hj
            have hb2 := hb v2 (List.mem_of_getElem? hv2)
            have hP2 := hP _ k.1
            generalize minD z0 r = md at rv2 hP2 ⊢
            obtain ⟨es, is, rfl, h1, _⟩ := isTI_of (hP d hd)
            obtain ⟨fs, js, rfl, h2, _⟩ := isTI_of hP2
            obtain ⟨_, _, _, k1⟩ := kOf_rep w.sub rv h1
            obtain ⟨_, _, _, k2⟩ := kOf_rep w.sub rv2 h2
            rw [k1, k2] at hb2
            rw [ltD_t h2 h1]
            exact hb2
          rw [← e] at q
          exact q.here w rv
      · cases e
    · cases e
end
end PC
end
section
/-! PcDict: dicts. -/
namespace PC
open PySem PySem.Spec PyProof.Rows L2
theorem same_kD : ∀ a b : L2.Key, sameD (kD a) (kD b) = decide (a = b)
  | .inl i, .inl j => by
    show decide (i = j) = decide (Sum.inl i = Sum.inl j)
    simp
  | .inr x, .inr y => by
    show decide (x = y) = decide (Sum.inr x = Sum.inr y)
    simp
  | .inl i, .inr y => by
    show false = decide (Sum.inl i = Sum.inr y)
    simp
  | .inr x, .inl j => by
    show false = decide (Sum.inr x = Sum.inl j)
    simp
theorem same_kDs : ∀ a b : List L2.Key, sameD (kDs a) (kDs b) = decide (a = b) := by
  have key : ∀ a b : List L2.Key, sameDs (a.map kD) (b.map kD) = decide (a = b) := by
    intro a
    induction a with
    | nil => intro b; cases b <;> simp [sameDs]
    | cons x a ih =>
      intro b
      cases b with
      | nil => simp [sameDs]
      | cons y b =>
        show (sameD (kD x) (kD y) && sameDs (a.map kD) (b.map kD)) = _
        rw [same_kD, ih]
        rw [Bool.eq_iff_iff]
        simp
  exact fun a b => key a b
theorem key1_of {d : D} (h : key1 d = true) : ∃ k, d = kD k := by
  cases d <;> first | (cases h; done) | skip
  · exact ⟨.inl _, rfl⟩
  · exact ⟨.inr _, rfl⟩
theorem keys_of : ∀ {ds : List D}, ds.all key1 = true → ∃ ks : List L2.Key, ds = ks.map kD
  | [], _ => ⟨[], rfl⟩
  | d :: ds, h => by
    rw [List.all_cons, Bool.and_eq_true] at h
    obtain ⟨k, rfl⟩ := key1_of h.1
    obtain ⟨ks, rfl⟩ := keys_of h.2
    exact ⟨k :: ks, rfl⟩
theorem keyT_of {d : D} (h : keyOk true d = true) : ∃ ks, d = kDs ks := by
  cases d <;> first | (cases h; done) | skip
  obtain ⟨ks, rfl⟩ := keys_of (show List.all _ key1 = true from h)
  exact ⟨ks, rfl⟩
section
variable {K : PySem.W.Frag} {F F' H H' : Hp} {α α' : List Addr} {S S' : Store} {v : V}
theorem rep_kD {k : L2.Key} (r : Rep K F v (kD k)) : v = L2.kV k := by
  cases k <;> (cases (show Rep K F v _ from r); rfl)
theorem reps_kD : ∀ {ks : List L2.Key} {vs : List V}, Reps K F vs (ks.map kD) → vs = ks.map L2.kV
  | [], _, r => by cases r; rfl
  | k :: ks, _, r => by
    cases r with
    | cons a r => rw [rep_kD a, reps_kD r]; rfl
theorem kD_rep (F : Hp) : ∀ k : L2.Key, Rep K F (L2.kV k) (kD k)
  | .inl i => .int i
  | .inr x => .str x
theorem kDs_reps (F : Hp) : ∀ ks : List L2.Key, Reps K F (ks.map L2.kV) (ks.map kD)
  | [] => .nil
  | k :: ks => .cons (kD_rep F k) (kDs_reps F ks)
theorem rep_kDs {ks : List L2.Key} (r : Rep K F v (kDs ks)) : ∃ b, v = .ref b ∧ F b = some (.tup (ks.map L2.kV)) := by
  cases (show Rep K F v (.tuple _) from r) with
  | tup ha ra => exact ⟨_, rfl, by rw [← reps_kD ra]; exact ha⟩
section
variable {κ : Type} [DecidableEq κ] {f : κ → D}
theorem krel_find (hf : ∀ a b, sameD (f a) (f b) = decide (a = b)) (k : κ) : ∀ {ks : List (κ × V)} {kvs : List (D × D)}, KRel K F f ks kvs → (L2.valV ks k = none ∧ dFind kvs (f k) = none) ∨ ∃ v d, L2.valV ks k = some v ∧ dFind kvs (f k) = some d ∧ Rep K F v d
  | _, _, .nil => .inl ⟨rfl, rfl⟩
  | _, _, .cons (k := k') (v := v) (d := d) a r => by
    unfold dFind
    rw [hf]
    by_cases e : k' = k
    · rw [if_pos (decide_eq_true e)]
      exact .inr ⟨v, d, L2.valV_pos (p := (k', v)) e, rfl, a⟩
    · rw [if_neg (by simpa using e), L2.valV_neg (p := (k', v)) e]
      exact krel_find hf k r
theorem krel_rep (hf : ∀ a b, sameD (f a) (f b) = decide (a = b)) {k : κ} {d : D} (hv : Rep K F v d) : ∀ {ks : List (κ × V)} {kvs : List (D × D)}, KRel K F f ks kvs → KRel K F f (ks.map fun kv => if kv.1 = k then (kv.1, v) else kv) (dRep kvs (f k) d)
  | _, _, .nil => .nil
  | _, _, .cons (k := k') (v := u) (d := z) a r => by
    unfold dRep
    rw [hf, List.map_cons]
    by_cases e : k' = k
    · rw [if_pos (decide_eq_true e), if_pos e]
      exact .cons hv (krel_rep hf hv r)
    · have e1 : ¬ decide (k' = k) = true := by simpa using e
      rw [if_neg e1]
      simp only [if_neg e]
      exact .cons a (krel_rep hf hv r)
theorem krel_app {ks ks' : List (κ × V)} {kvs kvs' : List (D × D)} (h : KRel K F f ks kvs) (h' : KRel K F f ks' kvs') : KRel K F f (ks ++ ks') (kvs ++ kvs') := by
  induction h with
  | nil => exact h'
  | cons a _ ih => exact .cons a ih
theorem krel_len {ks : List (κ × V)} {kvs : List (D × D)} (h : KRel K F f ks kvs) : ks.length = kvs.length := by
  induction h with
  | nil => rfl
  | cons a _ ih => rw [List.length_cons, List.length_cons, ih]
theorem krel_put (hf : ∀ a b, sameD (f a) (f b) = decide (a = b)) {k : κ} {d : D} (hv : Rep K F v d) {ks : List (κ × V)} {kvs : List (D × D)} (h : KRel K F f ks kvs) : KRel K F f (L2.putK ks k v) (dPut kvs (f k) d) := by
  unfold L2.putK dPut
  rw [L2.valV_any]
  rcases krel_find hf k h with ⟨h1, h2⟩ | ⟨u, z, h1, h2, _⟩
  · rw [h1, h2]
    exact krel_app h (.cons hv .nil)
  · rw [h1, h2]
    exact krel_rep hf hv h
end
/-- what is read -/
theorem dat_get {o : HO} {t : Bool} {kvs : List (D × D)} {a : Addr} {y : V} {k : D} (x : Ex F H) (hd : DAt K F o t kvs) (ha : H a = some o) (hk : keyOk t k = true) (hy : Rep K F y k) :
    (L2.DGet H a y none ∧ dFind kvs k = none) ∨ ∃ v d, L2.DGet H a y (some v) ∧ dFind kvs k = some d ∧ Rep K F v d := by
  cases t with
  | false =>
    obtain ⟨ks, rfl, r⟩ := hd
    obtain ⟨k, rfl⟩ := key1_of (show key1 k = true from hk)
    cases rep_kD hy
    have g := L2.DGet.k (k := k) ha
    rcases krel_find same_kD k r with ⟨h1, h2⟩ | ⟨u, z, h1, h2, h3⟩
    · rw [h1] at g
      exact .inl ⟨g, h2⟩
    · rw [h1] at g
      exact .inr ⟨u, z, g, h2, h3⟩
  | true =>
    obtain ⟨ks, rfl, r⟩ := hd
    obtain ⟨k, rfl⟩ := keyT_of hk
    obtain ⟨b, rfl, hb⟩ := rep_kDs hy
    have g := L2.DGet.t (k := k) ha (x _ _ hb)
    rcases krel_find same_kDs k r with ⟨h1, h2⟩ | ⟨u, z, h1, h2, h3⟩
    · rw [h1] at g
      exact .inl ⟨g, h2⟩
    · rw [h1] at g
      exact .inr ⟨u, z, g, h2, h3⟩
theorem dat_put {o : HO} {t : Bool} {kvs : List (D × D)} {a : Addr} {y v : V} {k d : D} (x : Ex F H) (hd : DAt K F o t kvs) (ha : H a = some o) (hk : keyOk t k = true) (hy : Rep K F y k) (hv : Rep K F v d) (hz : kvs.length < sizeLine) :
    ∃ o', L2.DPut H a y v (upd H a o') ∧ DAt K F o' t (dPut kvs k d) := by
  cases t with
  | false =>
    obtain ⟨ks, rfl, r⟩ := hd
    obtain ⟨k, rfl⟩ := key1_of (show key1 k = true from hk)
    cases rep_kD hy
    exact ⟨_, L2.DPut.k (k := k) ha (by rw [krel_len r]; exact hz), _, rfl, krel_put same_kD hv r⟩
  | true =>
    obtain ⟨ks, rfl, r⟩ := hd
    obtain ⟨k, rfl⟩ := keyT_of hk
    obtain ⟨b, rfl, hb⟩ := rep_kDs hy
    exact ⟨_, L2.DPut.t (k := k) ha (x _ _ hb) (by rw [krel_len r]; exact hz), _, rfl, krel_put same_kDs hv r⟩
theorem dat_isD {o : HO} {t : Bool} {kvs : List (D × D)} {a : Addr} (hd : DAt K F o t kvs) (ha : H a = some o) : L2.IsD H a := by
  cases t with
  | false => obtain ⟨ks, rfl, r⟩ := hd; exact .inl ⟨ks, .inl ha⟩
  | true => obtain ⟨ks, rfl, r⟩ := hd; exact .inr ⟨ks, .inl ha⟩
/-- a tuple of the heap joins the frozen part -/
theorem SW.adopt (w : SW K H S F α) {b : Addr} {vs : List V} (hb : H b = some (.tup vs)) : ∃ F', Ext F α F' α ∧ SW K H S F' α ∧ F' b = some (.tup vs) := by
  cases h : F b with
  | some o =>
    have e := w.sub _ _ h
    rw [hb] at e
    cases e
    exact ⟨F, Ext.refl, w, h⟩
  | none =>
    have hn : b ∉ α := fun hm => by
      obtain ⟨n, hn⟩ := List.mem_iff_getElem?.mp hm
      have hl : n < S.length := by rw [← w.len]; exact (List.getElem?_eq_some_iff.mp hn).1
      have := w.cell n b S[n] hn (List.getElem?_eq_getElem hl)
      cases hc : S[n] with
      | lst xs =>
        rw [hc] at this
        obtain ⟨us, h1, _⟩ := this
        rw [hb] at h1
        cases h1
      | dct t kvs =>
        rw [hc] at this
        obtain ⟨o, h1, h2⟩ := this
        rw [hb] at h1
        cases h1
        cases t <;> (obtain ⟨_, e, _⟩ := h2; cases e)
    have xF : Ex F (upd F b (.tup vs)) := Evl.Ex.new h
    refine ⟨upd F b (.tup vs), ⟨xF, List.prefix_refl _⟩, ⟨fun a u hu => ?_, w.len, w.nd, fun a hm => ?_, fun n a c h1 h2 => cellOk_mono xF rfl (w.cell n a c h1 h2)⟩, upd_same⟩
    · by_cases e : a = b
      · subst e; rw [upd_same] at hu; rw [← hu]; exact hb
      · rw [upd_ne e] at hu; exact w.sub a u hu
    · rw [upd_ne (fun e => hn (by rw [← e]; exact hm))]; exact w.out a hm
theorem SW.adopts : ∀ {kvs : List (List L2.Key × V)} {bs : List Addr} {F : Hp}, SW K H S F α → L2.IsKeys H kvs bs → ∃ F', Ext F α F' α ∧ SW K H S F' α ∧ Reps K F' (bs.map V.ref) (kvs.map fun p => kDs p.1)
  | _, _, F, w, .nil => ⟨F, Ext.refl, w, .nil⟩
  | _, _, F, w, .cons (a := p) (b := b) h t => by
    obtain ⟨F1, x1, w1, r1⟩ := SW.adopts w t
    obtain ⟨F2, x2, w2, h2⟩ := w1.adopt h
    exact ⟨F2, x1.trans x2, w2, .cons (.tup h2 (kDs_reps F2 p.1)) (Reps.mono x2.ex _ r1)⟩
theorem krel_keysT {ks : List (List L2.Key × V)} {kvs : List (D × D)} (h : KRel K F kDs ks kvs) : kvs.map (·.1) = ks.map fun p => kDs p.1 := by
  induction h with
  | nil => rfl
  | cons a _ ih => rw [List.map_cons, List.map_cons, ih]
theorem krel_keysK {ks : List (L2.Key × V)} {kvs : List (D × D)} (h : KRel K F kD ks kvs) : Reps K F (ks.map fun kv => L2.kV kv.1) (kvs.map (·.1)) := by
  induction h with
  | nil => exact .nil
  | cons a _ ih => exact .cons (kD_rep F _) ih
end
/-- list(d) -/
def rKeys (K : PySem.W.Frag) : List V → Hp → VK → Prop := fun xs H Q => ∃ a F α S o t kvs, xs = [V.ref a] ∧ SW K H S F α ∧ H a = some o ∧ DAt K F o t kvs ∧ ∀ p H' F' vs, Ext F α F' α → SW K H S F' α → H p = none → H' = upd H p (.lst vs) → Reps K F' vs (kvs.map (·.1)) → Q (.ref p) H'
section
variable {X : Cx}
theorem call_keys (hc : X.calm = true) : CallR X (.type "list") (rKeys X.K) := by
  intro pins s σ H xs us Q I r ⟨a, F, α, S, o, t, kvs, ex, w, ha, hd, q⟩
  subst ex
  cases t with
  | false =>
    obtain ⟨ks, rfl, rr⟩ := hd
    exact L2.call_listD hc pins s σ H _ us Q I r ⟨a, ks, rfl, .inl ha, fun p hp => q p _ F _ Ext.refl w hp rfl (krel_keysK rr)⟩
  | true =>
    obtain ⟨ks, rfl, rr⟩ := hd
    refine L2.call_list_dT hc pins s σ H _ us Q I r ⟨a, ks, rfl, .inl ha, fun p bs hp hk => ?_⟩
    obtain ⟨F1, x1, w1, r1⟩ := w.adopts hk
    exact q p _ F1 _ x1 w1 hp rfl (by rw [krel_keysT rr]; exact r1)
/-! ### count, index -/
def rCnt (K : PySem.W.Frag) (f : D → D → Option D) : V → List V → Hp → VK → Prop := fun x xs H Q => ∃ y F α S dx dy dz, xs = [y] ∧ SW K H S F α ∧ View K F H x dx ∧ ViewS K F H y dy ∧ f dx dy = some dz ∧ Fin1 K F α S dz Q
theorem mt_cntD : MtR X "list.count" (rCnt X.K lcntD) := by
  intro pins s σ H x xs v us Q I rx rxs ⟨y, F, α, S, dx, dy, dz, ey, w, hx, hy, e, q⟩
  subst ey
  cases dx <;> cases dy <;> first | (cases e; done) | skip
  rename_i zs i
  simp only [lcntD] at e
  split at e
  · rename_i is hi
    cases e
    obtain ⟨a, vs, ex, ha, ra⟩ := hx
    subst ex
    cases (show y = _ from hy)
    exact mt_lcount pins s σ H _ _ v us Q I rx rxs ⟨a, is, i, rfl, rfl, by rw [← ra.ints hi]; exact SqL.of ha, q.here w (.int _)⟩
  · cases e
theorem idx_of {d : D} : ∀ {xs : List D} {n m : Nat}, idxD d xs n = some m → ∃ j z, m = n + j ∧ xs[j]? = some z ∧ PyData.eqv z d = true ∧ ∀ (i : Nat) (z' : PyData), i < j → xs[i]? = some z' → PyData.eqv z' d = false
  | [], n, m, h => by cases h
  | x :: xs, n, m, h => by
    unfold idxD at h
    split at h
    · rename_i he
      cases h
      exact ⟨0, x, rfl, rfl, he, fun i z' hi _ => absurd hi (by omega)⟩
    · rename_i he
      obtain ⟨j, z, e1, e2, e3, e4⟩ := idx_of h
      refine ⟨j + 1, z, by omega, by simpa using e2, e3, fun i z' hi hz => ?_⟩
      cases i with
      | zero =>
        have : x = z' := by simpa using hz
        subst this
        simpa using he
      | succ i => exact e4 i z' (by omega) (by simpa using hz)
theorem mt_idxD (hu : X.A.units + 65 < cLine) : MtR X "list.index" (rCnt X.K lidxD) := by
  intro pins s σ H x xs v us Q I rx rxs ⟨y, F, α, S, dx, dy, dz, ey, w, hx, hy, e, q⟩
  subst ey
  cases dx <;> first | (cases e; done) | skip
  rename_i zs
  simp only [lidxD] at e
  split at e
  · rename_i hs
    rw [Bool.and_eq_true] at hs
    split at e
    · rename_i n hn
      cases e
      obtain ⟨j, z, e1, e2, e3, e4⟩ := idx_of hn
      rw [Nat.zero_add] at e1
      subst e1
      have hD := hx.s.dp w.sub
      obtain ⟨a, vs, ex, ha, ra⟩ := hx
      subst ex
      exact mt_indexD hu pins s σ H _ _ v us Q I rx rxs ⟨a, y, dy, zs, n, z, rfl, rfl, hD, hy.dp w.sub, hs.2, hs.1, e2, e3, e4, q.here w (.int _)⟩
    · cases e
  · cases e
end
end PC
end
section
/-! PcDc: {k: v for ..}, the keys tuples; d.update(e). -/
namespace PC
open PySem PySem.Spec PyProof.Rows L2
section
variable {X : Cx}
/-- D[b] = v by a comprehension, the key a tuple -/
theorem put_comp {pins : List (Addr × Obj)} {σ : L2.St} {H : Hp} {s : Shared} {E : Value → Shared → Prop} {D b : Addr} {kvs : List (List L2.Key × V)} {k : List L2.Key} {v : V} {r : Value} {Q : Unit → Shared → Prop} (hu : X.A.units + 1 < cLine) (Y : Inv X pins σ H s)
    (e : H D = some (.dT kvs)) (hz : kvs.length < sizeLine) (eb : H b = some (.tup (k.map L2.kV))) (rv : RelV v r) (h : ∀ s', Inv X pins σ (upd H D (.dT (L2.putK kvs k v))) s' → Q () s') : wpAny (model X.prog X.w) X.A (dictSet D (.ref b) r) Q E s := by
  obtain ⟨z, hd, ps, rel, dd⟩ := dt_of Y.hok e
  have z1 : ps.length ≤ sizeLine := by rw [← Paired.length rel]; exact z
  have z2 : (L2.putK kvs k v).length ≤ sizeLine := by have := L2.length_putK kvs k v; omega
  refine wpAny_dictSet_heap (hsz := z1) (show X.A.units < cLine by omega) (key_of Y.hok eb) dd fun h2 d2 sb => h _ ?_
  obtain ⟨o2, es, ep, g1, g2, g3, g4, _, g5⟩ := d2
  refine d_write Y (by rw [e]; trivial) sb ⟨o2, g1⟩ ⟨z2, hd, _, (rel.put k eb rv).keeps fun c ys ec => ?_, o2, es, ep, g1, g2, g3, g4, g5⟩
  rw [upd_ne (ne_of ec e fun q => nomatch q)]
  exact ec
/-- {k: v for target in iter}, the keys tuples: D the new dict -/
def tDcT (wi : TI) (g : TG) (tk tv : TE) (vs : List Nat) : TE := fun σ H Q => wi σ H fun J H1 => ∀ D, H1 D = none → ∃ W : Nat → Nat → Hp → Prop, (∃ m, W 0 m (upd H1 D (.dT []))) ∧ ∀ i m Hi, W i m Hi →
  (J.stop i Hi ∧ Q (.ref D) Hi) ∨ (J.go i Hi ∧ ∃ Nx : Hp → Prop, (∀ H', Nx H' → ∃ m', m' < m ∧ W (i + 1) m' H') ∧ ∀ x H', J.yld i Hi x H' → g x (L2.wipe σ vs) H' fun σ2 H2 => L2.wipe σ2 vs = L2.wipe σ vs ∧
    tk σ2 H2 fun y H4 => tv σ2 H4 fun z H5 => ∃ kvs k b, y = .ref b ∧ H5 b = some (.tup (k.map L2.kV)) ∧ H5 D = some (.dT kvs) ∧ kvs.length < sizeLine ∧ Nx (upd H5 D (.dT (L2.putK kvs k z))))
theorem pe_dcT {kx vx tg iter : Expr} {scope : Scope} {own : List (Str × Nat)} {pos : Pos} {wi : TI} {g : TG} {tk tv : TE} (hu : X.A.units + 1 < cLine) (hc : X.calm = true) (hN : X.N.Nodup) (hi : PI X tg iter wi) (bo : BlkOk X.N X.env.scope scope own)
    (hg : ∀ (s : Shared) (H : Hp) (C : Addr) (cl : List (Str × Addr)) (fp : List Addr), PG (X.blk s H scope (compEnvC scope cl C X.env) fp) tg g)
    (hk : ∀ (s : Shared) (H : Hp) (C : Addr) (cl : List (Str × Addr)) (fp : List Addr), PE (X.blk s H scope (compEnvC scope cl C X.env) fp) kx tk)
    (hv : ∀ (s : Shared) (H : Hp) (C : Addr) (cl : List (Str × Addr)) (fp : List Addr), PE (X.blk s H scope (compEnvC scope cl C X.env) fp) vx tv) (hs : ∀ x, foldedSetIterable iter X.env x = pure x) :
    PE X (.DictComp kx vx [⟨tg, iter, [], 0⟩] scope pos) (tDcT wi g tk tv (own.map (·.2))) := by
  refine ⟨fun pins s σ H Q Y h => ?_⟩
  rw [arm_eval_DictComp]
  have free : ∀ y ∈ scope.names, y.2 = .free → ∃ c, X.env.cells.lookup y.1 = some c := fun y hy e => (bo.free y hy e).elim (fun q => Y.ok.has _ (.inl q)) fun q => Y.ok.has _ (.inr q)
  refine wpAny_comprehension_free (use := none) rfl hs (closure_ok free) bo.kind (fun y hy e => by rw [bo.uniq y hy, e]) (thn (hi.run pins s σ H _ Y h) fun xv s1 hx => thn hx fun itv s2 h2 => ?_)
  obtain ⟨it, fp, tn, J, H2, eit, Y2, T, st2, f2, q⟩ := h2
  subst eit
  refine wpAny_newObj_type (newEnv_comp ?_)
  generalize hD : s2.heap.objs.size = D
  obtain ⟨W, ⟨m0, w0⟩, turn⟩ := q D (Y2.hok.fresh (Nat.le_of_eq hD))
  generalize e3 : ({ s2 with heap := s2.heap.push { cls := .type "dict", data := .dict #[] } } : Shared) = s3
  have Y3 : Inv X pins σ (upd H2 D (.dT [])) s3 := by
    subst e3
    refine Y2.laid (t' := s2.toks) (fun c o e => Heap.get?_push_of_some _ e) (Nat.le_of_eq hD) ?_
    subst hD
    exact dt_empty s2.heap Y2.big
  have p3 : s3.heap = s2.heap.push { cls := .type "dict", data := .dict #[] } := by subst e3; rfl
  have f3 : ∀ c ∈ fp, FpOk X pins (upd H2 D (.dT [])) c ∧ c < s3.heap.objs.size := fun c hc => by
    obtain ⟨o, eo, _⟩ := T.obj _ _ st2 c hc
    have lt : c < s2.heap.objs.size := Heap.lt_size eo
    refine ⟨⟨?_, (f2 c hc).2⟩, by rw [p3, Heap.size_push]; exact Nat.lt_succ_of_lt lt⟩
    rw [upd_ne (by rw [← hD]; exact Nat.ne_of_lt lt)]
    exact (f2 c hc).1
  have st3 : tn 0 s3.heap := T.keep _ _ _ st2 fun c _ o e => by rw [p3]; exact Heap.get?_push_of_some _ e
  have Y4 := block_start Y3 bo hN f3
  generalize hcl : cellsFrom (s3.heap.objs.size + 1) scope.names (cloFrom X.env.cells scope.names []) = cl at Y4 ⊢
  have qg := hg s3 (upd H2 D (.dT [])) s3.heap.objs.size cl fp
  have qk := hk s3 (upd H2 D (.dT [])) s3.heap.objs.size cl fp
  have qv := hv s3 (upd H2 D (.dT [])) s3.heap.objs.size cl fp
  have un : ∀ c ∈ fp, (upd H2 D (.dT [])) c = none := fun c hc => (f3 c hc).1.1
  have subst_goal : codeAny (model X.prog X.w) X.A (.compStart (.DictComp kx vx [⟨tg, iter, [], 0⟩] scope pos) 0 (.ref it) (.ref D) (compEnvC scope cl s3.heap.objs.size X.env)) (compPost (model X.prog X.w) X.A X.xe none (EP X pins σ Q) (.ref D) s3.heap.objs.size) { s3 with heap := pushCells (s3.heap.push { cls := .type "dict", data := .dict #[] }) scope.names } := by
    generalize hce : compEnvC scope cl s3.heap.objs.size X.env = ce at Y4 qg qk qv ⊢
    have loc : ce.locals = s3.heap.objs.size := by subst hce; rfl
    generalize hH : upd H2 D (.dT []) = H3 at Y3 Y4 qg qk qv w0 un f3
    generalize h4 : ({ s3 with heap := pushCells (s3.heap.push { cls := .type "dict", data := .dict #[] }) scope.names } : Shared) = s4 at Y4 ⊢
    have st4 : tn 0 s4.heap := T.keep _ _ _ st3 fun c _ o e => by subst h4; exact pushCells_keeps _ _ _ _ (Heap.get?_push_of_some _ e)
    have frz : ∀ {τ : L2.St} {G : Hp} {t : Shared}, Inv (X.blk s3 H3 scope ce fp) [] τ G t → (∀ c ∈ fp, G c = none) → ∀ c ∈ fp, FpOk (X.blk s3 H3 scope ce fp) [] G c := fun {τ G t} Z hn c hc =>
      ⟨hn c hc, (Z.ok.exf c hc).1, Z.ok.exfs c hc, .inl hc, fun x d e => (Z.ok.exf c hc).2 x d e, fun p hp => absurd (show p ∈ ([] : List (Addr × Obj)) ++ [] from hp) (by simp)⟩
    have lp : codeAny (model X.prog X.w) X.A (.compLoop (.DictComp kx vx [⟨tg, iter, [], 0⟩] scope pos) 0 (.ref it) (.ref D) ce) (compPost (model X.prog X.w) X.A X.xe none (EP X pins σ Q) (.ref D) s3.heap.objs.size) s4 := by
      refine compLoop_anyD (fun n t => ∃ i G, Inv (X.blk s3 H3 scope ce fp) [] (L2.wipe σ (own.map (·.2))) G t ∧ tn i t.heap ∧ (∀ c ∈ fp, G c = none) ∧ W i n G) ?_ m0 ⟨0, H3, Y4, st4, un, w0⟩
      rintro n s5 ⟨i, H5, Y5, st5, n5, w5⟩
      rcases turn i n H5 w5 with ⟨stop, fin⟩ | ⟨go, Nx, hNx, step⟩
      · refine thnF (T.done (X.blk s3 H3 scope ce fp) rfl rfl rfl hc i [] s5 _ H5 (fun _ _ => False) Y5 (frz Y5 n5) st5 stop) fun r s6 ⟨er, Y6⟩ => ?_
        subst er
        have Y7 : Inv X pins σ H5 s6 := Y3.call' (ch := fp) Y6.os Y6.base Y6.hok Y6.bare fun c hc => ⟨(f3 c hc).1.2.2.2.1, (f3 c hc).1.2.1, (f3 c hc).1.2.2.2.2.1, (f3 c hc).1.2.2.2.2.2⟩
        have nC : H5 s3.heap.objs.size = none := by
          have z : H5 ce.locals = none := Y6.free
          rwa [loc] at z
        obtain ⟨m, hn, _⟩ := Y6.loc
        have hn' : s6.heap.Ns ce.locals m := hn
        rw [loc] at hn'
        obtain ⟨k0, k1, k2, k3, k4, k5⟩ := Y3.fpOk (Nat.le_refl _) nC
        exact ⟨m, hn', fun h'' sb => ⟨.ref D, H5, Y7.turned (t' := s6.toks) (fun c o hb e => (sb.2 c hb).trans e) k0 k1 k3 k4 k5, rfl, fin⟩⟩
      · refine thnF (T.item (X.blk s3 H3 scope ce fp) rfl rfl rfl hc i [] s5 _ H5 (fun _ _ => False) Y5 (frz Y5 n5) st5 go) fun r s6 ⟨u, er, h6⟩ => ?_
        subst er
        refine thnF h6 fun _ s7 ⟨x, H7, Y7, r7, y7, st7, n7⟩ => ?_
        refine thnF (qg.run _ s7 _ H7 x u _ (Y7.pinned (frz Y7 n7) (T.obj _ _ st7)) r7 (step x H7 y7)) fun _ s8 ⟨σ8, H8, Y8, hw8, q8⟩ => ?_
        have done : ∀ {t : Shared} {G : Hp}, Inv (X.blk s3 H3 scope ce fp) ([] ++ pinsAt fp s7.heap) σ8 G t → Nx G → ∃ m, m < n ∧ ∃ i G, Inv (X.blk s3 H3 scope ce fp) [] (L2.wipe σ (own.map (·.2))) G t ∧ tn i t.heap ∧ (∀ c ∈ fp, G c = none) ∧ W i m G := fun {t G} Z nx => by
          obtain ⟨m', hm, w'⟩ := hNx G nx
          have pin : ∀ c ∈ fp, ∀ o, s7.heap.get? c = some o → t.heap.get? c = some o ∧ G c = none := fun c hc o e => by
            have z := Z.pin (c, o) (List.mem_append_right _ (List.mem_append_right _ (mem_pinsAt hc e)))
            exact ⟨z.1, z.2.1⟩
          refine ⟨m', hm, i + 1, G, (Z.unpinned (pins := [])).weak (by rw [← hw8, L2.wipe_length]) (fun j v e => ?_), T.keep _ _ _ st7 fun c hc o e => (pin c hc o e).1, fun c hc => ?_, w'⟩
          · rw [← hw8] at e
            exact (wipe_some e).1
          · obtain ⟨o, e, _⟩ := T.obj _ _ st7 c hc
            exact (pin c hc o e).2
        show wpAny _ _ (forIn [] true _) _ _ s8
        rw [List.forIn_nil]
        refine wpAny_pure ?_
        rw [if_pos rfl]
        refine thnF (qk.run _ s8 σ8 H8 _ Y8 q8) fun z s10 ⟨yk, H10, Y10, r10, q10⟩ => ?_
        refine thnF (qv.run _ s10 σ8 H10 _ Y10 q10) fun z2 s11 ⟨yv, H11, Y11, r11, kvs, k, b, ek, hb, hD11, hz11, nx⟩ => ?_
        subst ek
        cases (show z = Value.ref b from r10)
        exact put_comp (X := X.blk s3 H3 scope ce fp) hu Y11 hD11 hz11 hb r11 fun s12 Y12 => done Y12 nx
    exact codeAny_compStart_dict lp (T.self X.A 0 _ _ _ st4 lp)
  subst hcl
  exact subst_goal
/-! ### update -/
def mergeT (kvs more : List (List L2.Key × V)) : List (List L2.Key × V) := more.foldl (fun acc p => L2.putK acc p.1 p.2) kvs
theorem mergeT_len : ∀ (more kvs : List (List L2.Key × V)), (mergeT kvs more).length ≤ kvs.length + more.length
  | [], kvs => Nat.le_refl _
  | p :: more, kvs => by
    have h := mergeT_len more (L2.putK kvs p.1 p.2)
    have := L2.length_putK kvs p.1 p.2
    show (mergeT (L2.putK kvs p.1 p.2) more).length ≤ _
    rw [List.length_cons]
    omega
theorem mergeT_rel {H : Hp} : ∀ {more : List (List L2.Key × V)} {ys : List (List L2.Key × Addr × Value)} {kvs : List (List L2.Key × V)} {xs : List (List L2.Key × Addr × Value)}, KT H more ys → KT H kvs xs → KT H (mergeT kvs more) (storedAllH xs ys)
  | _, _, kvs, xs, .nil, h => h
  | p :: more, q :: ys, kvs, xs, .cons hp t, h => by
    have z := mergeT_rel t (h.put q.1 (b := q.2.1) (by rw [← hp.1]; exact hp.2.1) hp.2.2)
    rw [← hp.1] at z
    show KT H (mergeT (L2.putK kvs p.1 p.2) more) (storedAllH (storedH xs q.1 q.2.1 q.2.2) ys)
    rw [← hp.1]
    exact z
def rUpdT (P : Program) (w : World) : V → List V → Hp → VK → Prop := fun x xs H Q => ∃ (a o : Addr) (kvs more : List (List L2.Key × V)), x = .ref a ∧ xs = [.ref o] ∧ a ≠ o ∧ H a = some (.dT kvs) ∧ H o = some (.dT more) ∧ (kvs ≠ [] ∨ (more.map fun p => tupleKeyHash (mixKind P w) p.1).Nodup) ∧
  kvs.length + more.length ≤ sizeLine ∧ Q .non (upd H a (.dT (mergeT kvs more)))
theorem mt_updT (hu : X.A.units + 1 < cLine) : MtR X "dict.update" (rUpdT X.prog X.w) := by
  intro pins s σ H x xs v us Q I rx rxs h
  obtain ⟨a, o, kvs, more, rfl, rfl, hne, ha, ho, hap, hz, q⟩ := h
  cases rx
  obtain ⟨u, rfl, ru⟩ := vals1 rxs
  cases ru
  obtain ⟨z1, hd, ps, r1, d1⟩ := dt_of I.hok ha
  obtain ⟨z2, hoS, qs, r2, d2⟩ := dt_of I.hok ho
  have l1 := Paired.length r1
  have l2 := Paired.length r2
  have hmap : ∀ {m : List (List L2.Key × V)} {ys : List (List L2.Key × Addr × Value)}, KT H m ys → m.map (fun p => tupleKeyHash (mixKind X.prog X.w) p.1) = ys.map fun x => (tupleKind (mixKind X.prog X.w)).hash x.1 := by
    intro m ys r
    induction r with
    | nil => rfl
    | cons h t ih => rw [List.map_cons, List.map_cons, ih, h.1]; rfl
  have hty : ∀ x ∈ qs, s.TypeIs (.ref x.2.1) "tuple" := by
    have all : ∀ {m : List (List L2.Key × V)} {ys : List (List L2.Key × Addr × Value)}, KT H m ys → ∀ x ∈ ys, s.TypeIs (.ref x.2.1) "tuple" := by
      intro m ys r
      induction r with
      | nil => intro x hx; exact nomatch hx
      | @cons p q ps qs hq t ih =>
        intro x hx
        rcases List.mem_cons.mp hx with e | hx
        · subst e
          obtain ⟨_, its, _, ob, eo, hc, _⟩ := I.hok _ _ hq.2.1
          exact ⟨ob, eo, hc⟩
        · exact ih x hx
    exact all r2
  refine call_update_dictH (tupleKind_room_in1 hu) hne hoS d1 d2 ?_ (by omega) fun h' e1 e2 sb => ?_
  · rcases hap with e | e
    · refine .inl fun c => e ?_
      subst c
      cases r1
      rfl
    · exact .inr ⟨hty, by rw [← hmap r2]; exact e⟩
  · obtain ⟨ob, es, ep, g1, g2, g3, g4, _, g5⟩ := e1
    have rel := mergeT_rel r2 r1
    have hl := mergeT_len more kvs
    refine ⟨.non, _, d_write I (ob := .dT (mergeT kvs more)) (by rw [ha]; trivial) sb ⟨ob, g1⟩ ⟨by omega, hd, _, rel.keeps fun c ys ec => ?_, ob, es, ep, g1, g2, g3, g4, g5⟩, rfl, q⟩
    rw [upd_ne (ne_of ec ha fun z => nomatch z)]
    exact ec
end
/-! ### on plain values -/
theorem ndB_ok : ∀ {l : List Int}, ndB l = true → l.Nodup
  | [], _ => List.nodup_nil
  | x :: r, h => by
    obtain ⟨h1, h2⟩ := Bool.and_eq_true_iff.mp (show (!(r.any fun y => decide (x = y)) && ndB r) = true from h)
    refine List.nodup_cons.mpr ⟨fun hm => ?_, ndB_ok h2⟩
    have : (r.any fun y => decide (x = y)) = true := List.any_eq_true.mpr ⟨x, hm, decide_eq_true rfl⟩
    rw [this] at h1
    cases h1
theorem ints_keys : ∀ {ks : List L2.Key} {is : List Int}, ints? (ks.map kD) = some is → ks = is.map Sum.inl
  | [], is, h => by cases h; rfl
  | .inl i :: ks, is, h => by
    simp only [List.map_cons, kD, ints?] at h
    split at h
    · rename_i js hj
      cases h
      rw [ints_keys hj]
      rfl
    · cases h
  | .inr x :: ks, is, h => by cases h
theorem keysI_hash {K : PySem.W.Frag} {F : Hp} (P : Program) (w : World) : ∀ {ks : List (List L2.Key × V)} {kvs : List (D × D)} {l : List (List Int)}, KRel K F kDs ks kvs → keysI kvs = some l → ks.map (fun p => tupleKeyHash (mixKind P w) p.1) = l.map hashTI
  | _, _, l, .nil, h => by cases h; rfl
  | _, _, l, .cons (k := k) (v := v) (d := d) (r := r) (s := t) a b, h => by
    have h' : (match ints? (k.map kD), keysI t with
      | some is, some l => some (is :: l)
      | _, _ => none) = some l := h
    cases q : ints? (k.map kD) with
    | none => rw [q] at h'; cases h'
    | some is =>
      cases q2 : keysI t with
      | none => rw [q, q2] at h'; cases h'
      | some l' =>
        rw [q, q2] at h'
        cases h'
        rw [List.map_cons, List.map_cons, keysI_hash P w b q2]
        have e := ints_keys q
        subst e
        congr 1
        show reduceHash (Builtin.Tuple.tupleHashOf ((is.map Sum.inl).map (mixKind P w).hash)) = hashTI is
        rw [List.map_map]
        rfl
theorem krel_merge {K : PySem.W.Frag} {F : Hp} {ms : List (List L2.Key × V)} {more : List (D × D)} (a : KRel K F kDs ms more) : ∀ {ks : List (List L2.Key × V)} {kvs : List (D × D)}, KRel K F kDs ks kvs → KRel K F kDs (mergeT ks ms) (dMerge kvs more) := by
  induction a with
  | nil => intro ks kvs h; exact h
  | cons a b ih =>
    intro ks kvs h
    exact ih (krel_put same_kDs a h)
theorem upOk_ok {K : PySem.W.Frag} {F : Hp} (P : Program) (w : World) {ms : List (List L2.Key × V)} {more : List (D × D)} {ks : List (List L2.Key × V)} {kvs : List (D × D)} (h : upOk kvs more = true) (r1 : KRel K F kDs ks kvs) (r2 : KRel K F kDs ms more) :
    ks ≠ [] ∨ (ms.map fun p => tupleKeyHash (mixKind P w) p.1).Nodup := by
  unfold upOk at h
  rw [Bool.or_eq_true] at h
  rcases h with h | h
  · refine .inl fun e => ?_
    subst e
    cases r1
    cases h
  · cases q : keysI more with
    | none => rw [q] at h; cases h
    | some l =>
      rw [q] at h
      rw [keysI_hash P w r2 q]
      exact .inr (ndB_ok h)
end PC
end
section
/-! PcRev: t[::-1] of a tuple or a list. -/
namespace HT
open PySem PySem.Spec PyProof.Rows L2
section
variable {prog : Program} {w : World} {A : Around} {E : Value → Shared → Prop} {s : Shared}
theorem places_rev (n : Nat) : Builtin.Slice.slicePlaces ((n : Int) - 1) (-1) (-1) = n := by
  unfold Builtin.Slice.slicePlaces
  rw [if_neg (show ¬ ((-1 : Int) > 0) by decide)]
  rw [show (- -1 : Int) = 1 by decide, Int.ediv_one]
  split <;> omega
theorem sliceApplied_rev {sl : Addr} {vc : Value} {n : Nat} {Q : Int × Int × Nat → Shared → Prop} (hs : s.heap.IsSliceOf sl .none .none vc) (pc : IsPart vc (some (-1)))
    (h : Q ((n : Int) - 1, -1, n) s) : wpAny (model prog w) A (Builtin.Slice.sliceApplied (.ref sl) (pure (n : Int))) Q E s := by
  obtain ⟨os, hos, hcs, hds⟩ := id hs
  unfold Builtin.Slice.sliceApplied Builtin.Slice.sliceFields
  refine wpAny_bind (wpAny_bind (wpAny_field hos hds (x := .none) rfl (wpAny_bind (wpAny_field hos hds (x := .none) rfl (wpAny_bind (wpAny_field hos hds (x := vc) rfl (wpAny_pure ?_)))))))
  refine wpAny_bind (slicePart_ pc ?_)
  show wpAny _ _ (if ((-1 : Int) == 0) = true then _ else _) _ _ s
  rw [if_neg (by decide)]
  refine wpAny_bind (slicePart_none (wpAny_bind (slicePart_none (wpAny_bind (wpAny_pure ?_)))))
  show wpAny _ _ (pure ((n : Int) - 1, (-1 : Int), Builtin.Slice.slicePlaces ((n : Int) - 1) (-1) (-1))) _ _ s
  rw [places_rev]
  exact wpAny_pure h
theorem fm_congr {α β : Type} {f g : α → Option β} : ∀ {l : List α}, (∀ x ∈ l, f x = g x) → l.filterMap f = l.filterMap g
  | [], _ => rfl
  | a :: l, h => by
    rw [List.filterMap_cons, List.filterMap_cons, h a List.mem_cons_self, fm_congr fun x hx => h x (List.mem_cons_of_mem _ hx)]
theorem pick_rev (xs : Array Value) : ((List.range xs.size).filterMap fun (k : Nat) => xs[((xs.size : Int) - 1 + (k : Int) * -1).toNat]?).toArray = xs.toList.reverse.toArray := by
  have e : (List.range xs.size).filterMap (fun (k : Nat) => xs[((xs.size : Int) - 1 + (k : Int) * -1).toNat]?) = ((List.range xs.size).map fun k => xs.size - 1 - k).filterMap (xs[·]?) := by
    rw [List.filterMap_map]
    refine fm_congr fun k hk => ?_
    have := List.mem_range.mp hk
    have e2 : ((xs.size : Int) - 1 + (k : Int) * -1).toNat = xs.size - 1 - k := by omega
    rw [e2] <;> rfl
  rw [e, PySem.W.krv_range, List.filterMap_reverse, PySem.W.krv_all]
theorem getItem_tuple_rev {t sl : Addr} {items : Array Value} {vc : Value} {Q : Value → Shared → Prop} (ht : IsTup s.heap t items) (hs : s.heap.IsSliceOf sl .none .none vc) (pc : IsPart vc (some (-1)))
    (h : Q (.ref s.heap.objs.size) { s with heap := s.heap.push { cls := .type "tuple", data := .seq items.toList.reverse.toArray } })
    (hsz : items.size ≤ sizeLine) : wpAny (model prog w) A (getItem (.ref t) (.ref sl)) Q E s := by
  have htake : sizeOk (.seq items.toList.reverse.toArray) := by
    show items.toList.reverse.toArray.size ≤ sizeLine
    rw [List.size_toArray, List.length_reverse, Array.length_toList]
    omega
  obtain ⟨os, hos, hcs, hds⟩ := id hs
  have hTs : s.TypeIs (.ref sl) "slice" := ⟨os, hos, hcs⟩
  unfold getItem
  try with_reducible refine wpAny_holding ?_
  first | refine wpAny_bind (wpAny_pure ?_) | skip
  refine wpAny_bind (wpAny_sequenceKey ht.typeIs (by decide) ?_)
  refine wpAny_bind (wpAny_callSpecial?_slot (name := Str.ofString "__getitem__") ht.typeIs PyProof.Rows.slot_tuple_getitem
    (wpAny_call_entry PyProof.Rows.slot_tuple_getitem ht.typeIs entry_tuple_getitem ?_ (args_tuple_getitem _ _)))
  show wpAny _ _ (Builtin.Tuple.tupleItemsOf (.ref t) >>= _) _ _ s
  refine wpAny_bind (tupleItemsOf_ ht ?_)
  refine wpAny_bind (wpAny_typeOf hTs ?_)
  rw [if_pos (by decide)]
  refine wpAny_bind (sliceApplied_rev hs pc ?_)
  have hno : ¬ ((((items.size : Int) - 1) == 0 && (-1 : Int) == 1 && items.size == items.size) = true) := by
    intro q
    rw [Bool.and_eq_true, Bool.and_eq_true] at q
    exact absurd q.1.2 (by decide)
  show wpAny _ _ (if (((items.size : Int) - 1) == 0 && (-1 : Int) == 1 && items.size == items.size) = true then _ else _) _ _ s
  rw [if_neg hno, pick_rev]
  first
    | exact wpAny_bind (m := Builtin.Tuple.tupleExact _) (wpAny_newObj_type (wpAny_pure ⟨_, rfl, wpAny_pure h⟩) htake)
    | exact wpAny_bind (m := Builtin.Tuple.tupleExact _) (wpAny_newObj_type (wpAny_bind (wpAny_pure (wpAny_pure ⟨_, rfl, wpAny_pure h⟩))) htake)
    | exact wpAny_bind (wpAny_bind (m := Builtin.Tuple.tupleExact _) (wpAny_newObj_type (wpAny_pure (wpAny_pure ⟨_, rfl, wpAny_pure h⟩)) htake))
    | exact wpAny_bind (wpAny_bind (m := Builtin.Tuple.tupleExact _) (wpAny_newObj_type (wpAny_pure ⟨_, rfl, wpAny_pure h⟩) htake))
end
end HT
namespace PC
open PySem PySem.Spec PyProof.Rows L2
section
variable {X : Cx}
def tRev (K : PySem.W.Frag) (te : TE) : TE := fun σ H Q => te σ H fun x H1 => ∃ F α S dx dz, SW K H1 S F α ∧ ViewS K F H1 x dx ∧ revD dx = some dz ∧ Fin1 K F α S dz Q
theorem pe_rev {e : Expr} {te : TE} {k : Nat} {p1 p2 p3 pos : Pos} (he : PE X e te) : PE X (.Subscript e (.Slice none none (some (.UnaryOp .USub (.Constant (.int 1) k p1) p2)) p3) pos) (tRev X.K te) := by
  refine ⟨fun pins s σ H Q I h => ?_⟩
  refine Subscript_ (thn (he.run pins s σ H _ I h) fun v s1 ⟨x, H1, I1, r1, q1⟩ => ?_)
  obtain ⟨F, α, S, dx, dz, w, hx, e1, q⟩ := q1
  have hst : PO X (some (.UnaryOp .USub (.Constant (.int 1) k p1) p2)) (tPart (tUn (rU fun i => .int (-i)) (tC (.int 1)))) := po_some (pe_un un_neg pe_int)
  refine wpAny_Slice (thn (po_none.run pins s1 σ H1 (fun o H2 => o = none ∧ H2 = H1) I1 ⟨rfl, rfl⟩) fun vl s2 ⟨l, H2, I2, pl, el, e2⟩ => ?_)
  subst el e2
  refine thn (po_none.run pins s2 σ H2 (fun o H3 => o = none ∧ H3 = H2) I2 ⟨rfl, rfl⟩) fun vu s3 ⟨u, H3, I3, pu, eu, e3⟩ => ?_
  subst eu e3
  refine thn (hst.run pins s3 σ H3 (fun o H4 => o = some (-1) ∧ H4 = H3) I3 ⟨1, rfl, -1, rfl, rfl, rfl⟩) fun vs s4 ⟨o, H4, I4, ps, eo, e4⟩ => ?_
  subst eo e4
  have I5 : Inv X pins σ H4 { s4 with heap := s4.heap.push { cls := .type "slice", data := .fields #[vl, vu, vs] } } := I4.kept (t' := s4.toks) fun b ob q => Heap.get?_push_of_some _ q
  cases dx <;> first | (cases e1; done) | skip
  · cases e1
    obtain ⟨a, xs, ex, ha, ra⟩ := hx
    subst ex
    cases r1
    obtain ⟨its, r, ht, hz⟩ := I5.list ha
    have hlen := r.length
    show wpAny (model X.prog X.w) X.A (subscriptTail e (.Slice none none (some (.UnaryOp .USub (.Constant (.int 1) k p1) p2)) p3) (.ref a) (.ref s4.heap.objs.size)) (EP X pins σ Q) X.xe { s4 with heap := s4.heap.push { cls := .type "slice", data := .fields #[vl, vu, vs] } }
    refine tail_any (ops := [.ref a, .ref s4.heap.objs.size]) ht.isList.typeIs (PySem.slot_list_getitem.lookup) ?_ (by with_unfolding_all rfl)
    refine wpAny_getItem_list_slice ht.isList (Heap.IsSliceOf.new _ vl vu vs) pl pu ps (by decide) ?_ (by rw [List.size_toArray]; omega)
    rw [PySem.W.krv_pick]
    refine ⟨.ref _, _, I5.laid (t' := s4.toks) (o := .lst xs.reverse) (fun b ob q => Heap.get?_push_of_some _ q) (Nat.le_refl _) ?_, rfl, q.list w _ _ (I5.hok.fresh (Nat.le_refl _)) ra.reverse⟩
    exact ⟨by rw [List.length_reverse]; exact hz, _, 0, r.reverse, Heap.get?_push_size _ rfl⟩
  · cases e1
    obtain ⟨a, xs, ex, ha, ra⟩ := hx
    subst ex
    cases r1
    obtain ⟨its, r, ht, hz⟩ := I5.tuple (Evl.ex_t w.sub ha)
    have hlen := r.length
    cases pl
    cases pu
    show wpAny (model X.prog X.w) X.A (subscriptTail e (.Slice none none (some (.UnaryOp .USub (.Constant (.int 1) k p1) p2)) p3) (.ref a) (.ref s4.heap.objs.size)) (EP X pins σ Q) X.xe { s4 with heap := s4.heap.push { cls := .type "slice", data := .fields #[.none, .none, vs] } }
    refine tail_any (ops := [.ref a, .ref s4.heap.objs.size]) ht.typeIs (PyProof.Rows.slot_tuple_getitem.lookup) ?_ (by with_unfolding_all rfl)
    refine HT.getItem_tuple_rev ht (Heap.IsSliceOf.new _ .none .none vs) ps ?_ (by rw [List.size_toArray]; omega)
    refine ⟨.ref _, _, I5.laid (t' := s4.toks) (o := .tup xs.reverse) (fun b ob q => Heap.get?_push_of_some _ q) (Nat.le_refl _) ?_, rfl, q.tup w (I5.hok.fresh (Nat.le_refl _)) ra.reverse⟩
    exact ⟨by rw [List.length_reverse]; exact hz, _, r.reverse, IsTup.new _ _⟩
end
end PC
end
section
/-! PcChk: a text of the small language is the given Python text. -/
namespace PC
open PySem PySem.Spec PyProof.Rows L2

structure Ctx where
  N : List Str
  sc : Scope
  fn : Str → Bool
/-- the defs, the constants -/
structure Tab where
  defs : List Def
  globs : List (Str × D)

def visB (c : Ctx) (x : Str) : Bool := match c.sc.names.lookup x with
  | some .local => true
  | some .cell => true
  | some .free => true
  | _ => false
def locB (c : Ctx) (x : Str) : Bool := match c.sc.names.lookup x with
  | some .local => true
  | some .cell => c.fn x
  | _ => false
def glB (c : Ctx) (x : Str) : Bool := match c.sc.names.lookup x with
  | some .globalImplicit => true
  | _ => false
def okN (x : Str) : Bool := !(x == ("__debug__" : Str)) && !(x == ("__classdict__" : Str))
def nmB (c : Ctx) (i : Nat) (x : Str) : Bool := decide (c.N[i]? = some x) && (visB c x && okN x)
def bopB (o : Bop) : Operator → Bool
  | .Add => decide (o = .add)
  | .Sub => decide (o = .sub)
  | .Mult => decide (o = .mul)
  | .FloorDiv => decide (o = .div)
  | .Mod => decide (o = .mod)
  | .Pow => decide (o = .pow)
  | _ => false
def copB (o : Cop) : CmpOp → Bool
  | .Eq => decide (o = .eq)
  | .NotEq => decide (o = .ne)
  | .Lt => decide (o = .lt)
  | .LtE => decide (o = .le)
  | .Gt => decide (o = .gt)
  | .GtE => decide (o = .ge)
  | .In => decide (o = .inn)
  | .NotIn => decide (o = .nin)
  | .Is => decide (o = .isn)
  | .IsNot => decide (o = .isnn)
def B1.nm : B1 → Str
  | .len => "len" | .int => "int" | .abs => "abs" | .tuple => "tuple" | .list => "list" | .sum => "sum" | .any => "any" | .all => "all" | .sorted => "sorted" | .smin => "min" | .smax => "max"
def B2.nm : B2 → Str
  | .max => "max" | .min => "min"
def Ty.nm : Ty → Str
  | .tuple => "tuple" | .list => "list" | .int => "int" | .bool => "bool" | .str => "str"
/-- a test's form: no conditional expression -/
def tstOk : E → Bool
  | .ite _ _ _ => false
  | .not a => tstOk a
  | .and a b => tstOk a && tstOk b
  | .or a b => tstOk a && tstOk b
  | _ => true
def ownOf (N : List Str) (vs : List Nat) : List (Str × Nat) := vs.filterMap fun i => (N[i]?).map fun x => (x, i)
def blkCtx (c : Ctx) (scope : Scope) : Ctx := ⟨c.N, L2.relS scope c.sc, fun x => scope.names.lookup x == some .cell⟩
def isTupE : Expr → Bool
  | .Tuple _ _ _ => true
  | _ => false
mutual
def chkG : G → Ctx → Expr → Bool
  | .name i, c, t => match t with
    | .Name x _ => decide (c.N[i]? = some x) && locB c x
    | _ => false
  | .tup gs, c, t => match t with
    | .Tuple ts _ _ => chkGs gs c ts
    | _ => false
def chkGs : Gs → Ctx → List Expr → Bool
  | .nil, _, ts => ts.isEmpty
  | .cons g gs, c, ts => match ts with
    | t :: r => chkG g c t && chkGs gs c r
    | [] => false
end
mutual
def chkE (T : Tab) : E → Ctx → Expr → Bool
  | .var i, c, t => match t with
    | .Name x _ => nmB c i x
    | _ => false
  | .glob y v, c, t => match t with
    | .Name x _ => decide (x = y) && (glB c x && (okN x && T.globs.any fun p => decide (p.1 = y) && sameD p.2 v))
    | _ => false
  | .int i, _, t => match t with
    | .Constant (.int j) _ _ => decide (i = j)
    | _ => false
  | .bl b, _, t => match t with
    | .Constant (.bool j) _ _ => b == j
    | _ => false
  | .non, _, t => match t with
    | .Constant .none _ _ => true
    | _ => false
  | .str x, _, t => match t with
    | .Constant (.str j) _ _ => decide (x = j)
    | _ => false
  | .bin o a b, c, t => match t with
    | .BinOp l p r _ => bopB o p && (chkE T a c l && chkE T b c r)
    | _ => false
  | .neg a, c, t => match t with
    | .UnaryOp .USub l _ => chkE T a c l
    | _ => false
  | .not a, c, t => match t with
    | .UnaryOp .Not l _ => chkE T a c l
    | _ => false
  | .and a b, c, t => match t with
    | .BoolOp .And (x :: y :: r) pos => chkE T a c x && chkE T b c (match r with
      | [] => y
      | _ => .BoolOp .And (y :: r) pos)
    | _ => false
  | .or a b, c, t => match t with
    | .BoolOp .Or (x :: y :: r) pos => chkE T a c x && chkE T b c (match r with
      | [] => y
      | _ => .BoolOp .Or (y :: r) pos)
    | _ => false
  | .cmp o a b, c, t => match t with
    | .Compare l [p] [r] _ => copB o p && (chkE T a c l && chkE T b c r)
    | _ => false
  | .chain o p a b d, c, t => match t with
    | .Compare l [q, q'] [r, r'] _ => copB o q && (copB p q' && (chkE T a c l && (chkE T b c r && chkE T d c r')))
    | _ => false
  | .ite d a b, c, t => match t with
    | .IfExp x y z _ => tstOk d && (chkE T d c x && (chkE T a c y && chkE T b c z))
    | _ => false
  | .ix a b, c, t => match t with
    | .Subscript x y _ => chkE T a c x && chkE T b c y
    | _ => false
  | .slo a b, c, t => match t with
    | .Subscript x (.Slice (some y) none none _) _ => chkE T a c x && chkE T b c y
    | _ => false
  | .shi a b, c, t => match t with
    | .Subscript x (.Slice none (some y) none _) _ => chkE T a c x && chkE T b c y
    | _ => false
  | .rev a, c, t => match t with
    | .Subscript x (.Slice none none (some (.UnaryOp .USub (.Constant (.int k) _ _) _)) _) _ => decide (k = 1) && chkE T a c x
    | _ => false
  | .tup es, c, t => match t with
    | .Tuple ts _ _ => chkEs T es c ts
    | _ => false
  | .lst es, c, t => match t with
    | .List ts _ => chkEs T es c ts
    | _ => false
  | .comp g vs it hc d e, c, t => match t with
    | .ListComp elt [⟨tg, iter, ifs, asy⟩] scope _ =>
      decide (asy = 0) && (decide ((ownOf c.N vs).map (·.2) = vs) && (L2.blkC c.N c.sc scope (ownOf c.N vs) && (chkIt T it c tg iter && (chkG g (blkCtx c scope) tg && ((G.slots g).all (fun i => vs.contains i) &&
        ((match hc, ifs with
          | true, [f] => tstOk d && chkE T d (blkCtx c scope) f
          | false, [] => true
          | _, _ => false) && chkE T e (blkCtx c scope) elt))))))
    | _ => false
  | .dcomp g vs it k v, c, t => match t with
    | .DictComp kx vx [⟨tg, iter, [], asy⟩] scope _ =>
      decide (asy = 0) && (decide ((ownOf c.N vs).map (·.2) = vs) && (L2.blkC c.N c.sc scope (ownOf c.N vs) && (chkIt T it c tg iter && (chkG g (blkCtx c scope) tg && ((G.slots g).all (fun i => vs.contains i) &&
        (chkE T k (blkCtx c scope) kx && chkE T v (blkCtx c scope) vx))))))
    | _ => false
  | .b1 f a, c, t => match t with
    | .Call (.Name x _) [y] [] _ => decide (x = f.nm) && (glB c x && chkE T a c y)
    | _ => false
  | .b2 f a b, c, t => match t with
    | .Call (.Name x _) [y, z] [] _ => decide (x = f.nm) && (glB c x && (chkE T a c y && chkE T b c z))
    | _ => false
  | .isi a ty, c, t => match t with
    | .Call (.Name x _) [y, .Name z _] [] _ => decide (x = ("isinstance" : Str)) && (glB c x && (decide (z = ty.nm) && (glB c z && chkE T a c y)))
    | _ => false
  | .call f es, c, t => match t with
    | .Call (.Name x _) (y :: ys) [] _ => glB c x && (okN x && ((match T.defs[f]? with
        | some d => decide (d.name = x)
        | none => false) && chkEs T es c (y :: ys)))
    | _ => false
  | .lcnt a b, c, t => match t with
    | .Call (.Attribute (.Name x p) m apos) [y] [] cpos => decide (m = ("count" : Str)) && ((apos.endLine == cpos.line) && (chkE T a c (.Name x p) && chkE T b c y))
    | _ => false
  | .lidx a b, c, t => match t with
    | .Call (.Attribute (.Name x p) m apos) [y] [] cpos => decide (m = ("index" : Str)) && ((apos.endLine == cpos.line) && (chkE T a c (.Name x p) && chkE T b c y))
    | _ => false
  | .dget a b d, c, t => match t with
    | .Call (.Attribute (.Name x p) m apos) [y, z] [] cpos => decide (m = ("get" : Str)) && ((apos.endLine == cpos.line) && (chkE T a c (.Name x p) && (chkE T b c y && chkE T d c z)))
    | _ => false
  | .dix a b, c, t => match t with
    | .Subscript x y _ => chkE T a c x && chkE T b c y
    | _ => false
  | .din n a b, c, t => match t with
    | .Compare l [p] [r] _ => copB (if n = true then .nin else .inn) p && (chkE T a c l && chkE T b c r)
    | _ => false
  | .dkeys a, c, t => match t with
    | .Call (.Name x _) [y] [] _ => decide (x = ("list" : Str)) && (glB c x && chkE T a c y)
    | _ => false
def chkEs (T : Tab) : Es → Ctx → List Expr → Bool
  | .nil, _, ts => ts.isEmpty
  | .cons e es, c, ts => match ts with
    | t :: r => chkE T e c t && chkEs T es c r
    | [] => false
def chkIt (T : Tab) : It → Ctx → Expr → Expr → Bool
  | .rng1 a, c, _, t => match t with
    | .Call (.Name x _) [y] [] _ => decide (x = ("range" : Str)) && (glB c x && chkE T a c y)
    | _ => false
  | .rng2 a b, c, _, t => match t with
    | .Call (.Name x _) [y, z] [] _ => decide (x = ("range" : Str)) && (glB c x && (chkE T a c y && chkE T b c z))
    | _ => false
  | .rng3 a b d, c, _, t => match t with
    | .Call (.Name x _) [y, z, u] [] _ => decide (x = ("range" : Str)) && (glB c x && (chkE T a c y && (chkE T b c z && chkE T d c u)))
    | _ => false
  | .seq a, c, _, t => chkE T a c t
  | .zip a b, c, tg, t => match t with
    | .Call (.Name x _) [y, z] [] _ => decide (x = ("zip" : Str)) && (isTupE tg && (glB c x && (chkE T a c y && chkE T b c z)))
    | _ => false
end
mutual
theorem sameD_eq : ∀ {a b : D}, sameD a b = true → a = b
  | .none, b, h => by cases b <;> first | rfl | cases h
  | .bool x, b, h => by
    cases b <;> first | (cases h; done) | skip
    rw [eq_of_beq (show (x == _) = true from h)]
  | .int x, b, h => by
    cases b <;> first | (cases h; done) | skip
    rw [of_decide_eq_true (show decide (x = _) = true from h)]
  | .str x, b, h => by
    cases b <;> first | (cases h; done) | skip
    rw [of_decide_eq_true (show decide (x = _) = true from h)]
  | .tuple xs, b, h => by
    cases b <;> first | (cases h; done) | skip
    rw [sameDs_eq (show sameDs xs _ = true from h)]
  | .list _, b, h => by cases b <;> cases h
  | .dict _, b, h => by cases b <;> cases h
theorem sameDs_eq : ∀ {a b : List D}, sameDs a b = true → a = b
  | [], b, h => by cases b <;> first | rfl | cases h
  | x :: xs, b, h => by
    cases b with
    | nil => cases h
    | cons y ys =>
      have h' : (sameD x y && sameDs xs ys) = true := h
      rw [Bool.and_eq_true] at h'
      rw [sameD_eq h'.1, sameDs_eq h'.2]
end
theorem bopB_eq {o : Bop} {p : Operator} (h : bopB o p = true) : p = o.py := by
  cases p <;> first | (cases h; done) | skip
  all_goals (have h' := of_decide_eq_true h; subst h'; rfl)
theorem copB_eq {o : Cop} {p : CmpOp} (h : copB o p = true) : p = o.py := by
  cases p
  all_goals (have h' := of_decide_eq_true h; subst h'; rfl)
/-- what no text of ours is -/
def plainE : Expr → Bool
  | .Starred _ _ => false
  | .Set _ _ _ => false
  | .Slice _ _ _ _ => false
  | .SetComp _ _ _ _ => false
  | .GeneratorExp _ _ _ _ => false
  | .NamedExpr _ _ _ => false
  | .Lambda _ _ _ _ => false
  | _ => true
theorem chk_plain {T : Tab} {e : E} {c : Ctx} {t : Expr} (h : chkE T e c t = true) : plainE t = true := by
  cases t <;> first | rfl | (cases e <;> cases h)
theorem star_of {t : Expr} (h : plainE t = true) (es : List Expr) (env : PySem.Env) : starEach (t :: es) env = (false, eval t env) :: starEach es env := by
  cases t <;> first | rfl | cases h
theorem mark_of {t : Expr} (h : plainE t = true) (op : CmpOp) : behindInMarks op t = false := by
  cases t <;> first | rfl | cases h
theorem fold_of {t : Expr} (h : plainE t = true) (env : PySem.Env) (x : Value) : foldedSetIterable t env x = pure x := by
  cases t <;> first | rfl | cases h
theorem sub_of {t : Expr} (h : plainE t = true) : PlainIx t := by
  intro o i
  cases t <;> first | rfl | cases h
theorem star_any {T : Tab} {c : Ctx} (env : PySem.Env) (pos : Pos) : ∀ {es : Es} {ts : List Expr}, chkEs T es c ts = true → (backTo pos (starEach ts env)).any (·.1) = false
  | .nil, ts, h => by
    cases ts with
    | nil => rfl
    | cons _ _ => cases h
  | .cons e es, ts, h => by
    cases ts with
    | nil => cases h
    | cons t r =>
      have h' : (chkE T e c t && chkEs T es c r) = true := h
      rw [Bool.and_eq_true] at h'
      rw [star_of (chk_plain h'.1)]
      have := star_any env pos h'.2
      show (false || (backTo pos (starEach r env)).any (·.1)) = false
      rw [this] <;> rfl
end PC
end
section
/-! PcSndE: what a text of the small language computes is what the Python expression does. -/
namespace PC
open PySem PySem.Spec PyProof.Rows L2

def Post (K : PySem.W.Frag) (F : Hp) (α : List Addr) (S : Store) (r : R) (Q : VK) : Prop := ∀ v H' F' α', Ext F α F' α' → SW K H' S F' α' → RepR K F' α' v r → Q v H'
def tE (K : PySem.W.Frag) (C : Call) (e : E) : TE := fun σ H Q => ∃ ρ S F α r S', EnvOk K F α σ ρ ∧ SW K H S F α ∧ evE C e ρ S = some (r, S') ∧ Post K F α S' r Q
def tT (K : PySem.W.Frag) (C : Call) (e : E) : TT := fun σ H Q => ∃ ρ S F α b S', EnvOk K F α σ ρ ∧ SW K H S F α ∧ evE C e ρ S = some (.d (.bool b), S') ∧ ∀ H' F' α', Ext F α F' α' → SW K H' S' F' α' → Q b H'
def tEs (K : PySem.W.Frag) (C : Call) (es : Es) : TA := fun σ H Q => ∃ ρ S F α rs S', EnvOk K F α σ ρ ∧ SW K H S F α ∧ evEs C es ρ S = some (rs, S') ∧ ∀ vs H' F' α', Ext F α F' α' → SW K H' S' F' α' → RepRs K F' α' vs rs → Q vs H'
/-- a new list, not yet frozen -/
def PostN (K : PySem.W.Frag) (F : Hp) (α : List Addr) (S : Store) (ds : List D) (Q : VK) : Prop := ∀ p H' F' α' vs, Ext F α F' α' → SW K H' S F' α' → F' p = none → p ∉ α' → H' p = some (.lst vs) → Reps K F' vs ds → Q (.ref p) H'
def tN (K : PySem.W.Frag) (C : Call) (e : E) : TE := fun σ H Q => ∃ ρ S F α ds S', EnvOk K F α σ ρ ∧ SW K H S F α ∧ evE C e ρ S = some (.d (.list ds), S') ∧ PostN K F α S' ds Q
/-- an iterator of the layer goes as our items do -/
structure ItOk (K : PySem.W.Frag) (F : Hp) (α : List Addr) (J : Items) (Jt : L2.It) : Prop where
  go : ∀ i H S F' α' x, Ext F α F' α' → SW K H S F' α' → i < J.n → J.get i S = some x → Jt.go i H ∧ ∀ v H', Jt.yld i H v H' → ∃ F'', Ext F' α' F'' α' ∧ SW K H' S F'' α' ∧ Rep K F'' v x
  fin : ∀ H S F' α', Ext F α F' α' → SW K H S F' α' → J.fin S = true → Jt.stop J.n H
def tIt (K : PySem.W.Frag) (C : Call) (it : It) : TI := fun σ H R => ∃ ρ S F α J S', EnvOk K F α σ ρ ∧ SW K H S F α ∧ evIt C it ρ S = some (J, S') ∧ ∀ H' F' α' Jt, Ext F α F' α' → SW K H' S' F' α' → ItOk K F' α' J Jt → R Jt H'
/-- slots outside are as they were -/
def Off (vs : List Nat) (σ σ' : L2.St) : Prop := L2.wipe σ' vs = L2.wipe σ vs
def tG (K : PySem.W.Frag) (g : G) : TG := fun v σ H Q => ∃ F α S ρ r ρ', EnvOk K F α σ ρ ∧ SW K H S F α ∧ RepR K F α v r ∧ asgG g r ρ = some ρ' ∧ ∀ σ', EnvOk K F α σ' ρ' → (∀ vs, (∀ i ∈ G.slots g, i ∈ vs) → Off vs σ σ') → Q σ' H
def tGs (K : PySem.W.Frag) (g : Gs) : TGs := fun us σ H Q => ∃ F α S ρ rs ρ', EnvOk K F α σ ρ ∧ SW K H S F α ∧ Reps K F us rs ∧ asgGs g rs ρ = some ρ' ∧ ∀ σ', EnvOk K F α σ' ρ' → (∀ vs, (∀ i ∈ Gs.slots g, i ∈ vs) → Off vs σ σ') → Q σ' H

/-! ### functions -/
def spF (K : PySem.W.Frag) (T : Tab) (W k f : Nat) : Sp := fun vs H Q _ => ∃ rs S F α r S', RepRs K F α vs rs ∧ SW K H S F α ∧ callD T.defs W k f rs S = some (r, S') ∧ ∀ v H' F', Ex F F' → SW K H' S' F' α → RepR K F' α v r → Q v H'
/-- .. a new list comes -/
def spN (K : PySem.W.Frag) (T : Tab) (W k f : Nat) : Sp := fun vs H Q _ => ∃ rs S F α ds S', RepRs K F α vs rs ∧ SW K H S F α ∧ callD T.defs W k f rs S = some (.d (.list ds), S') ∧ ∀ p H' F' ws, Ex F F' → SW K H' S' F' α → F' p = none → p ∉ α → H' p = some (.lst ws) → Reps K F' ws ds → Q (.ref p) H'
def bnames : List Str := ["len", "int", "abs", "tuple", "list", "sum", "any", "all", "max", "min", "isinstance", "range", "zip", "bool", "str", "sorted"]
structure XOk (T : Tab) (W k : Nat) (c : Ctx) (X : Cx) : Prop where
  sc : X.env.scope = c.sc
  N : X.N = c.N
  nd : c.N.Nodup
  fn : X.fn = c.fn
  calm : X.calm = true
  room : Room k X.A
  blt : ∀ x ∈ bnames, X.mg x = none
  glob : ∀ x v, (x, v) ∈ T.globs → ∃ u w, X.mg x = some u ∧ RelV w u ∧ ∀ F α, RepR X.K F α w (globR v)
  funs : ∀ f d, T.defs[f]? = some d → ∃ fa fd ps, FnOk X.prog X.w X.K X.mg X.base CX0 k fa fd ps (spF X.K T W k f) ∧ X.mg d.name = some (.ref fa) ∧ PySem.W.keepIn X.K (.ref fa) = true ∧ Binds X.K fd ps []
  news : ∀ f d, T.defs[f]? = some d → d.fin.isSome = true → ∃ fa fd ps, FnOk X.prog X.w X.K X.mg X.base CX0 k fa fd ps (spN X.K T W k f) ∧ X.mg d.name = some (.ref fa) ∧ PySem.W.keepIn X.K (.ref fa) = true ∧ Binds X.K fd ps []
section
variable {T : Tab} {W k : Nat} {c : Ctx} {X : Cx}
theorem XOk.hu (ok : XOk T W k c X) : X.A.units + 65 < cLine := by have := ok.room.un; omega
theorem XOk.vis (ok : XOk T W k c X) {x : Str} (h : visB c x = true) : Vis X.env.scope x := by
  unfold visB at h
  unfold Vis
  rw [ok.sc]
  split at h
  · rename_i e; exact .inl e
  · rename_i e; exact .inr (.inl e)
  · rename_i e; exact .inr (.inr e)
  · cases h
theorem XOk.loc (ok : XOk T W k c X) {x : Str} (h : locB c x = true) : L2.Loc X.env.scope x ∧ (X.fn x = true ∨ X.env.scope.names.lookup x = some .local) := by
  unfold locB at h
  unfold L2.Loc
  rw [ok.sc, ok.fn]
  split at h
  · rename_i e; exact ⟨.inl e, .inr e⟩
  · rename_i e; exact ⟨.inr e, .inl h⟩
  · cases h
theorem XOk.gl (ok : XOk T W k c X) {x : Str} (h : glB c x = true) : Gl X x := by
  unfold glB at h
  show X.env.scope.names.lookup x = _
  rw [ok.sc]
  split at h
  · rename_i e; exact e
  · cases h
theorem okN_of {x : Str} (h : okN x = true) : (x == ("__debug__" : Str)) = false ∧ (x == ("__classdict__" : Str)) = false := by
  unfold okN at h
  rw [Bool.and_eq_true] at h
  exact ⟨by simpa using h.1, by simpa using h.2⟩
theorem own_ix {N : List Str} : ∀ {vs : List Nat} {p : Str × Nat}, p ∈ ownOf N vs → N[p.2]? = some p.1 := by
  intro vs p hp
  unfold ownOf at hp
  rw [List.mem_filterMap] at hp
  obtain ⟨i, _, e⟩ := hp
  cases h : N[i]? with
  | none => rw [h] at e; cases e
  | some x => rw [h] at e; cases e; exact h
theorem XOk.blk (ok : XOk T W k c X) (s : Shared) (H : Hp) (scope : Scope) (C : Addr) (cl : List (Str × Addr)) (fp : List Addr) : XOk T W k (blkCtx c scope) (X.blk s H scope (compEnvC scope cl C X.env) fp) :=
  ⟨by
    show (compEnvC scope cl C X.env).scope = _
    unfold blkCtx
    rw [← ok.sc]
    rfl, ok.N, ok.nd, rfl, ok.calm, ok.room, ok.blt, ok.glob, ok.funs, ok.news⟩
/-! ### weakening -/
theorem PE.imp {e : Expr} {t t' : TE} (h : PE X e t) (w : ∀ σ H Q, t' σ H Q → t σ H Q) : PE X e t' := ⟨fun pins s σ H Q I q => h.run pins s σ H Q I (w σ H Q q)⟩
theorem PT.imp {e : Expr} {t t' : TT} (h : PT X e t) (w : ∀ σ H Q, t' σ H Q → t σ H Q) : PT X e t' := ⟨fun pins s σ H Q I q => h.run pins s σ H Q I (w σ H Q q)⟩
theorem PW.imp {e : Expr} {t t' : TT} (h : PW X e t) (w : ∀ σ H Q, t' σ H Q → t σ H Q) : PW X e t' := ⟨fun wh pins s σ H Q I q => h.run wh pins s σ H Q I (w σ H Q q)⟩
theorem PA.imp {e : List Expr} {t t' : TA} (h : PA X e t) (w : ∀ σ H Q, t' σ H Q → t σ H Q) : PA X e t' := ⟨fun pos pins s σ H Q I q => h.run pos pins s σ H Q I (w σ H Q q)⟩
theorem PI.imp {tg e : Expr} {t t' : TI} (h : PI X tg e t) (w : ∀ σ H Q, t' σ H Q → t σ H Q) : PI X tg e t' := ⟨fun pins s σ H Q I q => h.run pins s σ H Q I (w σ H Q q)⟩
theorem PI.or {tg e : Expr} {t t' u : TI} (h : PI X tg e t) (h' : PI X tg e t') (w : ∀ σ H Q, u σ H Q → t σ H Q ∨ t' σ H Q) : PI X tg e u := ⟨fun pins s σ H Q I q => (w σ H Q q).elim (h.run pins s σ H Q I) (h'.run pins s σ H Q I)⟩
theorem PG.imp {tg : Expr} {t t' : TG} (h : PG X tg t) (w : ∀ v σ H Q, t' v σ H Q → t v σ H Q) : PG X tg t' := ⟨fun pins s σ H v u Q I r q => h.run pins s σ H v u Q I r (w v σ H Q q)⟩
theorem PG.or {tg : Expr} {t t' u : TG} (h : PG X tg t) (h' : PG X tg t') (w : ∀ v σ H Q, u v σ H Q → t v σ H Q ∨ t' v σ H Q) : PG X tg u := ⟨fun pins s σ H v u Q I r q => (w v σ H Q q).elim (h.run pins s σ H v u Q I r) (h'.run pins s σ H v u Q I r)⟩
theorem PGs.imp {tg : List Expr} {t t' : TGs} (h : PGs X tg t) (w : ∀ v σ H Q, t' v σ H Q → t v σ H Q) : PGs X tg t' := ⟨fun pins s σ H v u Q I r q => h.run pins s σ H v u Q I r (w v σ H Q q)⟩
end

/-! ### targets -/
theorem wipe_get {σ : L2.St} {i : Nat} : ∀ {vs : List Nat}, (L2.wipe σ vs)[i]? = if i ∈ vs ∧ i < σ.length then some none else σ[i]?
  | [] => by simp [L2.wipe]
  | v :: vs => by
    show ((L2.wipe σ vs).set v none)[i]? = _
    by_cases hv : v = i
    · subst hv
      by_cases hl : v < σ.length
      · rw [List.getElem?_set_self (by rw [L2.wipe_length]; exact hl), if_pos ⟨List.mem_cons_self, hl⟩]
      · rw [List.getElem?_eq_none (by rw [List.length_set, L2.wipe_length]; omega), if_neg (fun z => hl z.2), List.getElem?_eq_none (by omega)]
    · rw [List.getElem?_set_ne hv, wipe_get (vs := vs)]
      by_cases h : i ∈ vs ∧ i < σ.length
      · rw [if_pos h, if_pos ⟨List.mem_cons_of_mem _ h.1, h.2⟩]
      · rw [if_neg h, if_neg]
        rintro ⟨h1, h2⟩
        rcases List.mem_cons.mp h1 with e | h1
        · exact hv e.symm
        · exact h ⟨h1, h2⟩
theorem off_set {σ : L2.St} {v : Option V} {i : Nat} {vs : List Nat} (h : i ∈ vs) : Off vs σ (σ.set i v) := by
  unfold Off
  apply List.ext_getElem?
  intro j
  rw [wipe_get, wipe_get, List.length_set]
  by_cases hj : j ∈ vs ∧ j < σ.length
  · rw [if_pos hj, if_pos hj]
  · rw [if_neg hj, if_neg hj]
    by_cases e : i = j
    · subst e
      have hl : ¬ i < σ.length := fun z => hj ⟨h, z⟩
      rw [List.getElem?_eq_none (by rw [List.length_set]; omega), List.getElem?_eq_none (by omega)]
    · rw [List.getElem?_set_ne e]
theorem off_wipe {σ : L2.St} {vs : List Nat} : Off vs σ (L2.wipe σ vs) := by
  unfold Off
  apply List.ext_getElem?
  intro j
  rw [wipe_get, L2.wipe_length, wipe_get]
  by_cases hj : j ∈ vs ∧ j < σ.length
  · rw [if_pos hj, if_pos hj]
  · rw [if_neg hj]
theorem Off.trans {vs : List Nat} {a b c : L2.St} (h : Off vs a b) (h' : Off vs b c) : Off vs a c := Eq.trans h' h
theorem assign_len {c : Ctx} {env : PySem.Env} : ∀ {gs : Gs} {ts : List Expr}, chkGs gs c ts = true → (assignEach ts env).length = ts.length ∧ (assignEach ts env).findIdx? (·.1) = none
  | .nil, ts, h => by
    cases ts with
    | nil => exact ⟨rfl, rfl⟩
    | cons _ _ => cases h
  | .cons g gs, ts, h => by
    cases ts with
    | nil => cases h
    | cons t r =>
      have h' : (chkG g c t && chkGs gs c r) = true := h
      rw [Bool.and_eq_true] at h'
      obtain ⟨h1, h2⟩ := assign_len (env := env) h'.2
      have e : assignEach (t :: r) env = (false, assign t env) :: assignEach r env := by
        cases t <;> first | rfl | (cases g <;> cases h'.1)
      rw [e]
      refine ⟨by simp [h1], ?_⟩
      rw [List.findIdx?_cons]
      simp only [Bool.false_eq_true, if_false, h2, Option.map_none]
mutual
theorem sndG {T : Tab} {W k : Nat} : ∀ (g : G) (c : Ctx) (t : Expr), chkG g c t = true → ∀ (X : Cx), XOk T W k c X → PG X t (tG X.K g)
  | .name i, c, t, h, X, ok => by
    cases t <;> first | (cases h; done) | skip
    rename_i x pos
    have h' : (decide (c.N[i]? = some x) && locB c x) = true := h
    rw [Bool.and_eq_true] at h'
    obtain ⟨hl, hf⟩ := ok.loc h'.2
    refine PG.imp (pg_name (i := i) (by rw [ok.N]; exact ok.nd) (by rw [ok.N]; exact of_decide_eq_true h'.1) hl hf) fun v σ H Q ⟨F, α, S, ρ, r, ρ', he, w, rr, e, q⟩ => ?_
    cases (Option.some.inj e : ρ.set i (some r) = ρ')
    exact q _ (he.set rr i) fun vs hv => off_set (hv i (List.mem_singleton.mpr rfl))
  | .tup gs, c, t, h, X, ok => by
    cases t <;> first | (cases h; done) | skip
    rename_i ts n pos
    have h' : chkGs gs c ts = true := h
    obtain ⟨h1, h2⟩ := assign_len (env := X.env) h'
    refine PG.or (pg_tup ok.calm (sndGs gs c ts h' X ok) rfl h2) (pg_unl ok.calm (sndGs gs c ts h' X ok) rfl h2) fun v σ H Q ⟨F, α, S, ρ, r, ρ', he, w, rr, e, q⟩ => ?_
    cases r with
    | loc n => cases e
    | scr ns => cases e
    | dic _ _ => cases e
    | kt xs =>
      obtain ⟨a, us, ev, ha, rs⟩ := rr
      subst ev
      refine .inl ⟨_, _, rfl, Evl.ex_t w.sub ha, ?_, F, α, S, ρ, xs, ρ', he, w, rs, e, q⟩
      rw [h1, rs.length]
      exact (gs_len gs c ts h' xs ρ ρ' e).symm
    | d x =>
      cases x <;> first | (cases e; done) | skip
      · rename_i xs
        cases rr with
        | lst a rs =>
          refine .inr ⟨_, _, rfl, SqL.of (w.sub _ _ a), ?_, F, α, S, ρ, xs, ρ', he, w, rs, e, q⟩
          rw [h1, rs.length]
          exact (gs_len gs c ts h' xs ρ ρ' e).symm
      · rename_i xs
        cases rr with
        | tup a rs =>
          refine .inl ⟨_, _, rfl, SqT.of (w.sub _ _ a), ?_, F, α, S, ρ, xs, ρ', he, w, rs, e, q⟩
          rw [h1, rs.length]
          exact (gs_len gs c ts h' xs ρ ρ' e).symm
theorem sndGs {T : Tab} {W k : Nat} : ∀ (g : Gs) (c : Ctx) (t : List Expr), chkGs g c t = true → ∀ (X : Cx), XOk T W k c X → PGs X t (tGs X.K g)
  | .nil, c, ts, h, X, ok => by
    cases ts with
    | cons _ _ => cases h
    | nil =>
      refine PGs.imp pgs_nil fun vs σ H Q ⟨F, α, S, ρ, rs, ρ', he, w, rr, e, q⟩ => ?_
      cases rs with
      | cons _ _ => cases e
      | nil =>
        cases rr
        cases e
        exact ⟨rfl, q _ he fun vs _ => rfl⟩
  | .cons g gs, c, ts, h, X, ok => by
    cases ts with
    | nil => cases h
    | cons t r =>
      have h' : (chkG g c t && chkGs gs c r) = true := h
      rw [Bool.and_eq_true] at h'
      have e1 : (assignEach (t :: r) X.env).map (·.2) = assign t X.env :: (assignEach r X.env).map (·.2) := by
        cases t <;> first | rfl | (cases g <;> cases h'.1)
      refine PGs.imp (pgs_cons (sndG g c t h'.1 X ok) (sndGs gs c r h'.2 X ok) e1) fun vs σ H Q ⟨F, α, S, ρ, rs, ρ', he, w, rr, e, q⟩ => ?_
      cases rs with
      | nil => cases e
      | cons x xs =>
        cases rr with
        | cons a b =>
          have e2 : (match asgG g (.d x) ρ with | some ρ' => asgGs gs xs ρ' | none => none) = some ρ' := e
          cases h3 : asgG g (.d x) ρ with
          | none => rw [h3] at e2; cases e2
          | some ρ1 =>
            rw [h3] at e2
            refine ⟨_, _, rfl, F, α, S, ρ, .d x, ρ1, he, w, a, h3, fun σ1 he1 o1 => ⟨F, α, S, ρ1, xs, ρ', he1, w, b, e2, fun σ2 he2 o2 => q σ2 he2 fun vs hv => ?_⟩⟩
            exact (o1 vs fun i hi => hv i (List.mem_append_left _ hi)).trans (o2 vs fun i hi => hv i (List.mem_append_right _ hi))
theorem gs_len : ∀ (g : Gs) (c : Ctx) (t : List Expr), chkGs g c t = true → ∀ xs ρ ρ', asgGs g xs ρ = some ρ' → t.length = xs.length
  | .nil, c, ts, h, xs, ρ, ρ', e => by
    cases ts with
    | cons _ _ => cases h
    | nil =>
      cases xs with
      | nil => rfl
      | cons _ _ => cases e
  | .cons g gs, c, ts, h, xs, ρ, ρ', e => by
    cases ts with
    | nil => cases h
    | cons t r =>
      cases xs with
      | nil => cases e
      | cons x xs =>
        have h' : (chkG g c t && chkGs gs c r) = true := h
        rw [Bool.and_eq_true] at h'
        have e2 : (match asgG g (.d x) ρ with | some ρ' => asgGs gs xs ρ' | none => none) = some ρ' := e
        cases h3 : asgG g (.d x) ρ with
        | none => rw [h3] at e2; cases e2
        | some ρ1 =>
          rw [h3] at e2
          exact congrArg Nat.succ (gs_len gs c r h'.2 xs ρ1 ρ' e2)
end
end PC
end
section
/-! PcSndE2: the expressions. -/
namespace PC
open PySem PySem.Spec PyProof.Rows L2
section
variable {K : PySem.W.Frag} {F F' H H' : Hp} {α α' : List Addr} {S S' : Store} {Q : VK} {C : Call} {σ : L2.St} {ρ : Env}
theorem SW.freeze (w : SW K H S F α) {p : Addr} {o : HO} (hF : F p = none) (ha : p ∉ α) (hp : H p = some o) : SW K H S (upd F p o) α ∧ Ext F α (upd F p o) α := by
  have xF : Ex F (upd F p o) := Evl.Ex.new hF
  refine ⟨⟨fun a u h => ?_, w.len, w.nd, fun a hm => ?_, fun n a c h1 h2 => cellOk_mono xF rfl (w.cell n a c h1 h2)⟩, xF, List.prefix_refl _⟩
  · by_cases e : a = p
    · subst e; rw [upd_same] at h; rw [← h]; exact hp
    · rw [upd_ne e] at h; exact w.sub a u h
  · rw [upd_ne (fun e => ha (by rw [← e]; exact hm))]; exact w.out a hm
theorem SW.more (w : SW K H S F α) {p : Addr} {o : HO} (hp : H p = none) : SW K (upd H p o) S F α := by
  have hn := fresh_notin w hp
  refine ⟨fun a u h => ?_, w.len, w.nd, w.out, fun n a c h1 h2 => ?_⟩
  · rw [upd_ne (ne_of_none (w.sub a u h) hp)]; exact w.sub a u h
  · exact cellOk_mono (Evl.Ex.refl F) (upd_ne (fun e => hn (by rw [← e]; exact List.mem_of_getElem? h1))) (w.cell n a c h1 h2)
theorem SW.drop (w : SW K H S F α) (n : Nat) : SW K H (S.take n) F (α.take n) := by
  refine ⟨w.sub, by rw [List.length_take, List.length_take, w.len], w.nd.sublist (List.take_sublist _ _), fun a h => w.out a (List.mem_of_mem_take h), fun m a c h1 h2 => ?_⟩
  have hm : m < n := by
    have := (List.getElem?_eq_some_iff.mp h1).1
    rw [List.length_take] at this
    omega
  rw [List.getElem?_take_of_lt hm] at h1 h2
  exact w.cell m a c h1 h2
theorem Post.n {ds : List D} (q : Post K F α S (.d (.list ds)) Q) : PostN K F α S ds Q := fun p H' F' α' vs x w hF ha hp rs => by
  obtain ⟨w', x'⟩ := w.freeze hF ha hp
  exact q _ _ _ _ (x.trans x') w' (.lst upd_same (Reps.mono x'.ex _ rs))
theorem PostN.fin {ds : List D} (q : PostN K F α S ds Q) (x : Ext F α F' α') (w : SW K H' S F' α') : FinN K F' H' ds Q := fun p vs hp rs =>
  q p _ F' α' vs x (w.more hp) (Evl.fresh_back w.sub hp) (fresh_notin w hp) upd_same rs
theorem Post.fin {d : D} (q : Post K F α S (.d d) Q) (x : Ext F α F' α') : Fin1 K F' α' S d Q := fun v H2 F2 α2 x2 w2 r => q v H2 F2 α2 (x.trans x2) w2 r
/-- a list-valued text may be read as a new list -/
theorem tE.n {e : E} (hl : ∀ r S', evE C e ρ S = some (r, S') → ∃ ds, r = .d (.list ds)) (he : EnvOk K F α σ ρ) (w : SW K H S F α) {r : R} {S' : Store} (ev : evE C e ρ S = some (r, S')) (q : Post K F α S' r Q) : tN K C e σ H Q := by
  obtain ⟨ds, rfl⟩ := hl r S' ev
  exact ⟨ρ, S, F, α, ds, S', he, w, ev, q.n⟩
theorem rep_bool {v : V} {b : Bool} (h : RepR K F α v (.d (.bool b))) : v = .bl b := by
  cases (show Rep K F v _ from h); rfl
theorem rep_int {v : V} {b : Int} (h : RepR K F α v (.d (.int b))) : v = .int b := by
  cases (show Rep K F v _ from h); rfl
end
/-! ### built-in names -/
def B1.val (f : B1) : Value := match f with
  | .len => .builtin "len"
  | .int => .type "int"
  | .abs => .builtin "abs"
  | .tuple => .type "tuple"
  | .list => .type "list"
  | .sum => .builtin "sum"
  | .any => .builtin "any"
  | .all => .builtin "all"
  | .sorted => .builtin "sorted"
  | .smin => .builtin "min"
  | .smax => .builtin "max"
def B2.val (f : B2) : Value := match f with
  | .max => .builtin "max"
  | .min => .builtin "min"
theorem boot_b1 (f : B1) : bootBuiltins f.nm = some f.val := by cases f <;> (simp only [B1.nm, B1.val]; decide +kernel)
theorem boot_b2 (f : B2) : bootBuiltins f.nm = some f.val := by cases f <;> (simp only [B2.nm, B2.val]; decide +kernel)
theorem boot_ty : ∀ t : Ty, bootBuiltins t.nm = some (.type t.py) := by
  intro f
  cases f <;> (simp only [Ty.nm, Ty.py]; decide +kernel)
theorem b1_in (f : B1) : f.nm ∈ bnames := by cases f <;> (simp only [B1.nm]; decide +kernel)
theorem b2_in (f : B2) : f.nm ∈ bnames := by cases f <;> (simp only [B2.nm]; decide +kernel)
theorem ty_in (f : Ty) : f.nm ∈ bnames := by cases f <;> (simp only [Ty.nm]; decide +kernel)
theorem b1_ne (f : B1) : f.nm ≠ "__name__" ∧ (f.nm == ("__debug__" : Str)) = false := by cases f <;> (simp only [B1.nm]; decide +kernel)
theorem b2_ne (f : B2) : f.nm ≠ "__name__" ∧ (f.nm == ("__debug__" : Str)) = false := by cases f <;> (simp only [B2.nm]; decide +kernel)
theorem ty_ne (f : Ty) : f.nm ≠ "__name__" ∧ (f.nm == ("__debug__" : Str)) = false := by cases f <;> (simp only [Ty.nm]; decide +kernel)

/-! ### iterators -/
section
variable {K : PySem.W.Frag} {F : Hp} {α : List Addr}
theorem it_rng (lo : Int) (n : Nat) : ItOk K F α (.rng lo 1 n) (Itr lo n) :=
  ⟨fun i H S F' α' x xt w hi e => ⟨hi, fun v H' ⟨e1, e2⟩ => by
    subst e1 e2
    cases (Option.some.inj e : PyData.int _ = x)
    rw [Int.mul_one]
    exact ⟨F', Ext.refl, w, .int _⟩⟩, fun H S F' α' xt w e => Nat.le_refl _⟩
theorem it_rngC (lo c : Int) (n : Nat) : ItOk K F α (.rng lo c n) (Itc lo c n) :=
  ⟨fun i H S F' α' x xt w hi e => ⟨hi, fun v H' ⟨e1, e2⟩ => by
    subst e1 e2
    cases (Option.some.inj e : PyData.int _ = x)
    exact ⟨F', Ext.refl, w, .int _⟩⟩, fun H S F' α' xt w e => Nat.le_refl _⟩
theorem it_list {r : R} {a : Addr} {n : Nat} (hr : RepR K F α (.ref a) r) (hl : ∀ S d, viewS r S = some d → ∃ ds, d = .list ds) : ItOk K F α (.seq r n) (Itl K a) := by
  have key : ∀ {H S F' α' d xs}, Ext F α F' α' → SW K H S F' α' → viewS r S = some d → seqOf d = some xs → ∃ vs, SqL K H a vs ∧ Reps K F' vs xs := fun {H S F' α' d xs} xt w h1 h2 => by
    obtain ⟨ds, rfl⟩ := hl S d h1
    cases (Option.some.inj h2 : ds = xs)
    obtain ⟨a', vs, e, h, rs⟩ := w.viewS (hr.mono xt) h1
    cases e
    exact ⟨vs, h, rs⟩
  refine ⟨fun i H S F' α' x xt w hi e => ?_, fun H S F' α' xt w e => ?_⟩
  · simp only [Items.get] at e
    cases h1 : viewS r S with
    | none => rw [h1] at e; cases e
    | some d =>
      rw [h1] at e
      simp only at e
      cases h2 : seqOf d with
      | none => rw [h2] at e; cases e
      | some xs =>
        rw [h2] at e
        obtain ⟨vs, hs, rs⟩ := key xt w h1 h2
        obtain ⟨v, hv, rv⟩ := rs.get e
        refine ⟨⟨vs, v, hs, hv⟩, fun u H' ⟨e1, e2⟩ => ?_⟩
        subst e1
        have := e2 vs hs
        rw [hv] at this
        cases this
        exact ⟨F', Ext.refl, w, rv⟩
  · simp only [Items.fin] at e
    cases h1 : viewS r S with
    | none => rw [h1] at e; cases e
    | some d =>
      rw [h1] at e
      simp only at e
      cases h2 : seqOf d with
      | none => rw [h2] at e; cases e
      | some xs =>
        rw [h2] at e
        obtain ⟨vs, hs, rs⟩ := key xt w h1 h2
        exact ⟨vs, hs, by rw [rs.length]; exact Nat.le_of_ble_eq_true e⟩
theorem it_tup {r : R} {ds : List D} {a : Addr} {vs : List V} {n : Nat} (hv : ∀ S, viewS r S = some (.tuple ds)) (ha : SqT K F a vs) (ra : Reps K F vs ds) : ItOk K F α (.seq r n) (Itt K a) := by
  refine ⟨fun i H S F' α' x xt w hi e => ?_, fun H S F' α' xt w e => ?_⟩
  · have e' : ds[i]? = some x := by
      simp only [Items.get, hv, seqOf] at e
      exact e
    obtain ⟨v, hv, rv⟩ := ra.get e'
    have hs := Evl.ex_t (xt.ex.trans w.sub) ha
    refine ⟨⟨_, v, hs, hv⟩, fun u H' ⟨e1, e2⟩ => ?_⟩
    subst e1
    have := e2 _ hs
    rw [hv] at this
    cases this
    exact ⟨F', Ext.refl, w, rv.mono xt.ex⟩
  · have e' : Nat.ble ds.length n = true := by
      simp only [Items.fin, hv, seqOf] at e
      exact e
    exact ⟨_, Evl.ex_t (xt.ex.trans w.sub) ha, by rw [ra.length]; exact Nat.le_of_ble_eq_true e'⟩
theorem listOf_view {r : R} {v : V} {H : Hp} {S : Store} {xs : List D} (w : SW K H S F α) (hr : RepR K F α v r) (h : listOf r S = some xs) : ∃ a vs, v = .ref a ∧ H a = some (.lst vs) ∧ Reps K F vs xs := by
  unfold listOf at h
  split at h
  · rename_i ds h1
    cases h
    exact w.view hr h1
  · cases h
theorem it_zip {r q : R} {a b : Addr} {n : Nat} (hr : RepR K F α (.ref a) r) (hq : RepR K F α (.ref b) q) : ItOk K F α (.zip r q n) (Itz K a b) := by
  refine ⟨fun i H S F' α' x xt w hi e => ?_, fun H S F' α' xt w e => ?_⟩
  · simp only [Items.get] at e
    cases h1 : listOf r S with
    | none => rw [h1] at e; cases e
    | some xs =>
      cases h2 : listOf q S with
      | none => rw [h1, h2] at e; cases e
      | some ys =>
        rw [h1, h2] at e
        simp only at e
        cases h3 : xs[i]? with
        | none => rw [h3] at e; cases e
        | some x1 =>
          cases h4 : ys[i]? with
          | none => rw [h3, h4] at e; cases e
          | some y1 =>
            rw [h3, h4] at e
            cases e
            obtain ⟨a', vs, ea, hs, rs⟩ := listOf_view w (hr.mono xt) h1
            obtain ⟨b', us, eb, ht, rt⟩ := listOf_view w (hq.mono xt) h2
            cases ea
            cases eb
            obtain ⟨v, hv, rv⟩ := rs.get h3
            obtain ⟨u, hu, ru⟩ := rt.get h4
            refine ⟨⟨vs, us, v, u, SqL.of hs, SqL.of ht, hv, hu⟩, fun z H' ⟨p, x2, y2, e1, e2, e3, e4, e5⟩ => ?_⟩
            subst e1 e3
            have k1 := e4 vs (SqL.of hs)
            have k2 := e5 us (SqL.of ht)
            rw [hv] at k1
            rw [hu] at k2
            cases k1
            cases k2
            obtain ⟨w', x'⟩ := w.frozen (o := .tup [v, u]) e2
            exact ⟨_, x', w', .tup upd_same (.cons (rv.mono x'.ex) (.cons (ru.mono x'.ex) .nil))⟩
  · simp only [Items.fin] at e
    cases h1 : listOf r S with
    | none => rw [h1] at e; cases e
    | some xs =>
      cases h2 : listOf q S with
      | none => rw [h1, h2] at e; cases e
      | some ys =>
        rw [h1, h2] at e
        simp only at e
        obtain ⟨a', vs, ea, hs, rs⟩ := listOf_view w (hr.mono xt) h1
        obtain ⟨b', us, eb, ht, rt⟩ := listOf_view w (hq.mono xt) h2
        cases ea
        cases eb
        rw [Bool.or_eq_true] at e
        refine ⟨vs, us, SqL.of hs, SqL.of ht, ?_⟩
        rw [rs.length, rt.length]
        exact e.imp (fun z => Nat.le_of_ble_eq_true z) (fun z => Nat.le_of_ble_eq_true z)
end
end PC
end
section
/-! PcSndE3: the expressions' proof. -/
namespace PC
open PySem PySem.Spec PyProof.Rows L2

/-! ### the readings of the parts, from the reading of the whole -/
section
variable {K : PySem.W.Frag} {C : Call} {σ : L2.St} {H : Hp} {Q : VK}
theorem i_var {i : Nat} (h : tE K C (.var i) σ H Q) : tVar i σ H Q := by
  obtain ⟨ρ, S, F, α, r, S', he, w, e, q⟩ := h
  simp only [evE] at e
  split at e
  · rename_i r' hr
    cases e
    obtain ⟨v, hv, rv⟩ := he.at_ i r hr
    exact ⟨v, hv, q v H F α Ext.refl w rv⟩
  · cases e
theorem i_c {e : E} {d : D} {v : V} (hd : ∀ ρ S, evE C e ρ S = some (.d d, S)) (hr : ∀ F, Rep K F v d) (h : tE K C e σ H Q) : tC v σ H Q := by
  obtain ⟨ρ, S, F, α, r, S', he, w, e1, q⟩ := h
  rw [hd] at e1
  cases e1
  exact q v H F α Ext.refl w (hr F)
theorem i_cR {e : E} {d : R} {v : V} (hd : ∀ ρ S, evE C e ρ S = some (d, S)) (hr : ∀ F α, RepR K F α v d) (h : tE K C e σ H Q) : tC v σ H Q := by
  obtain ⟨ρ, S, F, α, r, S', he, w, e1, q⟩ := h
  rw [hd] at e1
  cases e1
  exact q v H F α Ext.refl w (hr F α)
/-- two parts, then a plain operation -/
theorem i_two {a b : E} {e : E} {f : D → D → Option D}
    (inv : ∀ ρ S r S', evE C e ρ S = some (r, S') → ∃ ra S1 rb dx dy dz, evE C a ρ S = some (ra, S1) ∧ evE C b ρ S1 = some (rb, S') ∧ viewD ra S' = some dx ∧ viewD rb S' = some dy ∧ f dx dy = some dz ∧ r = .d dz)
    (h : tE K C e σ H Q) : tOp (rB K f) (tE K C a) (tE K C b) σ H Q := by
  obtain ⟨ρ, S, F, α, r, S', he, w, ev, q⟩ := h
  obtain ⟨ra, S1, rb, dx, dy, dz, h1, h2, v1, v2, hf, rfl⟩ := inv _ _ _ _ ev
  exact ⟨ρ, S, F, α, ra, S1, he, w, h1, fun x H1 F1 α1 x1 w1 r1 => ⟨ρ, S1, F1, α1, rb, S', he.mono x1, w1, h2, fun y H2 F2 α2 x2 w2 r2 =>
    ⟨F2, α2, S', dx, dy, dz, w2, w2.view (r1.mono x2) v1, w2.view r2 v2, hf, q.fin (x1.trans x2)⟩⟩⟩
theorem inv_two {a b : E} {ρ : Env} {S : Store} {f : D → D → Option D} {g : D → R} {r : R} {S' : Store}
    (e : (match evE C a ρ S with
      | none => none
      | some (ra, s1) => match evE C b ρ s1 with
        | none => none
        | some (rb, s2) => match viewD ra s2, viewD rb s2 with
          | some x, some y => (match f x y with
            | some z => some (g z, s2)
            | none => none)
          | _, _ => none) = some (r, S')) :
    ∃ ra S1 rb dx dy dz, evE C a ρ S = some (ra, S1) ∧ evE C b ρ S1 = some (rb, S') ∧ viewD ra S' = some dx ∧ viewD rb S' = some dy ∧ f dx dy = some dz ∧ r = g dz := by
  split at e
  · cases e
  · rename_i ra s1 h1
    split at e
    · cases e
    · rename_i rb s2 h2
      split at e
      · rename_i x y h3 h4
        split at e
        · rename_i z h5
          cases e
          exact ⟨ra, s1, rb, x, y, z, h1, h2, h3, h4, h5, rfl⟩
        · cases e
      · cases e
theorem i_bin {o : Bop} {a b : E} (h : tE K C (.bin o a b) σ H Q) : tOp (rB K (binD o)) (tE K C a) (tE K C b) σ H Q := i_two (fun ρ S r S' e => inv_two (g := .d) (by simp only [evE] at e; exact e)) h
theorem i_binN {o : Bop} {a b : E} (h : tN K C (.bin o a b) σ H Q) : tOp (rBN K (binD o)) (tE K C a) (tE K C b) σ H Q := by
  obtain ⟨ρ, S, F, α, ds, S', he, w, ev, q⟩ := h
  simp only [evE] at ev
  obtain ⟨ra, S1, rb, dx, dy, dz, h1, h2, v1, v2, hf, e⟩ := inv_two (g := .d) ev
  cases e
  exact ⟨ρ, S, F, α, ra, S1, he, w, h1, fun x H1 F1 α1 x1 w1 r1 => ⟨ρ, S1, F1, α1, rb, S', he.mono x1, w1, h2, fun y H2 F2 α2 x2 w2 r2 =>
    ⟨F2, α2, S', dx, dy, ds, w2, w2.view (r1.mono x2) v1, w2.view r2 v2, hf, q.fin (x1.trans x2) w2⟩⟩⟩
theorem inv_twoS {a b : E} {ρ : Env} {S : Store} {f : D → D → Option D} {r : R} {S' : Store}
    (e : (match evE C a ρ S with
      | none => none
      | some (ra, s1) => match evE C b ρ s1 with
        | none => none
        | some (rb, s2) => match viewS ra s2, viewS rb s2 with
          | some x, some y => (match f x y with
            | some z => some (R.d z, s2)
            | none => none)
          | _, _ => none) = some (r, S')) :
    ∃ ra S1 rb dx dy dz, evE C a ρ S = some (ra, S1) ∧ evE C b ρ S1 = some (rb, S') ∧ viewS ra S' = some dx ∧ viewS rb S' = some dy ∧ f dx dy = some dz ∧ r = .d dz := by
  split at e
  · cases e
  · rename_i ra s1 h1
    split at e
    · cases e
    · rename_i rb s2 h2
      split at e
      · rename_i x y h3 h4
        split at e
        · rename_i z h5
          cases e
          exact ⟨ra, s1, rb, x, y, z, h1, h2, h3, h4, h5, rfl⟩
        · cases e
      · cases e
theorem i_ix {a b : E} (h : tE K C (.ix a b) σ H Q) : tOp (rBS K ixD) (tE K C a) (tE K C b) σ H Q := by
  obtain ⟨ρ, S, F, α, r, S', he, w, ev, q⟩ := h
  simp only [evE] at ev
  obtain ⟨ra, S1, rb, dx, dy, dz, h1, h2, v1, v2, hf, e⟩ := inv_twoS ev
  cases e
  exact ⟨ρ, S, F, α, ra, S1, he, w, h1, fun x H1 F1 α1 x1 w1 r1 => ⟨ρ, S1, F1, α1, rb, S', he.mono x1, w1, h2, fun y H2 F2 α2 x2 w2 r2 =>
    ⟨F2, α2, S', dx, dy, dz, w2, w2.viewS (r1.mono x2) v1, w2.viewS r2 v2, hf, q.fin (x1.trans x2)⟩⟩⟩
theorem inv_cmp {a b : E} {ρ : Env} {S : Store} {f : D → D → Option Bool} {r : R} {S' : Store}
    (e : (match evE C a ρ S with
      | none => none
      | some (ra, s1) => match evE C b ρ s1 with
        | none => none
        | some (rb, s2) => match viewS ra s2, viewS rb s2 with
          | some x, some y => (match f x y with
            | some z => some (R.d (.bool z), s2)
            | none => none)
          | _, _ => none) = some (r, S')) :
    ∃ ra S1 rb dx dy dz, evE C a ρ S = some (ra, S1) ∧ evE C b ρ S1 = some (rb, S') ∧ viewS ra S' = some dx ∧ viewS rb S' = some dy ∧ f dx dy = some dz ∧ r = .d (.bool dz) := by
  split at e
  · cases e
  · rename_i ra s1 h1
    split at e
    · cases e
    · rename_i rb s2 h2
      split at e
      · rename_i x y h3 h4
        split at e
        · rename_i z h5
          cases e
          exact ⟨ra, s1, rb, x, y, z, h1, h2, h3, h4, h5, rfl⟩
        · cases e
      · cases e
theorem i_cmp {o : Cop} {a b : E} (h : tE K C (.cmp o a b) σ H Q) : tOp (rC K (cmpD o)) (tE K C a) (tE K C b) σ H Q := by
  obtain ⟨ρ, S, F, α, r, S', he, w, ev, q⟩ := h
  simp only [evE] at ev
  obtain ⟨ra, S1, rb, dx, dy, dz, h1, h2, v1, v2, hf, e⟩ := inv_cmp ev
  cases e
  exact ⟨ρ, S, F, α, ra, S1, he, w, h1, fun x H1 F1 α1 x1 w1 r1 => ⟨ρ, S1, F1, α1, rb, S', he.mono x1, w1, h2, fun y H2 F2 α2 x2 w2 r2 =>
    ⟨F2, α2, S', dx, dy, dz, w2, w2.viewS (r1.mono x2) v1, w2.viewS r2 v2, hf, q _ _ _ _ (x1.trans x2) w2 (.bl dz)⟩⟩⟩
theorem i_cmpT {o : Cop} {a b : E} {Q : Bool → Hp → Prop} (h : tT K C (.cmp o a b) σ H Q) : tTest (tOp (rC K (cmpD o)) (tE K C a) (tE K C b)) σ H Q := by
  obtain ⟨ρ, S, F, α, b, S', he, w, ev, q⟩ := h
  exact i_cmp ⟨ρ, S, F, α, _, S', he, w, ev, fun v H' F' α' x w' r => ⟨b, rep_bool r, q H' F' α' x w'⟩⟩
theorem i_chain {o p : Cop} {a b c : E} (h : tE K C (.chain o p a b c) σ H Q) : tChain (rC K (cmpD o)) (rC K (cmpD p)) (tE K C a) (tE K C b) (tE K C c) σ H Q := by
  obtain ⟨ρ, S, F, α, r, S', he, w, ev, q⟩ := h
  simp only [evE] at ev
  split at ev
  · cases ev
  · rename_i ra s1 h1
    split at ev
    · cases ev
    · rename_i rb s2 h2
      split at ev
      · rename_i x y h3 h4
        split at ev
        · rename_i h5
          refine ⟨ρ, S, F, α, ra, _, he, w, h1, fun x H1 F1 α1 x1 w1 r1 => ⟨ρ, _, F1, α1, rb, _, he.mono x1, w1, h2, fun y H2 F2 α2 x2 w2 r2 =>
            ⟨F2, α2, _, _, _, true, w2, w2.viewS (r1.mono x2) h3, w2.viewS r2 h4, h5, true, rfl, ?_⟩⟩⟩
          refine iteT ?_
          split at ev
          · cases ev
          · rename_i rc s3 h6
            split at ev
            · rename_i y' z h7 h8
              split at ev
              · rename_i t h9
                cases ev
                refine ⟨ρ, _, F2, α2, rc, _, he.mono (x1.trans x2), w2, h6, fun z H3 F3 α3 x3 w3 r3 => ⟨F3, α3, _, _, _, t, w3, w3.viewS (r2.mono x3) h7, w3.viewS r3 h8, h9, q _ _ _ _ (x1.trans (x2.trans x3)) w3 (.bl t)⟩⟩
              · cases ev
            · cases ev
        · rename_i h5
          cases ev
          refine ⟨ρ, S, F, α, ra, _, he, w, h1, fun x H1 F1 α1 x1 w1 r1 => ⟨ρ, _, F1, α1, rb, _, he.mono x1, w1, h2, fun y H2 F2 α2 x2 w2 r2 =>
            ⟨F2, α2, _, _, _, false, w2, w2.viewS (r1.mono x2) h3, w2.viewS r2 h4, h5, false, rfl, ?_⟩⟩⟩
          refine iteF ?_
          exact q _ _ _ _ (x1.trans x2) w2 (.bl false)
        · cases ev
      · cases ev
theorem i_chainT {o p : Cop} {a b c : E} {Q : Bool → Hp → Prop} (h : tT K C (.chain o p a b c) σ H Q) : tTest (tChain (rC K (cmpD o)) (rC K (cmpD p)) (tE K C a) (tE K C b) (tE K C c)) σ H Q := by
  obtain ⟨ρ, S, F, α, b, S', he, w, ev, q⟩ := h
  exact i_chain ⟨ρ, S, F, α, _, S', he, w, ev, fun v H' F' α' x w' r => ⟨b, rep_bool r, q H' F' α' x w'⟩⟩
theorem i_neg {a : E} (h : tE K C (.neg a) σ H Q) : tUn (rU fun i => .int (-i)) (tE K C a) σ H Q := by
  obtain ⟨ρ, S, F, α, r, S', he, w, ev, q⟩ := h
  simp only [evE] at ev
  split at ev
  · rename_i i s1 h1
    cases ev
    exact ⟨ρ, S, F, α, _, _, he, w, h1, fun v H1 F1 α1 x1 w1 r1 => ⟨i, rep_int r1, q _ _ _ _ x1 w1 (.int _)⟩⟩
  · cases ev
theorem i_notT {a : E} {Q : Bool → Hp → Prop} (h : tT K C (.not a) σ H Q) : tNot (tT K C a) σ H Q := by
  obtain ⟨ρ, S, F, α, b, S', he, w, ev, q⟩ := h
  simp only [evE] at ev
  split at ev
  · rename_i i s1 h1
    cases ev
    exact ⟨ρ, S, F, α, i, _, he, w, h1, fun H1 F1 α1 x1 w1 => q _ _ _ x1 w1⟩
  · cases ev
theorem i_not {a : E} (h : tE K C (.not a) σ H Q) : tNotV (tE K C a) σ H Q := by
  obtain ⟨ρ, S, F, α, r, S', he, w, ev, q⟩ := h
  simp only [evE] at ev
  split at ev
  · rename_i i s1 h1
    cases ev
    exact ⟨ρ, S, F, α, _, _, he, w, h1, fun v H1 F1 α1 x1 w1 r1 => ⟨i, rep_bool r1, q _ _ _ _ x1 w1 (.bl _)⟩⟩
  · cases ev
theorem i_and {a b : E} (h : tE K C (.and a b) σ H Q) : tAndV (tE K C a) (tE K C b) σ H Q := by
  obtain ⟨ρ, S, F, α, r, S', he, w, ev, q⟩ := h
  simp only [evE] at ev
  split at ev
  · rename_i s1 h1
    refine ⟨ρ, S, F, α, _, _, he, w, h1, fun v H1 F1 α1 x1 w1 r1 => ⟨true, rep_bool r1, ?_⟩⟩
    refine iteT ?_
    exact ⟨ρ, s1, F1, α1, r, S', he.mono x1, w1, ev, fun v H2 F2 α2 x2 w2 r2 => q _ _ _ _ (x1.trans x2) w2 r2⟩
  · rename_i s1 h1
    cases ev
    refine ⟨ρ, S, F, α, _, _, he, w, h1, fun v H1 F1 α1 x1 w1 r1 => ⟨false, rep_bool r1, ?_⟩⟩
    refine iteF ?_
    exact q _ _ _ _ x1 w1 (.bl _)
  · cases ev
theorem i_or {a b : E} (h : tE K C (.or a b) σ H Q) : tOrV (tE K C a) (tE K C b) σ H Q := by
  obtain ⟨ρ, S, F, α, r, S', he, w, ev, q⟩ := h
  simp only [evE] at ev
  split at ev
  · rename_i s1 h1
    cases ev
    refine ⟨ρ, S, F, α, _, _, he, w, h1, fun v H1 F1 α1 x1 w1 r1 => ⟨true, rep_bool r1, ?_⟩⟩
    refine iteT ?_
    exact q _ _ _ _ x1 w1 (.bl _)
  · rename_i s1 h1
    refine ⟨ρ, S, F, α, _, _, he, w, h1, fun v H1 F1 α1 x1 w1 r1 => ⟨false, rep_bool r1, ?_⟩⟩
    refine iteF ?_
    exact ⟨ρ, s1, F1, α1, r, S', he.mono x1, w1, ev, fun v H2 F2 α2 x2 w2 r2 => q _ _ _ _ (x1.trans x2) w2 r2⟩
  · cases ev
theorem i_andT {a b : E} {Q : Bool → Hp → Prop} (h : tT K C (.and a b) σ H Q) : tAnd (tT K C a) (tT K C b) σ H Q := by
  obtain ⟨ρ, S, F, α, r, S', he, w, ev, q⟩ := h
  simp only [evE] at ev
  split at ev
  · rename_i s1 h1
    refine ⟨ρ, S, F, α, _, _, he, w, h1, fun H1 F1 α1 x1 w1 => ?_⟩
    refine iteT ?_
    exact ⟨ρ, s1, F1, α1, r, S', he.mono x1, w1, ev, fun H2 F2 α2 x2 w2 => q _ _ _ (x1.trans x2) w2⟩
  · rename_i s1 h1
    cases ev
    refine ⟨ρ, S, F, α, _, _, he, w, h1, fun H1 F1 α1 x1 w1 => ?_⟩
    refine iteF ?_
    exact q _ _ _ x1 w1
  · cases ev
theorem i_orT {a b : E} {Q : Bool → Hp → Prop} (h : tT K C (.or a b) σ H Q) : tOr (tT K C a) (tT K C b) σ H Q := by
  obtain ⟨ρ, S, F, α, r, S', he, w, ev, q⟩ := h
  simp only [evE] at ev
  split at ev
  · rename_i s1 h1
    cases ev
    refine ⟨ρ, S, F, α, _, _, he, w, h1, fun H1 F1 α1 x1 w1 => ?_⟩
    refine iteT ?_
    exact q _ _ _ x1 w1
  · rename_i s1 h1
    refine ⟨ρ, S, F, α, _, _, he, w, h1, fun H1 F1 α1 x1 w1 => ?_⟩
    refine iteF ?_
    exact ⟨ρ, s1, F1, α1, r, S', he.mono x1, w1, ev, fun H2 F2 α2 x2 w2 => q _ _ _ (x1.trans x2) w2⟩
  · cases ev
theorem i_ite {c a b : E} (h : tE K C (.ite c a b) σ H Q) : tIf (tT K C c) (tE K C a) (tE K C b) σ H Q := by
  obtain ⟨ρ, S, F, α, r, S', he, w, ev, q⟩ := h
  simp only [evE] at ev
  split at ev
  · rename_i s1 h1
    refine ⟨ρ, S, F, α, _, _, he, w, h1, fun H1 F1 α1 x1 w1 => ?_⟩
    refine iteT ?_
    exact ⟨ρ, s1, F1, α1, r, S', he.mono x1, w1, ev, fun v H2 F2 α2 x2 w2 r2 => q _ _ _ _ (x1.trans x2) w2 r2⟩
  · rename_i s1 h1
    refine ⟨ρ, S, F, α, _, _, he, w, h1, fun H1 F1 α1 x1 w1 => ?_⟩
    refine iteF ?_
    exact ⟨ρ, s1, F1, α1, r, S', he.mono x1, w1, ev, fun v H2 F2 α2 x2 w2 r2 => q _ _ _ _ (x1.trans x2) w2 r2⟩
  · cases ev
theorem i_slo {a b : E} (h : tE K C (.slo a b) σ H Q) : tSl (rS K) (tE K C a) (tPart (tE K C b)) tNoPart σ H Q := by
  obtain ⟨ρ, S, F, α, r, S', he, w, ev, q⟩ := h
  simp only [evE] at ev
  split at ev
  · cases ev
  · rename_i ra s1 h1
    split at ev
    · rename_i i s2 h2
      split at ev
      · rename_i z h4
        cases ev
        exact ⟨ρ, S, F, α, ra, _, he, w, h1, fun v H1 F1 α1 x1 w1 r1 => ⟨ρ, s1, F1, α1, _, S', he.mono x1, w1, h2, fun u H2 F2 α2 x2 w2 r2 =>
          ⟨i, rep_int r2, F2, α2, S', ra, r, w2, r1.mono x2, h4, fun v H3 F3 α3 x3 w3 r3 => q v H3 F3 α3 ((x1.trans x2).trans x3) w3 r3⟩⟩⟩
      · cases ev
    · cases ev
theorem i_shi {a b : E} (h : tE K C (.shi a b) σ H Q) : tSl (rS K) (tE K C a) tNoPart (tPart (tE K C b)) σ H Q := by
  obtain ⟨ρ, S, F, α, r, S', he, w, ev, q⟩ := h
  simp only [evE] at ev
  split at ev
  · cases ev
  · rename_i ra s1 h1
    split at ev
    · rename_i i s2 h2
      split at ev
      · rename_i z h4
        cases ev
        exact ⟨ρ, S, F, α, ra, _, he, w, h1, fun v H1 F1 α1 x1 w1 r1 => ⟨ρ, s1, F1, α1, _, S', he.mono x1, w1, h2, fun u H2 F2 α2 x2 w2 r2 =>
          ⟨i, rep_int r2, F2, α2, S', ra, r, w2, r1.mono x2, h4, fun v H3 F3 α3 x3 w3 r3 => q v H3 F3 α3 ((x1.trans x2).trans x3) w3 r3⟩⟩⟩
      · cases ev
    · cases ev
theorem i_rev {a : E} (h : tE K C (.rev a) σ H Q) : tRev K (tE K C a) σ H Q := by
  obtain ⟨ρ, S, F, α, r, S', he, w, ev, q⟩ := h
  simp only [evE] at ev
  split at ev
  · cases ev
  · rename_i ra s1 h1
    split at ev
    · rename_i x h3
      split at ev
      · rename_i z h4
        cases ev
        exact ⟨ρ, S, F, α, ra, S', he, w, h1, fun v H1 F1 α1 x1 w1 r1 => ⟨F1, α1, S', x, z, w1, (w1.view r1 h3).s, h4, q.fin x1⟩⟩
      · cases ev
    · cases ev
theorem i_tup {es : Es} (h : tE K C (.tup es) σ H Q) : tTup (tEs K C es) σ H Q := by
  obtain ⟨ρ, S, F, α, r, S', he, w, ev, q⟩ := h
  simp only [evE] at ev
  split at ev
  · rename_i rs s1 h1
    split at ev
    · rename_i xs h2
      split at ev
      · rename_i h3
        cases ev
        refine ⟨ρ, S, F, α, rs, S', he, w, h1, fun vs H1 F1 α1 x1 w1 r1 => ?_⟩
        have rp := r1.pures h2
        exact ⟨by rw [rp.length]; exact sz_le h3, fun p hp => (q.fin x1).tup w1 hp rp⟩
      · cases ev
    · cases ev
  · cases ev
theorem i_lst {es : Es} (h : tN K C (.lst es) σ H Q) : tLst (tEs K C es) σ H Q := by
  obtain ⟨ρ, S, F, α, ds, S', he, w, ev, q⟩ := h
  simp only [evE] at ev
  split at ev
  · rename_i rs s1 h1
    split at ev
    · rename_i xs h2
      split at ev
      · rename_i h3
        cases ev
        refine ⟨ρ, S, F, α, rs, S', he, w, h1, fun vs H1 F1 α1 x1 w1 r1 => ?_⟩
        have rp := r1.pures h2
        exact ⟨by rw [rp.length]; exact sz_le h3, fun p hp => q.fin x1 w1 p _ hp rp⟩
      · cases ev
    · cases ev
  · cases ev
theorem l_lst {es : Es} {ρ : Env} {S : Store} (r : R) (S' : Store) (ev : evE C (.lst es) ρ S = some (r, S')) : ∃ ds, r = .d (.list ds) := by
  simp only [evE] at ev
  split at ev
  · split at ev
    · split at ev
      · cases ev; exact ⟨_, rfl⟩
      · cases ev
    · cases ev
  · cases ev
theorem l_comp {g : G} {vs : List Nat} {it : It} {hc : Bool} {c e : E} {ρ : Env} {S : Store} (r : R) (S' : Store) (ev : evE C (.comp g vs it hc c e) ρ S = some (r, S')) : ∃ ds, r = .d (.list ds) := by
  simp only [evE] at ev
  split at ev
  · cases ev
  · split at ev
    · split at ev
      · cases ev; exact ⟨_, rfl⟩
      · cases ev
    · cases ev
theorem i_b1 {f : B1} {a : E} (h : tE K C (.b1 f a) σ H Q) : tCB (r1 K (b1D f)) (tCons (tE K C a) tNil) σ H Q := by
  obtain ⟨ρ, S, F, α, r, S', he, w, ev, q⟩ := h
  simp only [evE] at ev
  split at ev
  · cases ev
  · rename_i ra s1 h1
    split at ev
    · rename_i x h3
      split at ev
      · rename_i z h4
        cases ev
        exact ⟨ρ, S, F, α, ra, S', he, w, h1, fun v H1 F1 α1 x1 w1 r1 => ⟨v, F1, α1, S', x, z, rfl, w1, w1.viewS r1 h3, h4, q.fin x1⟩⟩
      · cases ev
    · cases ev
theorem i_b1N {f : B1} {a : E} (h : tN K C (.b1 f a) σ H Q) : tCB (r1N K (b1D f)) (tCons (tE K C a) tNil) σ H Q := by
  obtain ⟨ρ, S, F, α, r, S', he, w, ev, q⟩ := h
  simp only [evE] at ev
  split at ev
  · cases ev
  · rename_i ra s1 h1
    split at ev
    · rename_i x h3
      split at ev
      · rename_i z h4
        cases ev
        exact ⟨ρ, S, F, α, ra, S', he, w, h1, fun v H1 F1 α1 x1 w1 r1 => ⟨v, F1, α1, S', x, _, rfl, w1, w1.viewS r1 h3, h4, q.fin x1 w1⟩⟩
      · cases ev
    · cases ev
theorem i_b2 {f : B2} {a b : E} (h : tE K C (.b2 f a b) σ H Q) : tCB (r2 K (b2D f)) (tCons (tE K C a) (tCons (tE K C b) tNil)) σ H Q := by
  obtain ⟨ρ, S, F, α, r, S', he, w, ev, q⟩ := h
  simp only [evE] at ev
  obtain ⟨ra, S1, rb, dx, dy, dz, h1, h2, v1, v2, hf, e⟩ := inv_two (g := .d) ev
  cases e
  exact ⟨ρ, S, F, α, ra, S1, he, w, h1, fun x H1 F1 α1 x1 w1 r1 => ⟨ρ, S1, F1, α1, rb, S', he.mono x1, w1, h2, fun y H2 F2 α2 x2 w2 r2 =>
    ⟨x, y, F2, α2, S', dx, dy, dz, rfl, w2, w2.view (r1.mono x2) v1, w2.view r2 v2, hf, q.fin (x1.trans x2)⟩⟩⟩
theorem i_isi {a : E} {t : Ty} (h : tE K C (.isi a t) σ H Q) : tCB (rI1 K t) (tCons (tE K C a) (tCons (tC (.ty t.py)) tNil)) σ H Q := by
  obtain ⟨ρ, S, F, α, r, S', he, w, ev, q⟩ := h
  simp only [evE] at ev
  split at ev
  · cases ev
  · rename_i ra s1 h1
    split at ev
    · rename_i x h3
      split at ev
      · rename_i z h4
        cases ev
        exact ⟨ρ, S, F, α, ra, S', he, w, h1, fun v H1 F1 α1 x1 w1 r1 => ⟨v, F1, α1, S', x, z, rfl, w1, w1.view r1 h3, h4, q _ _ _ _ x1 w1 (.bl _)⟩⟩
      · cases ev
    · cases ev
theorem i_call {T : Tab} {W k f : Nat} {es : Es} {E : XK} (h : tE K (callD T.defs W k) (.call f es) σ H Q) : tCall (spF K T W k f) [] E (tEs K (callD T.defs W k) es) σ H Q := by
  obtain ⟨ρ, S, F, α, r, S', he, w, ev, q⟩ := h
  simp only [evE] at ev
  split at ev
  · rename_i rs s1 h1
    refine ⟨ρ, S, F, α, rs, _, he, w, h1, fun vs H1 F1 α1 x1 w1 r1 => ⟨rs, s1, F1, α1, r, S', ?_, w1, ev, fun v H2 F2 x2 w2 r2 => q _ _ _ _ (x1.trans ⟨x2, List.prefix_refl _⟩) w2 r2⟩⟩
    rw [List.append_nil]
    exact r1
  · cases ev
theorem i_lcnt {a b : E} (h : tE K C (.lcnt a b) σ H Q) : tBM K "list" (rCnt K lcntD) (tE K C a) (tCons (tE K C b) tNil) σ H Q := by
  obtain ⟨ρ, S, F, α, r, S', he, w, ev, q⟩ := h
  simp only [evE] at ev
  split at ev
  · cases ev
  · rename_i ra s1 h1
    split at ev
    · cases ev
    · rename_i rb s2 h2
      split at ev
      · rename_i zs x y v0 v1 v2
        split at ev
        · rename_i z hz
          cases ev
          refine ⟨ρ, S, F, α, ra, s1, he, w, h1, fun v H1 F1 α1 x1 w1 r1 => ?_⟩
          obtain ⟨p, vs, e0, hH, _⟩ := w1.view r1 v0
          refine ⟨by subst e0; exact .inl ⟨rfl, vs, SqL.of hH⟩, ρ, s1, F1, α1, rb, S', he.mono x1, w1, h2, fun u H2 F2 α2 x2 w2 r2 => ?_⟩
          exact ⟨u, F2, α2, S', x, y, z, rfl, w2, w2.view (r1.mono x2) v1, w2.viewS r2 v2, hz, q.fin (x1.trans x2)⟩
        · cases ev
      · cases ev
theorem i_lidx {a b : E} (h : tE K C (.lidx a b) σ H Q) : tBM K "list" (rCnt K lidxD) (tE K C a) (tCons (tE K C b) tNil) σ H Q := by
  obtain ⟨ρ, S, F, α, r, S', he, w, ev, q⟩ := h
  simp only [evE] at ev
  split at ev
  · cases ev
  · rename_i ra s1 h1
    split at ev
    · cases ev
    · rename_i rb s2 h2
      split at ev
      · rename_i zs x y v0 v1 v2
        split at ev
        · rename_i z hz
          cases ev
          refine ⟨ρ, S, F, α, ra, s1, he, w, h1, fun v H1 F1 α1 x1 w1 r1 => ?_⟩
          obtain ⟨p, vs, e0, hH, _⟩ := w1.view r1 v0
          refine ⟨by subst e0; exact .inl ⟨rfl, vs, SqL.of hH⟩, ρ, s1, F1, α1, rb, S', he.mono x1, w1, h2, fun u H2 F2 α2 x2 w2 r2 => ?_⟩
          exact ⟨u, F2, α2, S', x, y, z, rfl, w2, w2.view (r1.mono x2) v1, w2.viewS r2 v2, hz, q.fin (x1.trans x2)⟩
        · cases ev
      · cases ev
theorem i_dget {a b c : E} (h : tE K C (.dget a b c) σ H Q) : tDGet2 (tE K C a) (tE K C b) (tE K C c) σ H Q := by
  obtain ⟨ρ, S, F, α, r, S', he, w, ev, q⟩ := h
  simp only [evE] at ev
  split at ev
  · cases ev
  · rename_i ra s1 h1
    split at ev
    · cases ev
    · rename_i p0 hd0
      split at ev
      · rename_i k s2 h2
        split at ev
        · rename_i z s3 h3
          split at ev
          · rename_i t kvs hd
            split at ev
            · rename_i hk
              cases ev
              refine ⟨ρ, S, F, α, ra, s1, he, w, h1, fun v H1 F1 α1 x1 w1 r1 => ?_⟩
              obtain ⟨t0, kvs0⟩ := p0
              obtain ⟨p, o, e0, hH, hD⟩ := w1.dict r1 hd0
              refine ⟨p, e0, dat_isD hD hH, ρ, s1, F1, α1, .d k, s2, he.mono x1, w1, h2, fun u H2 F2 α2 x2 w2 r2 => ⟨ρ, s2, F2, α2, .d z, S', (he.mono x1).mono x2, w2, h3, fun t' H3 F3 α3 x3 w3 r3 => ?_⟩⟩
              obtain ⟨p', o', e1, hH', hD'⟩ := w3.dict ((r1.mono x2).mono x3) hd
              rw [e0] at e1
              cases e1
              rcases dat_get w3.sub hD' hH' hk (r2.mono x3 : RepR K F3 α3 u (.d k)) with ⟨g, e⟩ | ⟨vv, d, g, e, rv⟩
              · rw [e] at q
                exact ⟨none, g, q _ _ _ _ ((x1.trans x2).trans x3) w3 r3⟩
              · rw [e] at q
                exact ⟨some vv, g, q _ _ _ _ ((x1.trans x2).trans x3) w3 rv⟩
            · cases ev
          · cases ev
        · cases ev
      · cases ev
theorem i_dix {a b : E} (h : tE K C (.dix a b) σ H Q) : tDGet (tE K C a) (tE K C b) σ H Q := by
  obtain ⟨ρ, S, F, α, r, S', he, w, ev, q⟩ := h
  simp only [evE] at ev
  split at ev
  · cases ev
  · rename_i ra s1 h1
    split at ev
    · rename_i k s2 h2
      split at ev
      · rename_i t kvs hd
        split at ev
        · rename_i hk
          split at ev
          · rename_i z hz
            cases ev
            refine ⟨ρ, S, F, α, ra, s1, he, w, h1, fun v H1 F1 α1 x1 w1 r1 => ⟨ρ, s1, F1, α1, .d k, S', he.mono x1, w1, h2, fun u H2 F2 α2 x2 w2 r2 => ?_⟩⟩
            obtain ⟨p', o', e1, hH', hD'⟩ := w2.dict (r1.mono x2) hd
            rcases dat_get w2.sub hD' hH' hk (r2 : RepR K F2 α2 u (.d k)) with ⟨g, e⟩ | ⟨vv, d, g, e, rv⟩
            · rw [e] at hz
              cases hz
            · rw [e] at hz
              cases hz
              exact ⟨p', vv, e1, g, q _ _ _ _ (x1.trans x2) w2 rv⟩
          · cases ev
        · cases ev
      · cases ev
    · cases ev
theorem i_dinF {a b : E} (h : tE K C (.din false a b) σ H Q) : tDIn (tE K C a) (tE K C b) σ H Q := by
  obtain ⟨ρ, S, F, α, r, S', he, w, ev, q⟩ := h
  simp only [evE] at ev
  split at ev
  · rename_i k s1 h1
    split at ev
    · cases ev
    · rename_i rb s2 h2
      split at ev
      · rename_i t kvs hd
        split at ev
        · rename_i hk
          cases ev
          refine ⟨ρ, S, F, α, .d k, s1, he, w, h1, fun v H1 F1 α1 x1 w1 r1 => ⟨ρ, s1, F1, α1, rb, S', he.mono x1, w1, h2, fun u H2 F2 α2 x2 w2 r2 => ?_⟩⟩
          obtain ⟨p', o', e1, hH', hD'⟩ := w2.dict r2 hd
          rcases dat_get w2.sub hD' hH' hk (r1.mono x2 : RepR K F2 α2 v (.d k)) with ⟨g, e⟩ | ⟨vv, d, g, e, rv⟩
          · rw [e] at q
            exact ⟨p', none, e1, g, q _ _ _ _ (x1.trans x2) w2 (.bl _)⟩
          · rw [e] at q
            exact ⟨p', some vv, e1, g, q _ _ _ _ (x1.trans x2) w2 (.bl _)⟩
        · cases ev
      · cases ev
  · cases ev
theorem i_dinT {a b : E} (h : tE K C (.din true a b) σ H Q) : tDNotIn (tE K C a) (tE K C b) σ H Q := by
  obtain ⟨ρ, S, F, α, r, S', he, w, ev, q⟩ := h
  simp only [evE] at ev
  split at ev
  · rename_i k s1 h1
    split at ev
    · cases ev
    · rename_i rb s2 h2
      split at ev
      · rename_i t kvs hd
        split at ev
        · rename_i hk
          cases ev
          refine ⟨ρ, S, F, α, .d k, s1, he, w, h1, fun v H1 F1 α1 x1 w1 r1 => ⟨ρ, s1, F1, α1, rb, S', he.mono x1, w1, h2, fun u H2 F2 α2 x2 w2 r2 => ?_⟩⟩
          obtain ⟨p', o', e1, hH', hD'⟩ := w2.dict r2 hd
          rcases dat_get w2.sub hD' hH' hk (r1.mono x2 : RepR K F2 α2 v (.d k)) with ⟨g, e⟩ | ⟨vv, d, g, e, rv⟩
          · rw [e] at q
            exact ⟨p', none, e1, g, q _ _ _ _ (x1.trans x2) w2 (.bl _)⟩
          · rw [e] at q
            exact ⟨p', some vv, e1, g, q _ _ _ _ (x1.trans x2) w2 (.bl _)⟩
        · cases ev
      · cases ev
  · cases ev
theorem i_dinFT {a b : E} {Q : Bool → Hp → Prop} (h : tT K C (.din false a b) σ H Q) : L2.tB (tDIn (tE K C a) (tE K C b)) σ H Q := by
  obtain ⟨ρ, S, F, α, b, S', he, w, ev, q⟩ := h
  exact i_dinF ⟨ρ, S, F, α, _, S', he, w, ev, fun v H' F' α' x w' r => ⟨b, rep_bool r, q H' F' α' x w'⟩⟩
theorem i_dinTT {a b : E} {Q : Bool → Hp → Prop} (h : tT K C (.din true a b) σ H Q) : L2.tB (tDNotIn (tE K C a) (tE K C b)) σ H Q := by
  obtain ⟨ρ, S, F, α, b, S', he, w, ev, q⟩ := h
  exact i_dinT ⟨ρ, S, F, α, _, S', he, w, ev, fun v H' F' α' x w' r => ⟨b, rep_bool r, q H' F' α' x w'⟩⟩
theorem i_dkeysN {a : E} (h : tN K C (.dkeys a) σ H Q) : tCB (rKeys K) (tCons (tE K C a) tNil) σ H Q := by
  obtain ⟨ρ, S, F, α, ds, S', he, w, ev, q⟩ := h
  simp only [evE] at ev
  split at ev
  · cases ev
  · rename_i ra s1 h1
    split at ev
    · rename_i t kvs hd
      cases ev
      refine ⟨ρ, S, F, α, ra, S', he, w, h1, fun v H1 F1 α1 x1 w1 r1 => ?_⟩
      obtain ⟨p, o, e0, hH, hD⟩ := w1.dict r1 hd
      subst e0
      refine ⟨p, F1, α1, S', o, t, kvs, rfl, w1, hH, hD, fun l H' F' vs x2 w2 hl hH' rv => ?_⟩
      subst hH'
      exact (q.fin (x1.trans x2) w2) l vs hl rv
    · cases ev
theorem l_dkeys {a : E} {ρ : Env} {S : Store} (r : R) (S' : Store) (ev : evE C (.dkeys a) ρ S = some (r, S')) : ∃ ds, r = .d (.list ds) := by
  simp only [evE] at ev
  split at ev
  · cases ev
  · split at ev
    · cases ev; exact ⟨_, rfl⟩
    · cases ev
theorem i_esNil {Q : List V → Hp → Prop} (h : tEs K C .nil σ H Q) : tNil σ H Q := by
  obtain ⟨ρ, S, F, α, r, S', he, w, ev, q⟩ := h
  simp only [evEs] at ev
  cases ev
  exact q _ _ _ _ Ext.refl w .nil
theorem i_esCons {e : E} {es : Es} {Q : List V → Hp → Prop} (h : tEs K C (.cons e es) σ H Q) : tCons (tE K C e) (tEs K C es) σ H Q := by
  obtain ⟨ρ, S, F, α, r, S', he, w, ev, q⟩ := h
  simp only [evEs] at ev
  split at ev
  · cases ev
  · rename_i v s1 h1
    split at ev
    · cases ev
    · rename_i vs s2 h2
      cases ev
      exact ⟨ρ, S, F, α, v, _, he, w, h1, fun x H1 F1 α1 x1 w1 r1 => ⟨ρ, s1, F1, α1, vs, S', he.mono x1, w1, h2, fun xs H2 F2 α2 x2 w2 r2 => q _ _ _ _ (x1.trans x2) w2 (.cons (r1.mono x2) r2)⟩⟩
end
end PC
end
section
/-! PcSndE4: comprehensions; the expressions' theorem. -/
namespace PC
open PySem PySem.Spec PyProof.Rows L2

def ttOf (K : PySem.W.Frag) (C : Call) (hc : Bool) (c : E) : TT := match hc with
  | true => tT K C c
  | false => tYes
theorem i_comp {K : PySem.W.Frag} {C : Call} {σ : L2.St} {H : Hp} {Q : VK} {g : G} {vs : List Nat} {it : It} {hc : Bool} {c e : E} (hv : ∀ i ∈ G.slots g, i ∈ vs) (h : tN K C (.comp g vs it hc c e) σ H Q) :
    tLc (tIt K C it) (tG K g) (ttOf K C hc c) (tE K C e) vs σ H Q := by
  obtain ⟨ρ, S, F, α, ds, S', he, w, ev, q⟩ := h
  simp only [evE] at ev
  split at ev
  · cases ev
  · rename_i J S1 hit
    generalize hst : (fun (x : D) (s2 : Store) => (match asgG g (.d x) (wipeE ρ vs) with
        | none => none
        | some ρ2 => match (if hc = true then evE C c ρ2 s2 else some (R.d (.bool true), s2)) with
          | some (.d (.bool true), s3) => (match evE C e ρ2 s3 with
            | some (.d y, s4) => some (some y, s4)
            | _ => none)
          | some (.d (.bool false), s3) => some (none, s3)
          | _ => none : Option (Option D × Store))) = step at ev
    split at ev
    · rename_i S5 hcmp
      split at ev
      · rename_i xs hcell
        cases ev
        refine ⟨ρ, S, F, α, J, S1, he, w, hit, fun H1 F1 α1 Jt x1 w1 iok => fun Dn hD => ?_⟩
        obtain ⟨w2, x2⟩ := w1.celled (ds := []) hD .nil
        have hDn : (α1 ++ [Dn])[S1.length]? = some Dn := by rw [← w1.len]; simp
        refine ⟨fun i m Hi => ∃ Si Fi αi, Ext F1 (α1 ++ [Dn]) Fi αi ∧ SW K Hi Si Fi αi ∧ i + m = J.n ∧ compN J S1.length step m i Si = some S5, ⟨J.n, _, F1, _, Ext.refl, w2, by omega, hcmp⟩, ?_⟩
        rintro i m Hi ⟨Si, Fi, αi, xi, wi, hm, hi⟩
        have x02 : Ext F1 α1 Fi αi := x2.trans xi
        cases m with
        | zero =>
          unfold compN at hi
          split at hi
          · rename_i hfin
            cases hi
            have e0 : i = J.n := by omega
            subst e0
            refine .inl ⟨iok.fin Hi _ Fi αi x02 wi hfin, ?_⟩
            obtain ⟨us, hH, hr⟩ := wi.at_ (pre_get xi.pre hDn) hcell
            have hmem : Dn ∈ αi := List.mem_of_getElem? (pre_get xi.pre hDn)
            have etk : αi.take S1.length = α1 := by
              obtain ⟨t, ht⟩ := xi.pre
              rw [← ht, ← w1.len, List.append_assoc, List.take_left']
              rfl
            have wd := wi.drop S1.length
            rw [etk] at wd
            refine q Dn Hi Fi α1 us (x1.trans ⟨x2.ex.trans xi.ex, List.prefix_refl _⟩) wd (wi.out Dn hmem) (fun hn => ?_) hH hr
            have := w2.nd
            rw [List.nodup_append] at this
            exact this.2.2 Dn hn Dn (List.mem_singleton.mpr rfl) rfl
          · cases hi
        | succ m =>
          unfold compN at hi
          split at hi
          · cases hi
          · rename_i x hget
            have hlt : i < J.n := by omega
            obtain ⟨hgo, hyld⟩ := iok.go i Hi Si Fi αi x x02 wi hlt hget
            refine .inr ⟨hgo, fun H' => ∃ Si Fi αi, Ext F1 (α1 ++ [Dn]) Fi αi ∧ SW K H' Si Fi αi ∧ compN J S1.length step m (i + 1) Si = some S5, fun H' ⟨Sj, Fj, αj, xj, wj, hj⟩ => ⟨m, Nat.lt_succ_self m, Sj, Fj, αj, xj, wj, by omega, hj⟩, fun v H' hy => ?_⟩
            obtain ⟨F2, xy, wy, ry⟩ := hyld v H' hy
            have hs : step x Si = (match asgG g (.d x) (wipeE ρ vs) with
              | none => none
              | some ρ2 => match (if hc = true then evE C c ρ2 Si else some (R.d (.bool true), Si)) with
                | some (.d (.bool true), s3) => (match evE C e ρ2 s3 with
                  | some (.d y, s4) => some (some y, s4)
                  | _ => none)
                | some (.d (.bool false), s3) => some (none, s3)
                | _ => none : Option (Option D × Store)) := by rw [← hst]
            cases h1 : asgG g (.d x) (wipeE ρ vs) with
            | none =>
              rw [h1] at hs
              rw [hs] at hi
              cases hi
            | some ρ2 =>
              rw [h1] at hs
              simp only at hs
              have x3 : Ext F α F2 αi := x1.trans (x02.trans xy)
              refine ⟨F2, αi, Si, wipeE ρ vs, .d x, ρ2, (he.mono x3).wipe vs, wy, ry, h1, fun σ2 he2 off => ⟨(off_wipe.trans (off vs hv)), ?_⟩⟩
              -- the test
              have body : ∀ (S3 : Store) (H3 F3 : Hp) (α3 : List Addr), Ext F2 αi F3 α3 → SW K H3 S3 F3 α3 → (match evE C e ρ2 S3 with
                  | some (.d y, s4) => some (some y, s4)
                  | _ => (none : Option (Option D × Store))) = step x Si →
                  tE K C e σ2 H3 fun y H4 => ∃ acc, H4 Dn = some (.lst acc) ∧ acc.length < sizeLine ∧ ∃ Si Fi αi, Ext F1 (α1 ++ [Dn]) Fi αi ∧ SW K (upd H4 Dn (.lst (acc ++ [y]))) Si Fi αi ∧ compN J S1.length step m (i + 1) Si = some S5 := by
                intro S3 H3 F3 α3 x4 w3 hst3
                split at hst3
                · rename_i y S4 h4
                  rw [← hst3] at hi
                  simp only at hi
                  split at hi
                  · rename_i acc hacc
                    split at hi
                    · rename_i hsz
                      refine ⟨ρ2, S3, F3, α3, .d y, S4, he2.mono x4, w3, h4, fun z H4 F4 α4 x5 w4 r4 => ?_⟩
                      have hD4 : α4[S1.length]? = some Dn := pre_get x5.pre (pre_get x4.pre (pre_get xi.pre hDn))
                      obtain ⟨us, hH, hr⟩ := w4.at_ hD4 hacc
                      refine ⟨us, hH, by rw [hr.length]; exact sz_lt hsz, _, F4, α4, xi.trans (xy.trans (x4.trans x5)), w4.wrote hD4 (hr.append (.cons r4 .nil)), hi⟩
                    · cases hi
                  · cases hi
                · rw [← hst3] at hi
                  cases hi
              cases hc with
              | false =>
                simp only [Bool.false_eq_true, if_false] at hs
                simp only [ttOf, tYes, if_true]
                exact body Si H' F2 αi Ext.refl wy hs.symm
              | true =>
                simp only [if_true] at hs
                split at hs
                · rename_i S3 h3
                  exact ⟨ρ2, Si, F2, αi, true, S3, he2, wy, h3, fun H3 F3 α3 x4 w3 => iteT (body S3 H3 F3 α3 x4 w3 hs.symm)⟩
                · rename_i S3 h3
                  rw [hs] at hi
                  exact ⟨ρ2, Si, F2, αi, false, S3, he2, wy, h3, fun H3 F3 α3 x4 w3 => iteF ⟨S3, F3, α3, xi.trans (xy.trans x4), w3, hi⟩⟩
                · rw [hs] at hi
                  cases hi
      · cases ev
    · cases ev
theorem i_dcomp {K : PySem.W.Frag} {C : Call} {σ : L2.St} {H : Hp} {Q : VK} {g : G} {vs : List Nat} {it : It} {k v : E} (hv : ∀ i ∈ G.slots g, i ∈ vs) (h : tE K C (.dcomp g vs it k v) σ H Q) :
    tDcT (tIt K C it) (tG K g) (tE K C k) (tE K C v) vs σ H Q := by
  obtain ⟨ρ, S, F, α, r, S', he, w, ev, q⟩ := h
  simp only [evE] at ev
  split at ev
  · cases ev
  · rename_i J S1 hit
    generalize hst : (fun (x : D) (s2 : Store) => (match asgG g (.d x) (wipeE ρ vs) with
        | none => none
        | some ρ2 => match evE C k ρ2 s2 with
          | some (.d y, s3) => (match evE C v ρ2 s3 with
            | some (.d z, s4) => some (y, z, s4)
            | _ => none)
          | _ => none : Option (D × D × Store))) = step at ev
    split at ev
    · rename_i S5 hcmp
      split at ev
      · rename_i kvs hcell
        cases ev
        refine ⟨ρ, S, F, α, J, S1, he, w, hit, fun H1 F1 α1 Jt x1 w1 iok => fun Dn hD => ?_⟩
        obtain ⟨w2, x2⟩ := w1.celledG (cc := .dct true []) (o := .dT []) hD ⟨_, upd_same, [], rfl, .nil⟩
        have hDn : (α1 ++ [Dn])[S1.length]? = some Dn := by rw [← w1.len]; simp
        refine ⟨fun i m Hi => ∃ Si Fi αi, Ext F1 (α1 ++ [Dn]) Fi αi ∧ SW K Hi Si Fi αi ∧ i + m = J.n ∧ dcompN J S1.length step m i Si = some S5, ⟨J.n, _, F1, _, Ext.refl, w2, by omega, hcmp⟩, ?_⟩
        rintro i m Hi ⟨Si, Fi, αi, xi, wi, hm, hi⟩
        have x02 : Ext F1 α1 Fi αi := x2.trans xi
        cases m with
        | zero =>
          unfold dcompN at hi
          split at hi
          · rename_i hfin
            cases hi
            have e0 : i = J.n := by omega
            subst e0
            refine .inl ⟨iok.fin Hi _ Fi αi x02 wi hfin, ?_⟩
            obtain ⟨o, hH, hd⟩ := wi.cell _ Dn _ (pre_get xi.pre hDn) hcell
            have hmem : Dn ∈ αi := List.mem_of_getElem? (pre_get xi.pre hDn)
            have etk : αi.take S1.length = α1 := by
              obtain ⟨t, ht⟩ := xi.pre
              rw [← ht, ← w1.len, List.append_assoc, List.take_left']
              rfl
            have wd := wi.drop S1.length
            rw [etk] at wd
            have hn : Dn ∉ α1 := fun hn => by
              have := w2.nd
              rw [List.nodup_append] at this
              exact this.2.2 Dn hn Dn (List.mem_singleton.mpr rfl) rfl
            obtain ⟨w3, x3⟩ := wd.freeze (wi.out Dn hmem) hn hH
            exact q _ _ _ α1 ((x1.trans ⟨x2.ex.trans xi.ex, List.prefix_refl _⟩).trans x3) w3 (show RepR K (upd Fi Dn o) α1 (.ref Dn) (.dic true kvs) from ⟨Dn, o, rfl, upd_same, DAt.mono x3.ex hd⟩)
          · cases hi
        | succ m =>
          unfold dcompN at hi
          split at hi
          · cases hi
          · rename_i x hget
            have hlt : i < J.n := by omega
            obtain ⟨hgo, hyld⟩ := iok.go i Hi Si Fi αi x x02 wi hlt hget
            refine .inr ⟨hgo, fun H' => ∃ Si Fi αi, Ext F1 (α1 ++ [Dn]) Fi αi ∧ SW K H' Si Fi αi ∧ dcompN J S1.length step m (i + 1) Si = some S5, fun H' ⟨Sj, Fj, αj, xj, wj, hj⟩ => ⟨m, Nat.lt_succ_self m, Sj, Fj, αj, xj, wj, by omega, hj⟩, fun vv H' hy => ?_⟩
            obtain ⟨F2, xy, wy, ry⟩ := hyld vv H' hy
            have hs : step x Si = (match asgG g (.d x) (wipeE ρ vs) with
              | none => none
              | some ρ2 => match evE C k ρ2 Si with
                | some (.d y, s3) => (match evE C v ρ2 s3 with
                  | some (.d z, s4) => some (y, z, s4)
                  | _ => none)
                | _ => none : Option (D × D × Store)) := by rw [← hst]
            cases h1 : asgG g (.d x) (wipeE ρ vs) with
            | none =>
              rw [h1] at hs
              rw [hs] at hi
              cases hi
            | some ρ2 =>
              rw [h1] at hs
              simp only at hs
              have x3 : Ext F α F2 αi := x1.trans (x02.trans xy)
              refine ⟨F2, αi, Si, wipeE ρ vs, .d x, ρ2, (he.mono x3).wipe vs, wy, ry, h1, fun σ2 he2 off => ⟨(off_wipe.trans (off vs hv)), ?_⟩⟩
              split at hs
              · rename_i y S3 h3
                split at hs
                · rename_i z S4 h4
                  rw [hs] at hi
                  simp only at hi
                  split at hi
                  · rename_i kvs2 hacc
                    split at hi
                    · rename_i hk
                      obtain ⟨k1, k2⟩ := Bool.and_eq_true_iff.mp hk
                      refine ⟨ρ2, Si, F2, αi, .d y, S3, he2, wy, h3, fun ya H3 F3 α3 x4 w3 r3 => ⟨ρ2, S3, F3, α3, .d z, S4, he2.mono x4, w3, h4, fun za H4 F4 α4 x5 w4 r4 => ?_⟩⟩
                      have hD4 : α4[S1.length]? = some Dn := pre_get x5.pre (pre_get x4.pre (pre_get xi.pre hDn))
                      obtain ⟨o, hH, ks, eo, kr⟩ := w4.cell _ Dn _ hD4 hacc
                      subst eo
                      obtain ⟨key, ek⟩ := keyT_of k1
                      have r3' : RepR K F4 α4 ya (.d y) := r3.mono x5
                      have r3'' : Rep K F4 ya (kDs key) := by rw [← ek]; exact r3'
                      obtain ⟨b, eb, hb⟩ := rep_kDs r3''
                      refine ⟨ks, key, b, eb, w4.sub _ _ hb, hH, by rw [krel_len kr]; exact sz_lt k2, _, F4, α4, xi.trans (xy.trans (x4.trans x5)), w4.wroteG (cc := .dct true (dPut kvs2 y z)) hD4 ⟨_, upd_same, _, rfl, ?_⟩, hi⟩
                      rw [ek]
                      exact krel_put same_kDs r4 kr
                    · cases hi
                  · cases hi
                · rw [hs] at hi
                  cases hi
              · rw [hs] at hi
                cases hi
      · cases ev
    · cases ev
/-- a test by its value -/
theorem t_val {X : Cx} {C : Call} {e : E} {t : Expr} (h : PE X t (tE X.K C e)) (ht : ∀ whole, isTrue t X.env whole = (do let v ← whole; standAt t.pos; holding [v] (truthy v))) : PT X t (tT X.K C e) :=
  PT.imp (pt_val h ht) fun σ H Q ⟨ρ, S, F, α, b, S', he, w, ev, q⟩ => ⟨ρ, S, F, α, _, S', he, w, ev, fun v H' F' α' x w' r => ⟨b, rep_bool r, q H' F' α' x w'⟩⟩
/-- a BoolOp's test whatever its whole is -/
theorem boolW {X : Cx} {op : BoolOp} {l : List Expr} {pos : Pos} {t : TT} (h : PT X (.BoolOp op l pos) t) : PW X (.BoolOp op l pos) t := ⟨fun wh pins s σ H Q I q => h.run pins s σ H Q I q⟩
theorem and_split {a b : Bool} (h : (a && b) = true) : a = true ∧ b = true := Bool.and_eq_true_iff.mp h
theorem own_all {N : List Str} {sc scope : Scope} {own : List (Str × Nat)} (h : L2.blkC N sc scope own = true) : L2.BlkOk N sc scope own := blkOk_by h
theorem ne_dbg {x : Str} {l : List Str} (hx : x ∈ l) (h : ("__debug__" : Str) ∉ l) : (x == ("__debug__" : Str)) = false := by
  cases e : x == ("__debug__" : Str) with
  | false => rfl
  | true => rw [eq_of_beq e] at hx; exact absurd hx h
theorem blt_ne {x : Str} (h : x ∈ bnames) : x ≠ "__name__" ∧ (x == ("__debug__" : Str)) = false :=
  ⟨fun e => absurd (e ▸ h) (by decide +kernel), ne_dbg h (by decide +kernel)⟩
theorem mt_few {t : Expr} (h : plainE t = true) (cpos : Pos) (env : PySem.Env) : ((backTo cpos (starEach [t] env)).all (fun x => !x.1) && (backToKw cpos (keywordEach [] env)).all (fun x => x.1.isSome)
      && decide (([t] : List Expr).length + ([] : List Keyword).length + (if ([] : List Keyword).isEmpty then 0 else 1) < 30)) = true := by
  rw [star_of h]
  rfl
theorem mt_two {t u : Expr} (h : plainE t = true) (h' : plainE u = true) (cpos : Pos) (env : PySem.Env) : ((backTo cpos (starEach [t, u] env)).all (fun x => !x.1) && (backToKw cpos (keywordEach [] env)).all (fun x => x.1.isSome)
      && decide (([t, u] : List Expr).length + ([] : List Keyword).length + (if ([] : List Keyword).isEmpty then 0 else 1) < 30)) = true := by
  rw [star_of h, star_of h']
  rfl
theorem nosl_of {t : Expr} (h : plainE t = true) : NoSl t := by
  intro o i
  cases t <;> first | rfl | cases h
mutual
theorem sndE {T : Tab} {W k : Nat} : ∀ (e : E) (c : Ctx) (t : Expr), chkE T e c t = true → ∀ (X : Cx), XOk T W k c X → PE X t (tE X.K (callD T.defs W k) e)
  | .var i, c, t, h, X, ok => by
    cases t <;> first | (cases h; done) | skip
    rename_i x pos
    obtain ⟨h1, h2⟩ := and_split (show (decide (c.N[i]? = some x) && (visB c x && okN x)) = true from h)
    obtain ⟨h3, h4⟩ := and_split h2
    obtain ⟨h5, h6⟩ := okN_of h4
    exact PE.imp (pe_var (i := i) (by rw [ok.N]; exact of_decide_eq_true h1) (ok.vis h3) h5 h6) fun σ H Q => i_var
  | .glob y v, c, t, h, X, ok => by
    cases t <;> first | (cases h; done) | skip
    rename_i x pos
    obtain ⟨h1, h2⟩ := and_split (show (decide (x = y) && (glB c x && (okN x && T.globs.any fun p => decide (p.1 = y) && sameD p.2 v))) = true from h)
    obtain ⟨h3, h4⟩ := and_split h2
    obtain ⟨h5, h6⟩ := and_split h4
    have e1 := of_decide_eq_true h1
    subst e1
    obtain ⟨p, hp, h7⟩ := List.any_eq_true.mp h6
    obtain ⟨h8, h9⟩ := and_split h7
    obtain ⟨px, pv⟩ := p
    have e2 := of_decide_eq_true h8
    have e3 := sameD_eq h9
    simp only at e2 e3
    subst e2 e3
    obtain ⟨u, w, hm, hr, hw⟩ := ok.glob _ _ hp
    exact PE.imp (pe_glob (ok.gl h3) hm hr (okN_of h5).1) fun σ H Q => i_cR (fun _ _ => rfl) hw
  | .int i, c, t, h, X, ok => by
    cases t <;> first | (cases h; done) | skip
    rename_i x j pos
    cases x <;> first | (cases h; done) | skip
    have e1 := of_decide_eq_true h
    subst e1
    exact PE.imp pe_int fun σ H Q => i_c (fun _ _ => rfl) fun _ => .int _
  | .bl b, c, t, h, X, ok => by
    cases t <;> first | (cases h; done) | skip
    rename_i x j pos
    cases x <;> first | (cases h; done) | skip
    have e1 := eq_of_beq (show (b == _) = true from h)
    subst e1
    exact PE.imp pe_bl fun σ H Q => i_c (fun _ _ => rfl) fun _ => .bl _
  | .non, c, t, h, X, ok => by
    cases t <;> first | (cases h; done) | skip
    rename_i x j pos
    cases x <;> first | (cases h; done) | skip
    exact PE.imp pe_non fun σ H Q => i_c (fun _ _ => rfl) fun _ => .non
  | .str x, c, t, h, X, ok => by
    cases t <;> first | (cases h; done) | skip
    rename_i y j pos
    cases y <;> first | (cases h; done) | skip
    have e1 := of_decide_eq_true h
    subst e1
    exact PE.imp pe_str fun σ H Q => i_c (fun _ _ => rfl) fun _ => .str _
  | .bin o a b, c, t, h, X, ok => by
    cases t <;> first | (cases h; done) | skip
    rename_i l p r pos
    obtain ⟨h1, h2⟩ := and_split (show (bopB o p && (chkE T a c l && chkE T b c r)) = true from h)
    obtain ⟨h3, h4⟩ := and_split h2
    rw [bopB_eq h1]
    exact PE.imp (pe_op (op_bin o) (sndE a c l h3 X ok) (sndE b c r h4 X ok)) fun σ H Q => i_bin
  | .neg a, c, t, h, X, ok => by
    cases t <;> first | (cases h; done) | skip
    rename_i p l pos
    cases p <;> first | (cases h; done) | skip
    exact PE.imp (pe_un un_neg (sndE a c l h X ok)) fun σ H Q => i_neg
  | .not a, c, t, h, X, ok => by
    cases t <;> first | (cases h; done) | skip
    rename_i p l pos
    cases p <;> first | (cases h; done) | skip
    exact PE.imp (pe_not (sndE a c l h X ok)) fun σ H Q => i_not
  | .and a b, c, t, h, X, ok => by
    cases t <;> first | (cases h; done) | skip
    rename_i p l pos
    cases p <;> first | (cases h; done) | skip
    match l, h with
    | x :: y :: r, h =>
      obtain ⟨h1, h2⟩ := and_split (show (chkE T a c x && chkE T b c (match (generalizing := false) r with | [] => y | _ => .BoolOp .And (y :: r) pos)) = true from h)
      cases r with
      | nil => exact PE.imp (pe_and (sndE a c x h1 X ok) (pe_one (sndE b c y h2 X ok))) fun σ H Q => i_and
      | cons z r => exact PE.imp (pe_and (sndE a c x h1 X ok) (sndE b c _ h2 X ok)) fun σ H Q => i_and
  | .or a b, c, t, h, X, ok => by
    cases t <;> first | (cases h; done) | skip
    rename_i p l pos
    cases p <;> first | (cases h; done) | skip
    match l, h with
    | x :: y :: r, h =>
      obtain ⟨h1, h2⟩ := and_split (show (chkE T a c x && chkE T b c (match (generalizing := false) r with | [] => y | _ => .BoolOp .Or (y :: r) pos)) = true from h)
      cases r with
      | nil => exact PE.imp (pe_or (sndE a c x h1 X ok) (pe_one (sndE b c y h2 X ok))) fun σ H Q => i_or
      | cons z r => exact PE.imp (pe_or (sndE a c x h1 X ok) (sndE b c _ h2 X ok)) fun σ H Q => i_or
  | .cmp o a b, c, t, h, X, ok => by
    cases t <;> first | (cases h; done) | skip
    rename_i l ps rs pos
    match ps, rs, h with
    | [p], [r], h =>
      obtain ⟨h1, h2⟩ := and_split (show (copB o p && (chkE T a c l && chkE T b c r)) = true from h)
      obtain ⟨h3, h4⟩ := and_split h2
      rw [copB_eq h1]
      exact PE.imp (pe_cmpR (op_cmp ok.hu o) (sndE a c l h3 X ok) (sndE b c r h4 X ok) (mark_of (chk_plain h4) _)) fun σ H Q => i_cmp
  | .chain o p a b d, c, t, h, X, ok => by
    cases t <;> first | (cases h; done) | skip
    rename_i l ps rs pos
    match ps, rs, h with
    | [q, q'], [r, r'], h =>
      obtain ⟨h1, h2⟩ := and_split (show (copB o q && (copB p q' && (chkE T a c l && (chkE T b c r && chkE T d c r')))) = true from h)
      obtain ⟨h3, h4⟩ := and_split h2
      obtain ⟨h5, h6⟩ := and_split h4
      obtain ⟨h7, h8⟩ := and_split h6
      rw [copB_eq h1, copB_eq h3]
      exact PE.imp (pe_chain (op_cmp ok.hu o) (op_cmp ok.hu p) (sndE a c l h5 X ok) (sndE b c r h7 X ok) (sndE d c r' h8 X ok) (mark_of (chk_plain h8) _)) fun σ H Q => i_chain
  | .ite d a b, c, t, h, X, ok => by
    cases t <;> first | (cases h; done) | skip
    rename_i x y z pos
    obtain ⟨h1, h2⟩ := and_split (show (tstOk d && (chkE T d c x && (chkE T a c y && chkE T b c z))) = true from h)
    obtain ⟨h3, h4⟩ := and_split h2
    obtain ⟨h5, h6⟩ := and_split h4
    exact PE.imp (pe_ifExp (sndT d c x h3 h1 X ok) (sndE a c y h5 X ok) (sndE b c z h6 X ok)) fun σ H Q => i_ite
  | .ix a b, c, t, h, X, ok => by
    cases t <;> first | (cases h; done) | skip
    rename_i x y pos
    obtain ⟨h1, h2⟩ := and_split (show (chkE T a c x && chkE T b c y) = true from h)
    exact PE.imp (pe_ix ix_D (sndE a c x h1 X ok) (sndE b c y h2 X ok) (sub_of (chk_plain h2))) fun σ H Q => i_ix
  | .slo a b, c, t, h, X, ok => by
    cases t <;> first | (cases h; done) | skip
    rename_i x y pos
    cases y <;> first | (cases h; done) | skip
    rename_i lo up st p2
    cases lo <;> cases up <;> cases st <;> first | (cases h; done) | skip
    rename_i y
    obtain ⟨h1, h2⟩ := and_split (show (chkE T a c x && chkE T b c y) = true from h)
    exact PE.imp (pe_slice sl_D (sndE a c x h1 X ok) (po_some (sndE b c y h2 X ok)) po_none) fun σ H Q => i_slo
  | .shi a b, c, t, h, X, ok => by
    cases t <;> first | (cases h; done) | skip
    rename_i x y pos
    cases y <;> first | (cases h; done) | skip
    rename_i lo up st p2
    cases lo <;> cases up <;> cases st <;> first | (cases h; done) | skip
    rename_i y
    obtain ⟨h1, h2⟩ := and_split (show (chkE T a c x && chkE T b c y) = true from h)
    exact PE.imp (pe_slice sl_D (sndE a c x h1 X ok) po_none (po_some (sndE b c y h2 X ok))) fun σ H Q => i_shi
  | .rev a, c, t, h, X, ok => by
    cases t <;> first | (cases h; done) | skip
    rename_i x y pos
    cases y <;> first | (cases h; done) | skip
    rename_i lo up st p2
    cases lo <;> cases up <;> cases st <;> first | (cases h; done) | skip
    rename_i u
    cases u <;> first | (cases h; done) | skip
    rename_i uo ux up
    cases uo <;> first | (cases h; done) | skip
    cases ux <;> first | (cases h; done) | skip
    rename_i kc k1 k2
    cases kc <;> first | (cases h; done) | skip
    rename_i kk
    obtain ⟨h1, h2⟩ := and_split (show (decide (kk = 1) && chkE T a c x) = true from h)
    have e1 := of_decide_eq_true h1
    subst e1
    exact PE.imp (pe_rev (sndE a c x h2 X ok)) fun σ H Q => i_rev
  | .tup es, c, t, h, X, ok => by
    cases t <;> first | (cases h; done) | skip
    rename_i ts n pos
    exact PE.imp (pe_tup (sndEs es c ts h X ok)) fun σ H Q => i_tup
  | .lst es, c, t, h, X, ok => by
    cases t <;> first | (cases h; done) | skip
    rename_i ts pos
    exact PE.imp (pe_lst (sndEs es c ts h X ok)) fun σ H Q ⟨ρ, S, F, α, r, S', he, w, ev, q⟩ => i_lst (tE.n l_lst he w ev q)
  | .comp g vs it hc d e, c, t, h, X, ok => by
    cases t <;> first | (cases h; done) | skip
    rename_i elt gens scope pos
    match gens, h with
    | [⟨tg, iter, ifs, asy⟩], h =>
      obtain ⟨h1, h⟩ := and_split (show (decide (asy = 0) && (decide ((ownOf c.N vs).map (·.2) = vs) && (L2.blkC c.N c.sc scope (ownOf c.N vs) && (chkIt T it c tg iter && (chkG g (blkCtx c scope) tg && ((G.slots g).all (fun i => vs.contains i) &&
        ((match (generalizing := false) hc, ifs with
          | true, [f] => tstOk d && chkE T d (blkCtx c scope) f
          | false, [] => true
          | _, _ => false) && chkE T e (blkCtx c scope) elt))))))) = true from h)
      obtain ⟨h2, h⟩ := and_split h
      obtain ⟨h3, h⟩ := and_split h
      obtain ⟨h4, h⟩ := and_split h
      obtain ⟨h5, h⟩ := and_split h
      obtain ⟨h6, h⟩ := and_split h
      obtain ⟨h7, h8⟩ := and_split h
      have e1 := of_decide_eq_true h1
      subst e1
      have e2 := of_decide_eq_true h2
      have hv : ∀ i ∈ G.slots g, i ∈ vs := fun i hi => by simpa using List.all_eq_true.mp h6 i hi
      have hb : BlkOk X.N X.env.scope scope (ownOf c.N vs) := by rw [ok.N, ok.sc]; exact blkOk_by h3
      have hfold : ∀ x, foldedSetIterable iter X.env x = pure x := fun x => by
        cases it <;> first | exact fold_of (chk_plain h4) _ _ | (cases iter <;> first | rfl | cases h4)
      have core : PE X (.ListComp elt [⟨tg, iter, ifs, 0⟩] scope pos) (tLc (tIt X.K (callD T.defs W k) it) (tG X.K g) (ttOf X.K (callD T.defs W k) hc d) (tE X.K (callD T.defs W k) e) ((ownOf c.N vs).map (·.2))) := by
        refine pe_lc ok.calm (by rw [ok.N]; exact ok.nd) (sndIt it c tg iter h4 X ok) hb (fun s H C cl fp => sndG g _ tg h5 _ (ok.blk s H scope C cl fp)) (fun s H C cl fp => ?_) (fun s H C cl fp => sndE e _ elt h8 _ (ok.blk s H scope C cl fp)) hfold
        cases hc with
        | true =>
          match ifs, h7 with
          | [f], h7 =>
            obtain ⟨h9, h10⟩ := and_split h7
            exact pts_one (sndT d _ f h10 h9 _ (ok.blk s H scope C cl fp))
        | false =>
          match ifs, h7 with
          | [], _ => exact pts_nil
      rw [e2] at core
      exact PE.imp core fun σ H Q ⟨ρ, S, F, α, r, S', he, w, ev, q⟩ => i_comp hv (tE.n l_comp he w ev q)
  | .dcomp g vs it kk vv, c, t, h, X, ok => by
    cases t <;> first | (cases h; done) | skip
    rename_i kx vx gens scope pos
    match gens, h with
    | [⟨tg, iter, [], asy⟩], h =>
      obtain ⟨h1, h⟩ := and_split (show (decide (asy = 0) && (decide ((ownOf c.N vs).map (·.2) = vs) && (L2.blkC c.N c.sc scope (ownOf c.N vs) && (chkIt T it c tg iter && (chkG g (blkCtx c scope) tg && ((G.slots g).all (fun i => vs.contains i) &&
        (chkE T kk (blkCtx c scope) kx && chkE T vv (blkCtx c scope) vx))))))) = true from h)
      obtain ⟨h2, h⟩ := and_split h
      obtain ⟨h3, h⟩ := and_split h
      obtain ⟨h4, h⟩ := and_split h
      obtain ⟨h5, h⟩ := and_split h
      obtain ⟨h6, h⟩ := and_split h
      obtain ⟨h7, h8⟩ := and_split h
      have e1 := of_decide_eq_true h1
      subst e1
      have e2 := of_decide_eq_true h2
      have hv : ∀ i ∈ G.slots g, i ∈ vs := fun i hi => by simpa using List.all_eq_true.mp h6 i hi
      have hb : BlkOk X.N X.env.scope scope (ownOf c.N vs) := by rw [ok.N, ok.sc]; exact blkOk_by h3
      have hfold : ∀ x, foldedSetIterable iter X.env x = pure x := fun x => by
        cases it <;> first | exact fold_of (chk_plain h4) _ _ | (cases iter <;> first | rfl | cases h4)
      have core : PE X (.DictComp kx vx [⟨tg, iter, [], 0⟩] scope pos) (tDcT (tIt X.K (callD T.defs W k) it) (tG X.K g) (tE X.K (callD T.defs W k) kk) (tE X.K (callD T.defs W k) vv) ((ownOf c.N vs).map (·.2))) :=
        pe_dcT (by have := ok.hu; omega) ok.calm (by rw [ok.N]; exact ok.nd) (sndIt it c tg iter h4 X ok) hb (fun s H C cl fp => sndG g _ tg h5 _ (ok.blk s H scope C cl fp)) (fun s H C cl fp => sndE kk _ kx h7 _ (ok.blk s H scope C cl fp)) (fun s H C cl fp => sndE vv _ vx h8 _ (ok.blk s H scope C cl fp)) hfold
      rw [e2] at core
      exact PE.imp core fun σ H Q h => i_dcomp hv h
  | .b1 f a, c, t, h, X, ok => by
    cases t <;> first | (cases h; done) | skip
    rename_i fn as ks pos
    cases fn <;> first | (cases h; done) | skip
    rename_i x pn
    match as, ks, h with
    | [y], [], h =>
      obtain ⟨h1, h⟩ := and_split (show (decide (x = f.nm) && (glB c x && chkE T a c y)) = true from h)
      obtain ⟨h2, h3⟩ := and_split h
      have e1 := of_decide_eq_true h1
      subst e1
      have hA := pa_cons (sndE a c y h3 X ok) pa_nil (star_of (chk_plain h3) _ _)
      have hs := star_of (chk_plain h3) [] X.env
      have hm := ok.blt _ (b1_in f)
      obtain ⟨n1, n2⟩ := b1_ne f
      cases f with
      | len => exact PE.imp (pe_callB b1_len (ok.gl h2) hm (boot_b1 .len) hA n1 n2 hs rfl) fun σ H Q => i_b1
      | int => exact PE.imp (pe_callTy b1_int (ok.gl h2) hm (boot_b1 .int) hA n1 n2 hs rfl) fun σ H Q => i_b1
      | abs => exact PE.imp (pe_callB b1_abs (ok.gl h2) hm (boot_b1 .abs) hA n1 n2 hs rfl) fun σ H Q => i_b1
      | tuple => exact PE.imp (pe_callTy b1_tuple (ok.gl h2) hm (boot_b1 .tuple) hA n1 n2 hs rfl) fun σ H Q => i_b1
      | list => exact PE.imp (pe_callTy b1_list (ok.gl h2) hm (boot_b1 .list) hA n1 n2 hs rfl) fun σ H Q => i_b1
      | sum => exact PE.imp (pe_callB (b1_sum ok.calm) (ok.gl h2) hm (boot_b1 .sum) hA n1 n2 hs rfl) fun σ H Q => i_b1
      | any => exact PE.imp (pe_callB (b1_any ok.calm) (ok.gl h2) hm (boot_b1 .any) hA n1 n2 hs rfl) fun σ H Q => i_b1
      | all => exact PE.imp (pe_callB (b1_all ok.calm) (ok.gl h2) hm (boot_b1 .all) hA n1 n2 hs rfl) fun σ H Q => i_b1
      | sorted => exact PE.imp (pe_callB (b1_sorted ok.calm (by have := ok.hu; omega)) (ok.gl h2) hm (boot_b1 .sorted) hA n1 n2 hs rfl) fun σ H Q => i_b1
      | smin => exact PE.imp (pe_callB (b1_smin ok.calm (by have := ok.hu; omega)) (ok.gl h2) hm (boot_b1 .smin) hA n1 n2 hs rfl) fun σ H Q => i_b1
      | smax => exact PE.imp (pe_callB (b1_smax ok.calm) (ok.gl h2) hm (boot_b1 .smax) hA n1 n2 hs rfl) fun σ H Q => i_b1
  | .b2 f a b, c, t, h, X, ok => by
    cases t <;> first | (cases h; done) | skip
    rename_i fn as ks pos
    cases fn <;> first | (cases h; done) | skip
    rename_i x pn
    match as, ks, h with
    | [y, z], [], h =>
      obtain ⟨h1, h⟩ := and_split (show (decide (x = f.nm) && (glB c x && (chkE T a c y && chkE T b c z))) = true from h)
      obtain ⟨h2, h⟩ := and_split h
      obtain ⟨h3, h4⟩ := and_split h
      have e1 := of_decide_eq_true h1
      subst e1
      have hA := pa_cons (sndE a c y h3 X ok) (pa_cons (sndE b c z h4 X ok) pa_nil (star_of (chk_plain h4) _ _)) (star_of (chk_plain h3) _ _)
      have hs := star_of (chk_plain h3) [z] X.env
      have hp : (backTo pos (starEach [z] X.env)).any (·.1) = false := by rw [star_of (chk_plain h4)]; rfl
      have hm := ok.blt _ (b2_in f)
      obtain ⟨n1, n2⟩ := b2_ne f
      cases f with
      | max => exact PE.imp (pe_callB (b2_max ok.calm) (ok.gl h2) hm (boot_b2 .max) hA n1 n2 hs hp) fun σ H Q => i_b2
      | min => exact PE.imp (pe_callB (b2_min ok.calm) (ok.gl h2) hm (boot_b2 .min) hA n1 n2 hs hp) fun σ H Q => i_b2
  | .isi a ty, c, t, h, X, ok => by
    cases t <;> first | (cases h; done) | skip
    rename_i fn as ks pos
    cases fn <;> first | (cases h; done) | skip
    rename_i x pn
    match as, ks, h with
    | [y, .Name z pz], [], h =>
      obtain ⟨h1, h⟩ := and_split (show (decide (x = ("isinstance" : Str)) && (glB c x && (decide (z = ty.nm) && (glB c z && chkE T a c y)))) = true from h)
      obtain ⟨h2, h⟩ := and_split h
      obtain ⟨h3, h⟩ := and_split h
      obtain ⟨h4, h5⟩ := and_split h
      have e1 := of_decide_eq_true h1
      have e2 := of_decide_eq_true h3
      subst e1 e2
      obtain ⟨n1, n2⟩ := ty_ne ty
      have hty : PE X (.Name ty.nm pz) (tC (.ty ty.py)) := pe_bltn (ok.gl h4) (ok.blt _ (ty_in ty)) (boot_ty ty) rfl n1 n2
      have hA := pa_cons (sndE a c y h5 X ok) (pa_cons hty pa_nil rfl) (star_of (chk_plain h5) _ _)
      exact PE.imp (pe_callB (isi_D ty) (ok.gl h2) (ok.blt _ (by decide +kernel)) (by decide +kernel) hA (by decide +kernel) (by decide +kernel) (star_of (chk_plain h5) _ _) rfl) fun σ H Q => i_isi
  | .call f es, c, t, h, X, ok => by
    cases t <;> first | (cases h; done) | skip
    rename_i fn as ks pos
    cases fn <;> first | (cases h; done) | skip
    rename_i x pn
    match as, ks, h with
    | y :: ys, [], h =>
      obtain ⟨h1, h⟩ := and_split (show (glB c x && (okN x && ((match T.defs[f]? with
        | some d => decide (d.name = x)
        | none => false) && chkEs T es c (y :: ys)))) = true from h)
      obtain ⟨h2, h⟩ := and_split h
      obtain ⟨h3, h4⟩ := and_split h
      cases hd : T.defs[f]? with
      | none => rw [hd] at h3; cases h3
      | some d =>
        rw [hd] at h3
        have e1 := of_decide_eq_true h3
        subst e1
        obtain ⟨fa, fd, ps, F, hm, hk, hb⟩ := ok.funs f d hd
        have hst : starEach (y :: ys) X.env = (false, eval y X.env) :: starEach ys X.env ∧ (backTo pos (starEach ys X.env)).any (·.1) = false := by
          cases es with
          | nil => cases h4
          | cons e0 es0 =>
            obtain ⟨h5, h6⟩ := and_split (show (chkE T e0 c y && chkEs T es0 c ys) = true from h4)
            exact ⟨star_of (chk_plain h5) _ _, star_any _ _ h6⟩
        exact PE.imp (pe_call F ok.room (ok.gl h1) hm hk hb .nil pass0 (sndEs es c _ h4 X ok) (okN_of h2).1 hst.1 hst.2) fun σ H Q => i_call
  | .lcnt a b, c, t, h, X, ok => by
    match t, h with
    | .Call (.Attribute (.Name x p) m apos) [y] [] cpos, h =>
      obtain ⟨h1, h⟩ := and_split (show (decide (m = ("count" : Str)) && ((apos.endLine == cpos.line) && (chkE T a c (.Name x p) && chkE T b c y))) = true from h)
      obtain ⟨h2, h⟩ := and_split h
      obtain ⟨h3, h4⟩ := and_split h
      have e1 := of_decide_eq_true h1
      subst e1
      exact PE.imp (pe_bm PySem.F.plainAttrs_list PySem.F.slot_list_count PySem.F.type_list_count mt_cntD (sndE a c _ h3 X ok) (pa_cons (sndE b c y h4 X ok) pa_nil (star_of (chk_plain h4) _ _)) rfl (mt_few (chk_plain h4) _ _) h2 (star_of (chk_plain h4) _ _) rfl) fun σ H Q => i_lcnt
  | .lidx a b, c, t, h, X, ok => by
    match t, h with
    | .Call (.Attribute (.Name x p) m apos) [y] [] cpos, h =>
      obtain ⟨h1, h⟩ := and_split (show (decide (m = ("index" : Str)) && ((apos.endLine == cpos.line) && (chkE T a c (.Name x p) && chkE T b c y))) = true from h)
      obtain ⟨h2, h⟩ := and_split h
      obtain ⟨h3, h4⟩ := and_split h
      have e1 := of_decide_eq_true h1
      subst e1
      exact PE.imp (pe_bm PySem.F.plainAttrs_list PySem.F.slot_list_index PySem.F.type_list_index (mt_idxD ok.hu) (sndE a c _ h3 X ok) (pa_cons (sndE b c y h4 X ok) pa_nil (star_of (chk_plain h4) _ _)) rfl (mt_few (chk_plain h4) _ _) h2 (star_of (chk_plain h4) _ _) rfl) fun σ H Q => i_lidx
  | .dget a b d, c, t, h, X, ok => by
    match t, h with
    | .Call (.Attribute (.Name x p) m apos) [y, z] [] cpos, h =>
      obtain ⟨h1, h⟩ := and_split (show (decide (m = ("get" : Str)) && ((apos.endLine == cpos.line) && (chkE T a c (.Name x p) && (chkE T b c y && chkE T d c z)))) = true from h)
      obtain ⟨h2, h⟩ := and_split h
      obtain ⟨h3, h⟩ := and_split h
      obtain ⟨h4, h5⟩ := and_split h
      have e1 := of_decide_eq_true h1
      subst e1
      have hu := ok.hu
      refine PE.imp (pe_dget2 (by omega) (sndE a c _ h3 X ok) (sndE b c y h4 X ok) (sndE d c z h5 X ok) ⟨rfl, mt_two (chk_plain h4) (chk_plain h5) _ _, h2, ?_⟩) fun σ H Q => i_dget
      rw [star_of (chk_plain h4), star_of (chk_plain h5)]
      rfl
  | .dix a b, c, t, h, X, ok => by
    cases t <;> first | (cases h; done) | skip
    rename_i x y pos
    obtain ⟨h1, h2⟩ := and_split (show (chkE T a c x && chkE T b c y) = true from h)
    have hu := ok.hu
    exact PE.imp (pe_dget (by omega) (sndE a c x h1 X ok) (sndE b c y h2 X ok) (nosl_of (chk_plain h2))) fun σ H Q => i_dix
  | .din n a b, c, t, h, X, ok => by
    cases t <;> first | (cases h; done) | skip
    rename_i l ps rs pos
    match ps, rs, h with
    | [p], [r], h =>
      obtain ⟨h1, h2⟩ := and_split (show (copB (if n = true then .nin else .inn) p && (chkE T a c l && chkE T b c r)) = true from h)
      obtain ⟨h3, h4⟩ := and_split h2
      have hu := ok.hu
      rw [copB_eq h1]
      cases n with
      | false => exact PE.imp (pe_cmp (pc_din (by omega) (sndE a c l h3 X ok) (sndE b c r h4 X ok)) (mark_of (chk_plain h4) _)) fun σ H Q => i_dinF
      | true => exact PE.imp (pe_cmp (pc_dnotin (by omega) (sndE a c l h3 X ok) (sndE b c r h4 X ok)) (mark_of (chk_plain h4) _)) fun σ H Q => i_dinT
  | .dkeys a, c, t, h, X, ok => by
    match t, h with
    | .Call (.Name x pn) [y] [] pos, h =>
      obtain ⟨h1, h⟩ := and_split (show (decide (x = ("list" : Str)) && (glB c x && chkE T a c y)) = true from h)
      obtain ⟨h2, h3⟩ := and_split h
      have e1 := of_decide_eq_true h1
      subst e1
      have hA := pa_cons (sndE a c y h3 X ok) pa_nil (star_of (chk_plain h3) _ _)
      have hs := star_of (chk_plain h3) [] X.env
      obtain ⟨n1, n2⟩ := b1_ne .list
      exact PE.imp (pe_callTy (call_keys ok.calm) (ok.gl h2) (ok.blt _ (b1_in .list)) (boot_b1 .list) hA n1 n2 hs rfl) fun σ H Q ⟨ρ, S, F, α, r, S', he, w, ev, q⟩ => i_dkeysN (tE.n l_dkeys he w ev q)
theorem sndEs {T : Tab} {W k : Nat} : ∀ (es : Es) (c : Ctx) (ts : List Expr), chkEs T es c ts = true → ∀ (X : Cx), XOk T W k c X → PA X ts (tEs X.K (callD T.defs W k) es)
  | .nil, c, ts, h, X, ok => by
    cases ts with
    | cons _ _ => cases h
    | nil => exact PA.imp pa_nil fun σ H Q => i_esNil
  | .cons e es, c, ts, h, X, ok => by
    cases ts with
    | nil => cases h
    | cons t r =>
      obtain ⟨h1, h2⟩ := and_split (show (chkE T e c t && chkEs T es c r) = true from h)
      exact PA.imp (pa_cons (sndE e c t h1 X ok) (sndEs es c r h2 X ok) (star_of (chk_plain h1) _ _)) fun σ H Q => i_esCons
theorem sndIt {T : Tab} {W k : Nat} : ∀ (it : It) (c : Ctx) (tg t : Expr), chkIt T it c tg t = true → ∀ (X : Cx), XOk T W k c X → PI X tg t (tIt X.K (callD T.defs W k) it)
  | .rng1 a, c, tg, t, h, X, ok => by
    cases t <;> first | (cases h; done) | skip
    rename_i fn as ks pos
    cases fn <;> first | (cases h; done) | skip
    rename_i x pn
    match as, ks, h with
    | [y], [], h =>
      obtain ⟨h1, h⟩ := and_split (show (decide (x = ("range" : Str)) && (glB c x && chkE T a c y)) = true from h)
      obtain ⟨h2, h3⟩ := and_split h
      have e1 := of_decide_eq_true h1
      subst e1
      have hs := star_of (chk_plain h3) [] X.env
      refine PI.imp (pi_range1 (ok.gl h2) (ok.blt _ (by decide +kernel)) (pa_cons (sndE a c y h3 X ok) pa_nil (star_of (chk_plain h3) _ _)) hs) fun σ H R ⟨ρ, S, F, α, J, S', he, w, ev, q⟩ => ?_
      simp only [evIt] at ev
      split at ev
      · rename_i j s1 h4
        split at ev
        · rename_i h5
          cases ev
          obtain ⟨b1, b2⟩ := and_split (show (decide (-(2 ^ 62) ≤ j) && decide (j < 2 ^ 62)) = true from h5)
          exact ⟨ρ, S, F, α, _, _, he, w, h4, fun v H1 F1 α1 x1 w1 r1 => ⟨j, by rw [rep_int r1], of_decide_eq_true b1, of_decide_eq_true b2, q _ _ _ _ x1 w1 (it_rng 0 _)⟩⟩
        · cases ev
      · cases ev
  | .rng2 a b, c, tg, t, h, X, ok => by
    cases t <;> first | (cases h; done) | skip
    rename_i fn as ks pos
    cases fn <;> first | (cases h; done) | skip
    rename_i x pn
    match as, ks, h with
    | [y, z], [], h =>
      obtain ⟨h1, h⟩ := and_split (show (decide (x = ("range" : Str)) && (glB c x && (chkE T a c y && chkE T b c z))) = true from h)
      obtain ⟨h2, h⟩ := and_split h
      obtain ⟨h3, h4⟩ := and_split h
      have e1 := of_decide_eq_true h1
      subst e1
      have hs2 : starEach [z] X.env = [(false, eval z X.env)] := star_of (chk_plain h4) [] X.env
      have hs : starEach [y, z] X.env = [(false, eval y X.env), (false, eval z X.env)] := by rw [star_of (chk_plain h3), hs2]
      refine PI.imp (pi_range2 (ok.gl h2) (ok.blt _ (by decide +kernel)) (pa_cons (sndE a c y h3 X ok) (pa_cons (sndE b c z h4 X ok) pa_nil (star_of (chk_plain h4) _ _)) (star_of (chk_plain h3) _ _)) hs hs2) fun σ H R ⟨ρ, S, F, α, J, S', he, w, ev, q⟩ => ?_
      simp only [evIt] at ev
      split at ev
      · rename_i i s1 h5
        split at ev
        · rename_i j s2 h6
          split at ev
          · rename_i h7
            cases ev
            obtain ⟨k1, k2⟩ := and_split h7
            obtain ⟨b1, b2⟩ := and_split (show (decide (-(2 ^ 62) ≤ i) && decide (i < 2 ^ 62)) = true from k1)
            obtain ⟨b3, b4⟩ := and_split (show (decide (-(2 ^ 62) ≤ j) && decide (j < 2 ^ 62)) = true from k2)
            exact ⟨ρ, S, F, α, _, _, he, w, h5, fun v H1 F1 α1 x1 w1 r1 => ⟨ρ, _, F1, α1, _, _, he.mono x1, w1, h6, fun u H2 F2 α2 x2 w2 r2 => ⟨i, j, by rw [rep_int r1, rep_int r2], ⟨of_decide_eq_true b1, of_decide_eq_true b2, of_decide_eq_true b3, of_decide_eq_true b4⟩, q _ _ _ _ (x1.trans x2) w2 (it_rng i _)⟩⟩⟩
          · cases ev
        · cases ev
      · cases ev
  | .rng3 a b d, c, tg, t, h, X, ok => by
    cases t <;> first | (cases h; done) | skip
    rename_i fn as ks pos
    cases fn <;> first | (cases h; done) | skip
    rename_i x pn
    match as, ks, h with
    | [y, z, u], [], h =>
      obtain ⟨h1, h⟩ := and_split (show (decide (x = ("range" : Str)) && (glB c x && (chkE T a c y && (chkE T b c z && chkE T d c u)))) = true from h)
      obtain ⟨h2, h⟩ := and_split h
      obtain ⟨h3, h⟩ := and_split h
      obtain ⟨h4, h5⟩ := and_split h
      have e1 := of_decide_eq_true h1
      subst e1
      have hs2 : (backTo pos (starEach [z, u] X.env)).any (·.1) = false := by
        rw [star_of (chk_plain h4), star_of (chk_plain h5)]; rfl
      refine PI.imp (pi_range3 (ok.gl h2) (ok.blt _ (by decide +kernel)) (pa_cons (sndE a c y h3 X ok) (pa_cons (sndE b c z h4 X ok) (pa_cons (sndE d c u h5 X ok) pa_nil (star_of (chk_plain h5) _ _)) (star_of (chk_plain h4) _ _)) (star_of (chk_plain h3) _ _)) (star_of (chk_plain h3) _ _) hs2) fun σ H R ⟨ρ, S, F, α, J, S', he, w, ev, q⟩ => ?_
      simp only [evIt] at ev
      split at ev
      · rename_i i s1 h5
        split at ev
        · rename_i j s2 h6
          split at ev
          · rename_i l s3 h8
            split at ev
            · rename_i h7
              cases ev
              obtain ⟨k1, k3⟩ := and_split h7
              obtain ⟨k1, k2⟩ := and_split k1
              obtain ⟨b1, b2⟩ := and_split (show (decide (-(2 ^ 62) ≤ i) && decide (i < 2 ^ 62)) = true from k1)
              obtain ⟨b3, b4⟩ := and_split (show (decide (-(2 ^ 62) ≤ j) && decide (j < 2 ^ 62)) = true from k2)
              have e3 := of_decide_eq_true k3
              subst e3
              exact ⟨ρ, S, F, α, _, _, he, w, h5, fun v H1 F1 α1 x1 w1 r1 => ⟨ρ, _, F1, α1, _, _, he.mono x1, w1, h6, fun u H2 F2 α2 x2 w2 r2 => ⟨ρ, _, F2, α2, _, _, he.mono (x1.trans x2), w2, h8, fun u3 H3 F3 α3 x3 w3 r3 =>
                ⟨i, j, -1, _, by rw [rep_int r1, rep_int r2, rep_int r3], RgC.neg (of_decide_eq_true b1) (of_decide_eq_true b2) (of_decide_eq_true b3) (of_decide_eq_true b4), q _ _ _ _ (x1.trans (x2.trans x3)) w3 (it_rngC i (-1) _)⟩⟩⟩⟩
            · cases ev
          · cases ev
        · cases ev
      · cases ev
  | .seq a, c, tg, t, h, X, ok => by
    have h' : chkE T a c t = true := h
    refine PI.or (pi_list (sndE a c t h' X ok)) (pi_tup (sndE a c t h' X ok)) fun σ H R ⟨ρ, S, F, α, J, S', he, w, ev, q⟩ => ?_
    simp only [evIt] at ev
    split at ev
    · cases ev
    · rename_i ra s1 h1
      split at ev
      · rename_i x h2
        split at ev
        · rename_i xs h3
          cases ev
          by_cases ht : ∃ ds, ra = .d (.tuple ds) ∨ ra = .kt ds
          · obtain ⟨ds, ht⟩ := ht
            refine .inr ⟨ρ, S, F, α, _, _, he, w, h1, fun v H1 F1 α1 x1 w1 r1 => ?_⟩
            rcases ht with rfl | rfl
            · cases (show Rep X.K F1 v _ from r1) with
              | tup ha ra' => exact ⟨_, rfl, ⟨_, SqT.of (w1.sub _ _ ha)⟩, q _ _ _ _ x1 w1 (it_tup (fun _ => rfl) (SqT.of ha) ra')⟩
            · obtain ⟨p, us, ep, ha, ra'⟩ := r1
              subst ep
              exact ⟨_, rfl, ⟨_, Evl.ex_t w1.sub ha⟩, q _ _ _ _ x1 w1 (it_tup (fun _ => rfl) ha ra')⟩
          · refine .inl ⟨ρ, S, F, α, _, _, he, w, h1, fun v H1 F1 α1 x1 w1 r1 => ?_⟩
            have hl : ∀ S d, viewS ra S = some d → seqOf d ≠ none → ∃ ds, d = .list ds := fun S d e hne => by
              cases ra with
              | d y =>
                have e' : y = d := Option.some.inj e
                subst e'
                cases y <;> first | exact ⟨_, rfl⟩ | exact (hne rfl).elim | exact (ht ⟨_, .inl rfl⟩).elim
              | loc n =>
                have e' : viewD (.loc n) S = some d := e
                simp only [viewD] at e'
                split at e' <;> cases e'
                exact ⟨_, rfl⟩
              | scr ns => cases e; exact ⟨_, rfl⟩
              | kt ys => exact (ht ⟨_, .inr rfl⟩).elim
              | dic _ _ => cases e
            obtain ⟨ds, rfl⟩ := hl _ _ h2 (by rw [h3]; simp)
            obtain ⟨a', vs, ea, hs, rs⟩ := w1.viewS r1 h2
            subst ea
            refine ⟨a', rfl, ⟨vs, hs⟩, q _ _ _ _ x1 w1 (it_list r1 fun S d e => ?_)⟩
            cases ra with
            | d y =>
              have e1 : y = d := Option.some.inj e
              have e2 : y = _ := Option.some.inj h2
              rw [← e1, e2]
              exact ⟨_, rfl⟩
            | loc n =>
              have e' : viewD (.loc n) S = some d := e
              simp only [viewD] at e'
              split at e' <;> cases e'
              exact ⟨_, rfl⟩
            | scr ns => cases e; exact ⟨_, rfl⟩
            | kt ys => exact (ht ⟨_, .inr rfl⟩).elim
            | dic _ _ => cases e
        · cases ev
      · cases ev
  | .zip a b, c, tg, t, h, X, ok => by
    cases t <;> first | (cases h; done) | skip
    rename_i fn as ks pos
    cases fn <;> first | (cases h; done) | skip
    rename_i x pn
    match as, ks, h with
    | [y, z], [], h =>
      obtain ⟨h1, h⟩ := and_split (show (decide (x = ("zip" : Str)) && (isTupE tg && (glB c x && (chkE T a c y && chkE T b c z)))) = true from h)
      obtain ⟨h0, h⟩ := and_split h
      obtain ⟨h2, h⟩ := and_split h
      obtain ⟨h3, h4⟩ := and_split h
      have e1 := of_decide_eq_true h1
      subst e1
      cases tg <;> first | (cases h0; done) | skip
      have hp : (backTo pos (starEach [z] X.env)).any (·.1) = false := by rw [star_of (chk_plain h4)]; rfl
      refine PI.imp (pi_zip (ok.gl h2) (ok.blt _ (by decide +kernel)) (pa_cons (sndE a c y h3 X ok) (pa_cons (sndE b c z h4 X ok) pa_nil (star_of (chk_plain h4) _ _)) (star_of (chk_plain h3) _ _)) (star_of (chk_plain h3) _ _) hp) fun σ H R ⟨ρ, S, F, α, J, S', he, w, ev, q⟩ => ?_
      simp only [evIt] at ev
      split at ev
      · cases ev
      · rename_i ra s1 h5
        split at ev
        · cases ev
        · rename_i rb s2 h6
          split at ev
          · rename_i xs ys h7 h8
            cases ev
            refine ⟨ρ, S, F, α, _, _, he, w, h5, fun v H1 F1 α1 x1 w1 r1 => ⟨ρ, _, F1, α1, _, _, he.mono x1, w1, h6, fun u H2 F2 α2 x2 w2 r2 => ?_⟩⟩
            obtain ⟨a', vs, ea, hs, rs⟩ := listOf_view w2 (r1.mono x2) h7
            obtain ⟨b', us, eb, ht, rt⟩ := listOf_view w2 r2 h8
            subst ea eb
            exact ⟨a', b', vs, us, rfl, SqL.of hs, SqL.of ht, q _ _ _ _ (x1.trans x2) w2 (it_zip (r1.mono x2) r2)⟩
          · cases ev
theorem sndT {T : Tab} {W k : Nat} : ∀ (e : E) (c : Ctx) (t : Expr), chkE T e c t = true → tstOk e = true → ∀ (X : Cx), XOk T W k c X → PT X t (tT X.K (callD T.defs W k) e)
  | .not a, c, t, h, hk, X, ok => by
    cases t <;> first | (cases h; done) | skip
    rename_i p l pos
    cases p <;> first | (cases h; done) | skip
    exact PT.imp (pt_not (sndT a c l h hk X ok)) fun σ H Q => i_notT
  | .and a b, c, t, h, hk, X, ok => by
    cases t <;> first | (cases h; done) | skip
    rename_i p l pos
    cases p <;> first | (cases h; done) | skip
    obtain ⟨k1, k2⟩ := and_split (show (tstOk a && tstOk b) = true from hk)
    match l, h with
    | x :: y :: r, h =>
      obtain ⟨h1, h2⟩ := and_split (show (chkE T a c x && chkE T b c (match (generalizing := false) r with | [] => y | _ => .BoolOp .And (y :: r) pos)) = true from h)
      cases r with
      | nil => exact PT.imp (pw_and (sndT a c x h1 k1 X ok) (pw_and1 (sndT b c y h2 k2 X ok))).pt fun σ H Q => i_andT
      | cons z r => exact PT.imp (pw_and (sndT a c x h1 k1 X ok) (boolW (sndT b c _ h2 k2 X ok))).pt fun σ H Q => i_andT
  | .or a b, c, t, h, hk, X, ok => by
    cases t <;> first | (cases h; done) | skip
    rename_i p l pos
    cases p <;> first | (cases h; done) | skip
    obtain ⟨k1, k2⟩ := and_split (show (tstOk a && tstOk b) = true from hk)
    match l, h with
    | x :: y :: r, h =>
      obtain ⟨h1, h2⟩ := and_split (show (chkE T a c x && chkE T b c (match (generalizing := false) r with | [] => y | _ => .BoolOp .Or (y :: r) pos)) = true from h)
      cases r with
      | nil => exact PT.imp (pw_or (sndT a c x h1 k1 X ok) (pw_or1 (sndT b c y h2 k2 X ok))).pt fun σ H Q => i_orT
      | cons z r => exact PT.imp (pw_or (sndT a c x h1 k1 X ok) (boolW (sndT b c _ h2 k2 X ok))).pt fun σ H Q => i_orT
  | .cmp o a b, c, t, h, hk, X, ok => by
    cases t <;> first | (cases h; done) | skip
    rename_i l ps rs pos
    match ps, rs, h with
    | [p], [r], h =>
      obtain ⟨h1, h2⟩ := and_split (show (copB o p && (chkE T a c l && chkE T b c r)) = true from h)
      obtain ⟨h3, h4⟩ := and_split h2
      rw [copB_eq h1]
      exact PT.imp (pt_cmpR (op_cmp ok.hu o) (sndE a c l h3 X ok) (sndE b c r h4 X ok) (mark_of (chk_plain h4) _)) fun σ H Q => i_cmpT
  | .chain o p a b d, c, t, h, hk, X, ok => by
    cases t <;> first | (cases h; done) | skip
    rename_i l ps rs pos
    match ps, rs, h with
    | [q, q'], [r, r'], h =>
      obtain ⟨h1, h2⟩ := and_split (show (copB o q && (copB p q' && (chkE T a c l && (chkE T b c r && chkE T d c r')))) = true from h)
      obtain ⟨h3, h4⟩ := and_split h2
      obtain ⟨h5, h6⟩ := and_split h4
      obtain ⟨h7, h8⟩ := and_split h6
      rw [copB_eq h1, copB_eq h3]
      exact PT.imp (pt_chain (op_cmp ok.hu o) (op_cmp ok.hu p) (sndE a c l h5 X ok) (sndE b c r h7 X ok) (sndE d c r' h8 X ok) (mark_of (chk_plain h8) _)) fun σ H Q => i_chainT
  | .ite d a b, c, t, h, hk, X, ok => by cases hk
  | .var i, c, t, h, hk, X, ok => t_val (sndE (.var i) c t h X ok) (by cases t <;> first | (cases h; done) | (intro _; rfl))
  | .glob y v, c, t, h, hk, X, ok => t_val (sndE (.glob y v) c t h X ok) (by cases t <;> first | (cases h; done) | (intro _; rfl))
  | .int i, c, t, h, hk, X, ok => t_val (sndE (.int i) c t h X ok) (by cases t <;> first | (cases h; done) | (intro _; rfl))
  | .bl i, c, t, h, hk, X, ok => t_val (sndE (.bl i) c t h X ok) (by cases t <;> first | (cases h; done) | (intro _; rfl))
  | .non, c, t, h, hk, X, ok => t_val (sndE .non c t h X ok) (by cases t <;> first | (cases h; done) | (intro _; rfl))
  | .str i, c, t, h, hk, X, ok => t_val (sndE (.str i) c t h X ok) (by cases t <;> first | (cases h; done) | (intro _; rfl))
  | .bin o a b, c, t, h, hk, X, ok => t_val (sndE (.bin o a b) c t h X ok) (by cases t <;> first | (cases h; done) | (intro _; rfl))
  | .neg a, c, t, h, hk, X, ok => t_val (sndE (.neg a) c t h X ok) (by
    cases t <;> first | (cases h; done) | skip
    rename_i p l pos
    cases p <;> first | (cases h; done) | (intro _; rfl))
  | .ix a b, c, t, h, hk, X, ok => t_val (sndE (.ix a b) c t h X ok) (by cases t <;> first | (cases h; done) | (intro _; rfl))
  | .slo a b, c, t, h, hk, X, ok => t_val (sndE (.slo a b) c t h X ok) (by cases t <;> first | (cases h; done) | (intro _; rfl))
  | .shi a b, c, t, h, hk, X, ok => t_val (sndE (.shi a b) c t h X ok) (by cases t <;> first | (cases h; done) | (intro _; rfl))
  | .rev a, c, t, h, hk, X, ok => t_val (sndE (.rev a) c t h X ok) (by cases t <;> first | (cases h; done) | (intro _; rfl))
  | .tup es, c, t, h, hk, X, ok => t_val (sndE (.tup es) c t h X ok) (by cases t <;> first | (cases h; done) | (intro _; rfl))
  | .lst es, c, t, h, hk, X, ok => t_val (sndE (.lst es) c t h X ok) (by cases t <;> first | (cases h; done) | (intro _; rfl))
  | .comp g vs it hc d e, c, t, h, hk, X, ok => t_val (sndE (.comp g vs it hc d e) c t h X ok) (by cases t <;> first | (cases h; done) | (intro _; rfl))
  | .dcomp g vs it kk vv, c, t, h, hk, X, ok => t_val (sndE (.dcomp g vs it kk vv) c t h X ok) (by cases t <;> first | (cases h; done) | (intro _; rfl))
  | .b1 f a, c, t, h, hk, X, ok => t_val (sndE (.b1 f a) c t h X ok) (by cases t <;> first | (cases h; done) | (intro _; rfl))
  | .b2 f a b, c, t, h, hk, X, ok => t_val (sndE (.b2 f a b) c t h X ok) (by cases t <;> first | (cases h; done) | (intro _; rfl))
  | .isi a ty, c, t, h, hk, X, ok => t_val (sndE (.isi a ty) c t h X ok) (by cases t <;> first | (cases h; done) | (intro _; rfl))
  | .call f es, c, t, h, hk, X, ok => t_val (sndE (.call f es) c t h X ok) (by cases t <;> first | (cases h; done) | (intro _; rfl))
  | .lcnt a b, c, t, h, hk, X, ok => t_val (sndE (.lcnt a b) c t h X ok) (by cases t <;> first | (cases h; done) | (intro _; rfl))
  | .lidx a b, c, t, h, hk, X, ok => t_val (sndE (.lidx a b) c t h X ok) (by cases t <;> first | (cases h; done) | (intro _; rfl))
  | .dget a b d, c, t, h, hk, X, ok => t_val (sndE (.dget a b d) c t h X ok) (by cases t <;> first | (cases h; done) | (intro _; rfl))
  | .dix a b, c, t, h, hk, X, ok => t_val (sndE (.dix a b) c t h X ok) (by cases t <;> first | (cases h; done) | (intro _; rfl))
  | .dkeys a, c, t, h, hk, X, ok => t_val (sndE (.dkeys a) c t h X ok) (by cases t <;> first | (cases h; done) | (intro _; rfl))
  | .din n a b, c, t, h, hk, X, ok => by
    cases t <;> first | (cases h; done) | skip
    rename_i l ps rs pos
    match ps, rs, h with
    | [p], [r], h =>
      obtain ⟨h1, h2⟩ := and_split (show (copB (if n = true then .nin else .inn) p && (chkE T a c l && chkE T b c r)) = true from h)
      obtain ⟨h3, h4⟩ := and_split h2
      have hu := ok.hu
      rw [copB_eq h1]
      cases n with
      | false => exact PT.imp (pt_cmp (pc_din (by omega) (sndE a c l h3 X ok) (sndE b c r h4 X ok)) (mark_of (chk_plain h4) _)) fun σ H Q => i_dinFT
      | true => exact PT.imp (pt_cmp (pc_dnotin (by omega) (sndE a c l h3 X ok) (sndE b c r h4 X ok)) (mark_of (chk_plain h4) _)) fun σ H Q => i_dinTT
end
end PC
end
section
/-! PcSndS: the statements. -/
namespace PC
open PySem PySem.Spec PyProof.Rows L2

def PostS (K : PySem.W.Frag) (F : Hp) (α : List Addr) (D : Ends) : Out → Prop
  | .nx ρ' S' => ∀ σ' H' F' α', Ext F α F' α' → SW K H' S' F' α' → EnvOk K F' α' σ' ρ' → D.nx σ' H'
  | .rt r S' => ∀ v H' F' α', Ext F α F' α' → SW K H' S' F' α' → RepR K F' α' v r → D.rt v H'
def tS (K : PySem.W.Frag) (C : Call) (W : Nat) (st : S) : TS := fun D σ H => ∃ ρ S F α o, EnvOk K F α σ ρ ∧ SW K H S F α ∧ exS C W st ρ S = some o ∧ PostS K F α D o
def tSs (K : PySem.W.Frag) (C : Call) (W : Nat) (st : Ss) : TS := fun D σ H => ∃ ρ S F α o, EnvOk K F α σ ρ ∧ SW K H S F α ∧ exSs C W st ρ S = some o ∧ PostS K F α D o
theorem PostS.mono {K : PySem.W.Frag} {F F' : Hp} {α α' : List Addr} {D : Ends} {o : Out} (h : PostS K F α D o) (x : Ext F α F' α') : PostS K F' α' D o := by
  cases o with
  | nx ρ S => exact fun σ' H' F2 α2 x2 => h σ' H' F2 α2 (x.trans x2)
  | rt r S => exact fun v H' F2 α2 x2 => h v H' F2 α2 (x.trans x2)

/-! ### what is checked -/
def swNames (sc : Scope) (ts : List Expr) : List Str :=
  let line := (ts.head?.map (·.pos.line)).getD 0
  ts.filterMap fun
    | .Name id pos => if sc.names.lookup id == some .local && pos.line == line then some id else none
    | _ => none
def swB (sc scope : Scope) (x : Str) (l1 l2 : Nat) : Bool := sc.names.lookup x == some .local && l1 == l2 && !(scope.names.any fun (n, k) => n == x && (k == .local || k == .cell))
def chkNames (c : Ctx) : List Nat → List Expr → Bool
  | [], ts => ts.isEmpty
  | i :: is, ts => match ts with
    | .Name x p :: r => chkG (.name i) c (.Name x p) && chkNames c is r
    | _ => false
/-- the tuple's stores are not swapped -/
def nswB (sc : Scope) (ts vs : List Expr) : Bool := (swNames sc ts).length != ts.length || (swNames sc ts).eraseDups.length != (swNames sc ts).length || vs.all (foldedForSure 8)
/-- they are, plainly -/
def yswB (sc : Scope) (ts vs : List Expr) (ns : List Str) : Bool := !((swNames sc ts).length != ts.length || (swNames sc ts).eraseDups.length != (swNames sc ts).length) && (!vs.all (foldedForSure 8) && (!vs.all (constantsAlone 8) && decide (swNames sc ts = ns)))
def isCall : Expr → Bool
  | .Call _ _ _ _ => true
  | _ => false
def isComp : Expr → Bool
  | .ListComp _ _ _ _ => true
  | _ => false
def isDC : Expr → Bool
  | .DictComp _ _ _ _ _ => true
  | _ => false
def fresh (T : Tab) : E → Bool
  | .call f _ => (match T.defs[f]? with
    | some d => d.fin.isSome
    | none => false)
  | .lst _ => true
  | .bin _ _ _ => true
  | .comp _ _ _ _ _ _ => true
  | .b1 .list _ => true
  | .b1 .sorted _ => true
  | .dkeys _ => true
  | _ => false
def augOk : Bop → Bool
  | .pow => false
  | _ => true
def localB (c : Ctx) (x : Str) : Bool := c.sc.names.lookup x == some .local
def locNames (c : Ctx) : List Expr → Bool
  | [] => true
  | t :: r => match t with
    | .Name x _ => localB c x && locNames c r
    | _ => false
def nmsOf : List Expr → List Str
  | [] => []
  | t :: r => match t with
    | .Name x _ => x :: nmsOf r
    | _ => []
def parOk (c : Ctx) (is : List Nat) (ts vs : List Expr) : Bool := decide (vs.length = ts.length) && ((is.length == 2 || is.length == 3) && (nswB c.sc ts vs || (yswB c.sc ts vs (nmsOf ts) && (decide is.Nodup && locNames c ts))))
mutual
def chkS (T : Tab) : S → Ctx → Stmt → Bool
  | .asg g e, c, st => match st with
    | .Assign [tg] t _ => chkE T e c t && (chkG g c tg && ((!(isTupE tg && isTupE t)) && !isDC t))
    | _ => false
  | .thaw i e, c, st => match st with
    | .Assign [.Name x p] t _ => fresh T e && (chkE T e c t && chkG (.name i) c (.Name x p))
    | _ => false
  | .par is es, c, st => match st with
    | .Assign [.Tuple ts _ _] (.Tuple vs _ _) _ => chkEs T es c vs && (chkNames c is ts && parOk c is ts vs)
    | _ => false
  | .aug i o e, c, st => match st with
    | .AugAssign (.Name x p) op t _ => bopB o op && (augOk o && (chkE T e c t && (chkG (.name i) c (.Name x p) && visB c x)))
    | _ => false
  | .seti a b e, c, st => match st with
    | .Assign [.Subscript x y _] t _ => chkE T e c t && (chkE T a c x && chkE T b c y)
    | _ => false
  | .augi a b o e, c, st => match st with
    | .AugAssign (.Subscript x y _) op t _ => bopB o op && (augOk o && (chkE T e c t && (chkE T a c x && chkE T b c y)))
    | _ => false
  | .if_ d t f, c, st => match st with
    | .If x p q _ => tstOk d && (chkE T d c x && (chkSs T t c p && chkSs T f c q))
    | _ => false
  | .whl d b, c, st => match st with
    | .While x p [] _ => tstOk d && (chkE T d c x && chkSs T b c p)
    | _ => false
  | .for_ g it b, c, st => match st with
    | .For tg t p [] _ => chkIt T it c tg t && (chkG g c tg && chkSs T b c p)
    | _ => false
  | .ret e, c, st => match st with
    | .Return (some t) _ => chkE T e c t
    | _ => false
  | .app a e, c, st => match st with
    | .Expr (.Call (.Attribute (.Name x p) m apos) [t] [] cpos) _ => decide (m = ("append" : Str)) && ((apos.endLine == cpos.line) && (chkE T a c (.Name x p) && chkE T e c t))
    | _ => false
  | .ext a e, c, st => match st with
    | .Expr (.Call (.Attribute (.Name x p) m apos) [t] [] cpos) _ => decide (m = ("extend" : Str)) && ((apos.endLine == cpos.line) && (chkE T a c (.Name x p) && chkE T e c t))
    | _ => false
  | .pop a, c, st => match st with
    | .Expr (.Call (.Attribute (.Name x p) m apos) [] [] cpos) _ => decide (m = ("pop" : Str)) && ((apos.endLine == cpos.line) && chkE T a c (.Name x p))
    | _ => false
  | .dnew i _, c, st => match st with
    | .Assign [.Name x p] (.Dict [] [] _) _ => chkG (.name i) c (.Name x p)
    | _ => false
  | .dset a b e, c, st => match st with
    | .Assign [.Subscript x y _] t _ => chkE T e c t && (chkE T a c x && chkE T b c y)
    | _ => false
  | .dupd a e, c, st => match st with
    | .Expr (.Call (.Attribute (.Name x p) m apos) [t] [] cpos) _ => decide (m = ("update" : Str)) && ((apos.endLine == cpos.line) && (chkE T a c (.Name x p) && chkE T e c t))
    | _ => false
  | .expr e, c, st => match st with
    | .Expr t _ => isCall t && chkE T e c t
    | _ => false
  | .parG gs es, c, st => match st with
    | .Assign [.Tuple ts _ _] (.Tuple vs _ _) _ => chkEs T es c vs && (chkGs gs c ts && (decide (vs.length = ts.length) && ((ts.length == 2 || ts.length == 3) && nswB c.sc ts vs)))
    | _ => false
  | .pass, _, st => match st with
    | .Pass _ => true
    | _ => false
  | .dead, _, _ => true
def chkSs (T : Tab) : Ss → Ctx → List Stmt → Bool
  | .nil, _, l => l.isEmpty
  | .cons s r, c, l => match l with
    | x :: xs => chkS T s c x && chkSs T r c xs
    | [] => false
end

structure XOkS (T : Tab) (W k : Nat) (c : Ctx) (X : Cx) : Prop extends XOk T W k c X where
  kind : c.sc.kind = .function
  never : X.xe = fun _ _ => False
section
variable {T : Tab} {W k : Nat} {c : Ctx} {X : Cx}
theorem XOkS.passes (ok : XOkS T W k c X) : PassesOwn (model X.prog X.w) X.A X.env X.xe := by rw [ok.never]; exact PassesOwn.never
theorem XOkS.bk (ok : XOkS T W k c X) : X.env.blockKind = .function := by unfold Env.blockKind; rw [ok.sc, ok.kind]; rfl
theorem XOkS.kd (ok : XOkS T W k c X) (x : Str) : X.env.kindOf x = c.sc.names.lookup x := by unfold Env.kindOf; rw [ok.sc]
theorem PS.imp {e : Stmt} {t t' : TS} (h : PS X e t) (w : ∀ D σ H, t' D σ H → t D σ H) : PS X e t' := ⟨fun pins s σ H D I q => h.run pins s σ H D I (w D σ H q)⟩
theorem PSs.imp {e : List Stmt} {t t' : TS} (h : PSs X e t) (w : ∀ D σ H, t' D σ H → t D σ H) : PSs X e t' := ⟨fun pins s σ H D I q => h.run pins s σ H D I (w D σ H q)⟩
theorem sw_plain {t : Expr} (h : isComp t = false) (hd : isDC t = false) (hp : plainE t = true) (tg : Option Expr) (l : Nat) (env : PySem.Env) : swapsWith t tg l env = pure false := by
  cases t <;> first | rfl | (cases h; done) | (cases hp; done) | (cases hd; done)
theorem dc_fresh {T : Tab} {e : E} {c : Ctx} {t : Expr} (hf : fresh T e = true) (h : chkE T e c t = true) : isDC t = false := by
  cases t <;> first | rfl | (cases e <;> first | (cases h; done) | (cases hf; done))
theorem sw_tup {ts : List Expr} {k : Nat} {p : Pos} (t : Expr) (hp : plainE t = true) (l : Nat) (env : PySem.Env) : swapsWith t (some (.Tuple ts k p)) l env = pure false := by
  cases t <;> first | rfl | (cases hp; done)
theorem sw_sub {a b : Expr} {p : Pos} (t : Expr) (hp : plainE t = true) (l : Nat) (env : PySem.Env) : swapsWith t (some (.Subscript a b p)) l env = pure false := by
  cases t <;> first | rfl | (cases hp; done)
theorem ss_name {x : Str} {p : Pos} (t : Expr) (env : PySem.Env) : swappedStores [.Name x p] t env = pure none := by cases t <;> rfl
theorem ss_sub {a b : Expr} {p : Pos} (t : Expr) (env : PySem.Env) : swappedStores [.Subscript a b p] t env = pure none := by cases t <;> rfl
theorem ss_tup {ts : List Expr} {k : Nat} {p : Pos} {t : Expr} (h : isTupE t = false) (env : PySem.Env) : swappedStores [.Tuple ts k p] t env = pure none := by
  cases t <;> first | rfl | (cases h; done)
theorem sw_comp (ok : XOkS T W k c X) {elt : Expr} {gs : List Comprehension} {scope : Scope} {pos py : Pos} {y : Str} {l : Nat} : swapsWith (.ListComp elt gs scope pos) (some (.Name y py)) l X.env = pure (swB c.sc scope y py.line pos.line) := by
  unfold swapsWith swB
  simp only [ok.bk, ok.kd, Expr.pos]
  rfl
theorem no_star {es : Es} : ∀ {vs : List Expr}, chkEs T es c vs = true → (vs.any fun | .Starred .. => true | _ => false) = false := by
  intro vs
  induction vs generalizing es with
  | nil => intro _; rfl
  | cons v vs ih =>
    intro h
    cases es with
    | nil => cases h
    | cons e es =>
      obtain ⟨h1, h2⟩ := and_split (show (chkE T e c v && chkEs T es c vs) = true from h)
      rw [List.any_cons, ih h2, Bool.or_false]
      have := chk_plain h1
      cases v <;> first | rfl | (cases this; done)
theorem ss_gen (ok : XOkS T W k c X) {ts vs : List Expr} {k1 k2 : Nat} {p1 p2 : Pos} (h1 : (ts.length == 2 || ts.length == 3) = true) (h2 : vs.length = ts.length) (h3 : (vs.any fun | .Starred .. => true | _ => false) = false) :
    swappedStores [.Tuple ts k1 p1] (.Tuple vs k2 p2) X.env = (if ((swNames c.sc ts).length != ts.length || (swNames c.sc ts).eraseDups.length != (swNames c.sc ts).length) = true then pure none else if vs.all (foldedForSure 8) = true then pure none
      else if vs.all (constantsAlone 8) = true then unsupported "assign.tuple-of-constant-expressions:order-of-the-stores" else pure (some (swNames c.sc ts))) := by
  have e0 : (!(ts.length == 2 || ts.length == 3) || vs.length != ts.length || X.env.blockKind != .function) = false := by
    rw [h1, h2, ok.bk]
    simp
  rw [← ok.sc]
  unfold swappedStores
  simp only []
  rw [if_neg (by rw [e0]; exact Bool.false_ne_true)]
  split
  · rename_i h
    exact absurd (h.symm.trans h3) (by decide)
  · split
    · rename_i h
      exact (if_pos h).symm
    · rename_i h
      refine Eq.trans ?_ (if_neg h).symm
      split
      · rfl
      · split
        · rfl
        · rfl
end
end PC
end
section
/-! PcSndS2: the statements' rules. -/
namespace PC
open PySem PySem.Spec PyProof.Rows L2
section
variable {T : Tab} {W k : Nat} {c : Ctx} {X : Cx}
theorem SW.cell2 {K : PySem.W.Frag} {F H : Hp} {α : List Addr} {S : Store} (w : SW K H S F α) {p : Addr} {vs : List V} {ds : List D} (hF : F p = none) (ha : p ∉ α) (hp : H p = some (.lst vs)) (r : Reps K F vs ds) :
    SW K H (S ++ [.lst ds]) F (α ++ [p]) ∧ Ext F α F (α ++ [p]) := by
  refine ⟨⟨w.sub, by simp [w.len], ?_, fun a hm => ?_, fun n a c h1 h2 => ?_⟩, Evl.Ex.refl F, List.prefix_append _ _⟩
  · rw [List.nodup_append]
    refine ⟨w.nd, by simp, fun a hm b hb => ?_⟩
    have : b = p := by simpa using hb
    subst this
    exact fun e => ha (e ▸ hm)
  · rcases List.mem_append.mp hm with hm | hm
    · exact w.out a hm
    · have : a = p := by simpa using hm
      subst this
      exact hF
  · by_cases hl : n < α.length
    · rw [List.getElem?_append_left hl] at h1
      rw [List.getElem?_append_left (w.len ▸ hl)] at h2
      exact w.cell n a c h1 h2
    · have hn2 : n = α.length := by
        have := (List.getElem?_eq_some_iff.mp h1).1
        simp at this
        omega
      subst hn2
      rw [List.getElem?_append_right (Nat.le_refl _)] at h1
      rw [w.len, List.getElem?_append_right (Nat.le_refl _)] at h2
      simp at h1 h2
      subst h1 h2
      exact ⟨vs, hp, r⟩
theorem i_callN {K : PySem.W.Frag} {T : Tab} {W k f : Nat} {es : Es} {E : XK} {σ : L2.St} {H : Hp} {Q : VK} (h : tN K (callD T.defs W k) (.call f es) σ H Q) : tCall (spN K T W k f) [] E (tEs K (callD T.defs W k) es) σ H Q := by
  obtain ⟨ρ, S, F, α, ds, S', he, w, ev, q⟩ := h
  simp only [evE] at ev
  split at ev
  · rename_i rs s1 h1
    refine ⟨ρ, S, F, α, rs, _, he, w, h1, fun vs H1 F1 α1 x1 w1 r1 => ⟨rs, s1, F1, α1, ds, S', ?_, w1, ev, fun p H2 F2 ws x2 w2 hF ha hp hr => q p H2 F2 α1 ws (x1.trans ⟨x2, List.prefix_refl _⟩) w2 hF ha hp hr⟩⟩
    rw [List.append_nil]
    exact r1
  · cases ev
/-- a fresh text, as a new list -/
theorem sndN (e : E) (hf : fresh T e = true) (c : Ctx) (t : Expr) (hc : isComp t = false) (h : chkE T e c t = true) (X : Cx) (ok : XOk T W k c X) : PE X t (tN X.K (callD T.defs W k) e) := by
  cases e <;> first | (cases hf; done) | skip
  · rename_i o a b
    cases t <;> first | (cases h; done) | skip
    rename_i l p r pos
    obtain ⟨h1, h2⟩ := and_split (show (bopB o p && (chkE T a c l && chkE T b c r)) = true from h)
    obtain ⟨h3, h4⟩ := and_split h2
    rw [bopB_eq h1]
    exact PE.imp (pe_op (op_binN o) (sndE a c l h3 X ok) (sndE b c r h4 X ok)) fun σ H Q => i_binN
  · rename_i es
    cases t <;> first | (cases h; done) | skip
    rename_i ts pos
    exact PE.imp (pe_lst (sndEs es c ts h X ok)) fun σ H Q => i_lst
  · cases t <;> first | (cases h; done) | (cases hc; done)
  · rename_i f a
    cases f <;> first | (cases hf; done) | skip
    all_goals (cases t <;> first | (cases h; done) | skip)
    all_goals rename_i fn as ks pos
    all_goals (cases fn <;> first | (cases h; done) | skip)
    all_goals rename_i x pn
    · match as, ks, h with
      | [y], [], h =>
        obtain ⟨h1, h⟩ := and_split (show (decide (x = B1.list.nm) && (glB c x && chkE T a c y)) = true from h)
        obtain ⟨h2, h3⟩ := and_split h
        have e1 := of_decide_eq_true h1
        subst e1
        have hA := pa_cons (sndE a c y h3 X ok) pa_nil (star_of (chk_plain h3) _ _)
        have hs := star_of (chk_plain h3) [] X.env
        obtain ⟨n1, n2⟩ := b1_ne .list
        exact PE.imp (pe_callTy b1_listN (ok.gl h2) (ok.blt _ (b1_in .list)) (boot_b1 .list) hA n1 n2 hs rfl) fun σ H Q => i_b1N
    · match as, ks, h with
      | [y], [], h =>
        obtain ⟨h1, h⟩ := and_split (show (decide (x = B1.sorted.nm) && (glB c x && chkE T a c y)) = true from h)
        obtain ⟨h2, h3⟩ := and_split h
        have e1 := of_decide_eq_true h1
        subst e1
        have hA := pa_cons (sndE a c y h3 X ok) pa_nil (star_of (chk_plain h3) _ _)
        have hs := star_of (chk_plain h3) [] X.env
        obtain ⟨n1, n2⟩ := b1_ne .sorted
        exact PE.imp (pe_callB (b1_sortedN ok.calm (by have := ok.hu; omega)) (ok.gl h2) (ok.blt _ (b1_in .sorted)) (boot_b1 .sorted) hA n1 n2 hs rfl) fun σ H Q => i_b1N
  · rename_i f es
    cases t <;> first | (cases h; done) | skip
    rename_i fn as ks pos
    cases fn <;> first | (cases h; done) | skip
    rename_i x pn
    match as, ks, h with
    | y :: ys, [], h =>
      obtain ⟨h1, h⟩ := and_split (show (glB c x && (okN x && ((match T.defs[f]? with
        | some d => decide (d.name = x)
        | none => false) && chkEs T es c (y :: ys)))) = true from h)
      obtain ⟨h2, h⟩ := and_split h
      obtain ⟨h3, h4⟩ := and_split h
      cases hd : T.defs[f]? with
      | none => rw [hd] at h3; cases h3
      | some d =>
        rw [hd] at h3
        have e1 := of_decide_eq_true h3
        subst e1
        have hfin : d.fin.isSome = true := by
          have hf' : (match T.defs[f]? with
            | some d => d.fin.isSome
            | none => false) = true := hf
          rw [hd] at hf'
          exact hf'
        obtain ⟨fa, fd, ps, F, hm, hk, hb⟩ := ok.news f d hd hfin
        have hst : starEach (y :: ys) X.env = (false, eval y X.env) :: starEach ys X.env ∧ (backTo pos (starEach ys X.env)).any (·.1) = false := by
          cases es with
          | nil => cases h4
          | cons e0 es0 =>
            obtain ⟨h5, h6⟩ := and_split (show (chkE T e0 c y && chkEs T es0 c ys) = true from h4)
            exact ⟨star_of (chk_plain h5) _ _, star_any _ _ h6⟩
        exact PE.imp (pe_call F ok.room (ok.gl h1) hm hk hb .nil pass0 (sndEs es c _ h4 X ok) (okN_of h2).1 hst.1 hst.2) fun σ H Q => i_callN
  · rename_i a
    match t, h with
    | .Call (.Name x pn) [y] [] pos, h =>
      obtain ⟨h1, h⟩ := and_split (show (decide (x = ("list" : Str)) && (glB c x && chkE T a c y)) = true from h)
      obtain ⟨h2, h3⟩ := and_split h
      have e1 := of_decide_eq_true h1
      subst e1
      have hA := pa_cons (sndE a c y h3 X ok) pa_nil (star_of (chk_plain h3) _ _)
      have hs := star_of (chk_plain h3) [] X.env
      obtain ⟨n1, n2⟩ := b1_ne .list
      exact PE.imp (pe_callTy (call_keys ok.calm) (ok.gl h2) (ok.blt _ (b1_in .list)) (boot_b1 .list) hA n1 n2 hs rfl) fun σ H Q => i_dkeysN
/-- name = a comprehension -/
theorem ps_comp (ok : XOkS T W k c X) {e : E} {i : Nat} {x : Str} {p pos : Pos} {t : Expr} (hc : isComp t = true) (h : chkE T e c t = true) (hg : chkG (.name i) c (.Name x p) = true) :
    PS X (.Assign [.Name x p] t pos) (tAsg (tN X.K (callD T.defs W k) e) (gName i)) := by
  cases t <;> first | (cases hc; done) | skip
  rename_i elt gens scope cpos
  obtain ⟨g1, g2⟩ := and_split (show (decide (c.N[i]? = some x) && locB c x) = true from hg)
  obtain ⟨hl, hf⟩ := ok.loc g2
  have hN : X.N.Nodup := by rw [ok.N]; exact ok.nd
  have hi : X.N[i]? = some x := by rw [ok.N]; exact of_decide_eq_true g1
  by_cases hsw : swB c.sc scope x p.line cpos.line = true
  · cases e <;> first | (cases h; done) | skip
    rename_i g vs it hc' d e
    match gens, h with
    | [⟨tg, iter, ifs, asy⟩], h =>
      obtain ⟨h1, h⟩ := and_split (show (decide (asy = 0) && (decide ((ownOf c.N vs).map (·.2) = vs) && (L2.blkC c.N c.sc scope (ownOf c.N vs) && (chkIt T it c tg iter && (chkG g (blkCtx c scope) tg && ((G.slots g).all (fun i => vs.contains i) &&
        ((match (generalizing := false) hc', ifs with
          | true, [f] => tstOk d && chkE T d (blkCtx c scope) f
          | false, [] => true
          | _, _ => false) && chkE T e (blkCtx c scope) elt))))))) = true from h)
      obtain ⟨h2, h⟩ := and_split h
      obtain ⟨h3, h⟩ := and_split h
      obtain ⟨h4, h⟩ := and_split h
      obtain ⟨h5, h⟩ := and_split h
      obtain ⟨h6, h⟩ := and_split h
      obtain ⟨h7, h8⟩ := and_split h
      have e1 := of_decide_eq_true h1
      subst e1
      have e2 := of_decide_eq_true h2
      have hv : ∀ i ∈ G.slots g, i ∈ vs := fun i hi => by simpa using List.all_eq_true.mp h6 i hi
      have hb : BlkOk X.N X.env.scope scope (ownOf c.N vs) := by rw [ok.N, ok.sc]; exact blkOk_by h3
      have hfold : ∀ x, foldedSetIterable iter X.env x = pure x := fun x => by
        cases it <;> first | exact fold_of (chk_plain h4) _ _ | (cases iter <;> first | rfl | cases h4)
      have hloc : X.env.scope.names.lookup x = some .local := by
        rw [ok.sc]
        unfold swB at hsw
        rw [Bool.and_eq_true, Bool.and_eq_true] at hsw
        exact eq_of_beq hsw.1.1
      have core : PS X (.Assign [.Name x p] (.ListComp elt [⟨tg, iter, ifs, 0⟩] scope cpos) pos) (tAsg (tLc (tIt X.K (callD T.defs W k) it) (tG X.K g) (ttOf X.K (callD T.defs W k) hc' d) (tE X.K (callD T.defs W k) e) ((ownOf c.N vs).map (·.2))) (gName i)) := by
        refine ps_setLc ok.calm hN hi hloc (by rw [sw_comp ok, hsw]) (sndIt it c tg iter h4 X ok.toXOk) hb (fun s H C cl fp => sndG g _ tg h5 _ (ok.toXOk.blk s H scope C cl fp)) (fun s H C cl fp => ?_) (fun s H C cl fp => sndE e _ elt h8 _ (ok.toXOk.blk s H scope C cl fp)) hfold
        cases hc' with
        | true =>
          match ifs, h7 with
          | [f], h7 =>
            obtain ⟨h9, h10⟩ := and_split h7
            exact pts_one (sndT d _ f h10 h9 _ (ok.toXOk.blk s H scope C cl fp))
        | false =>
          match ifs, h7 with
          | [], _ => exact pts_nil
      rw [e2] at core
      exact PS.imp core fun D σ H q => i_comp hv q
  · have hsw' : swB c.sc scope x p.line cpos.line = false := by simpa using hsw
    have hE : PE X (.ListComp elt gens scope cpos) (tN X.K (callD T.defs W k) e) := by
      cases e <;> first | (cases h; done) | skip
      rename_i g vs it hc' d e
      match gens, h with
      | [⟨tg, iter, ifs, asy⟩], h =>
        obtain ⟨h1, h⟩ := and_split (show (decide (asy = 0) && (decide ((ownOf c.N vs).map (·.2) = vs) && (L2.blkC c.N c.sc scope (ownOf c.N vs) && (chkIt T it c tg iter && (chkG g (blkCtx c scope) tg && ((G.slots g).all (fun i => vs.contains i) &&
          ((match (generalizing := false) hc', ifs with
            | true, [f] => tstOk d && chkE T d (blkCtx c scope) f
            | false, [] => true
            | _, _ => false) && chkE T e (blkCtx c scope) elt))))))) = true from h)
        obtain ⟨h2, h⟩ := and_split h
        obtain ⟨h3, h⟩ := and_split h
        obtain ⟨h4, h⟩ := and_split h
        obtain ⟨h5, h⟩ := and_split h
        obtain ⟨h6, h⟩ := and_split h
        obtain ⟨h7, h8⟩ := and_split h
        have e1 := of_decide_eq_true h1
        subst e1
        have e2 := of_decide_eq_true h2
        have hv : ∀ i ∈ G.slots g, i ∈ vs := fun i hi => by simpa using List.all_eq_true.mp h6 i hi
        have hb : BlkOk X.N X.env.scope scope (ownOf c.N vs) := by rw [ok.N, ok.sc]; exact blkOk_by h3
        have hfold : ∀ x, foldedSetIterable iter X.env x = pure x := fun x => by
          cases it <;> first | exact fold_of (chk_plain h4) _ _ | (cases iter <;> first | rfl | cases h4)
        have core : PE X (.ListComp elt [⟨tg, iter, ifs, 0⟩] scope cpos) (tLc (tIt X.K (callD T.defs W k) it) (tG X.K g) (ttOf X.K (callD T.defs W k) hc' d) (tE X.K (callD T.defs W k) e) ((ownOf c.N vs).map (·.2))) := by
          refine pe_lc ok.calm hN (sndIt it c tg iter h4 X ok.toXOk) hb (fun s H C cl fp => sndG g _ tg h5 _ (ok.toXOk.blk s H scope C cl fp)) (fun s H C cl fp => ?_) (fun s H C cl fp => sndE e _ elt h8 _ (ok.toXOk.blk s H scope C cl fp)) hfold
          cases hc' with
          | true =>
            match ifs, h7 with
            | [f], h7 =>
              obtain ⟨h9, h10⟩ := and_split h7
              exact pts_one (sndT d _ f h10 h9 _ (ok.toXOk.blk s H scope C cl fp))
          | false =>
            match ifs, h7 with
            | [], _ => exact pts_nil
        rw [e2] at core
        exact PE.imp core fun σ H Q q => i_comp hv q
    exact ps_set hN hi hl hE (by rw [sw_comp ok, hsw']) hf
theorem ps_thaw (ok : XOkS T W k c X) {e : E} {i : Nat} {x : Str} {p pos : Pos} {t : Expr} (hf : fresh T e = true) (h : chkE T e c t = true) (hg : chkG (.name i) c (.Name x p) = true) :
    PS X (.Assign [.Name x p] t pos) (tS X.K (callD T.defs W k) W (.thaw i e)) := by
  have core : PS X (.Assign [.Name x p] t pos) (tAsg (tN X.K (callD T.defs W k) e) (gName i)) := by
    by_cases hc : isComp t = true
    · exact ps_comp ok hc h hg
    · have hc' : isComp t = false := by simpa using hc
      obtain ⟨g1, g2⟩ := and_split (show (decide (c.N[i]? = some x) && locB c x) = true from hg)
      obtain ⟨hl, hfn⟩ := ok.loc g2
      exact ps_set (by rw [ok.N]; exact ok.nd) (by rw [ok.N]; exact of_decide_eq_true g1) hl (sndN e hf c t hc' h X ok.toXOk) (sw_plain hc' (dc_fresh hf h) (chk_plain h) _ _ _) hfn
  refine PS.imp core fun D σ H ⟨ρ, S, F, α, o, he, w, ev, q⟩ => ?_
  simp only [exS] at ev
  split at ev
  · rename_i xs s1 h1
    cases ev
    refine ⟨ρ, S, F, α, xs, s1, he, w, h1, fun p H' F' α' vs x w' hF ha hp rs => ?_⟩
    obtain ⟨w2, x2⟩ := w'.cell2 hF ha hp rs
    refine q _ H' F' _ (x.trans x2) w2 ((he.mono (x.trans x2)).set (show RepR X.K F' (α' ++ [p]) (.ref p) (.loc s1.length) from ⟨p, rfl, ?_⟩) i)
    rw [← w'.len]
    simp
  · cases ev
theorem ps_asgn (ok : XOkS T W k c X) {g : G} {e : E} {tg t : Expr} {pos : Pos} (h : chkE T e c t = true) (hg : chkG g c tg = true) (hn : (isTupE tg && isTupE t) = false) (hdc : isDC t = false) :
    PS X (.Assign [tg] t pos) (tS X.K (callD T.defs W k) W (.asg g e)) := by
  have toE : ∀ D σ H, tS X.K (callD T.defs W k) W (.asg g e) D σ H → tAsg (tE X.K (callD T.defs W k) e) (tG X.K g) D σ H := by
    rintro D σ H ⟨ρ, S, F, α, o, he, w, ev, q⟩
    simp only [exS] at ev
    split at ev
    · cases ev
    · rename_i r s1 h1
      split at ev
      · rename_i ρ' h2
        cases ev
        exact ⟨ρ, S, F, α, r, s1, he, w, h1, fun v H1 F1 α1 x1 w1 r1 => ⟨F1, α1, s1, ρ, r, ρ', he.mono x1, w1, r1, h2, fun σ' he' _ => q σ' H1 F1 α1 x1 w1 he'⟩⟩
      · cases ev
  have hG := sndG g c tg hg X ok.toXOk
  cases tg <;> first | (cases g <;> cases hg; done) | skip
  · rename_i x p
    by_cases hc : isComp t = true
    · cases g <;> first | (cases hg; done) | skip
      rename_i i
      refine PS.imp (ps_comp ok hc h hg) fun D σ H ⟨ρ, S, F, α, o, he, w, ev, q⟩ => ?_
      simp only [exS] at ev
      split at ev
      · cases ev
      · rename_i r s1 h1
        cases (Option.some.inj ev : Out.nx (ρ.set i (some r)) s1 = o)
        have hl : ∃ ds, r = .d (.list ds) := by
          cases t <;> first | (cases hc; done) | skip
          cases e <;> first | (cases h; done) | skip
          exact l_comp r s1 h1
        obtain ⟨ds, rfl⟩ := hl
        refine ⟨ρ, S, F, α, ds, s1, he, w, h1, Post.n (Q := fun z H1 => gName i z σ H1 D.nx) fun v H1 F1 α1 x1 w1 r1 => q _ H1 F1 α1 x1 w1 ((he.mono x1).set r1 i)⟩
    · have hc' : isComp t = false := by simpa using hc
      exact PS.imp (ps_asg (sndE e c t h X ok.toXOk) hG (Eq.trans (b := swapsWith t (some (.Name x p)) pos.line X.env) rfl (sw_plain hc' hdc (chk_plain h) _ _ _)) (ss_name _ _) rfl) toE
  · rename_i ts n p
    have ht : isTupE t = false := by simpa [isTupE] using hn
    exact PS.imp (ps_asg (sndE e c t h X ok.toXOk) hG (Eq.trans (b := swapsWith t (some (.Tuple ts n p)) pos.line X.env) rfl (sw_tup t (chk_plain h) _ _)) (ss_tup ht _) rfl) toE
/-! ### a, b = x, y -/
def setsV (σ : L2.St) : List Nat → List V → L2.St
  | i :: is, v :: vs => setsV (σ.set i (some v)) is vs
  | _, _ => σ
def gNs (is : List Nat) : TGs := fun vs σ H Q => vs.length = is.length ∧ Q (setsV σ is vs) H
theorem sndNs (ok : XOk T W k c X) : ∀ (is : List Nat) (ts : List Expr), chkNames c is ts = true → PGs X ts (gNs is) ∧ (assignEach ts X.env).length = ts.length ∧ (assignEach ts X.env).findIdx? (·.1) = none ∧ ts.length = is.length
  | [], ts, h => by
    cases ts with
    | cons _ _ => cases h
    | nil =>
      refine ⟨PGs.imp pgs_nil fun vs σ H Q ⟨h1, h2⟩ => ?_, rfl, rfl, rfl⟩
      cases vs with
      | nil => exact ⟨rfl, h2⟩
      | cons _ _ => cases h1
  | i :: is, ts, h => by
    cases ts with
    | nil => cases h
    | cons t r =>
      cases t <;> first | (cases h; done) | skip
      rename_i x p
      obtain ⟨h1, h2⟩ := and_split (show (chkG (.name i) c (.Name x p) && chkNames c is r) = true from h)
      obtain ⟨g1, g2⟩ := and_split (show (decide (c.N[i]? = some x) && locB c x) = true from h1)
      obtain ⟨hl, hf⟩ := ok.loc g2
      obtain ⟨k1, k2, k3, k4⟩ := sndNs ok is r h2
      have hp : PG X (.Name x p) (gName i) := pg_name (by rw [ok.N]; exact ok.nd) (by rw [ok.N]; exact of_decide_eq_true g1) hl hf
      refine ⟨PGs.imp (pgs_cons hp k1 rfl) fun vs σ H Q ⟨e1, q⟩ => ?_, ?_, ?_, congrArg Nat.succ k4⟩
      · cases vs with
        | nil => cases e1
        | cons v vs => exact ⟨v, vs, rfl, by simpa using e1, q⟩
      · show (assignEach r X.env).length + 1 = r.length + 1
        rw [k2]
      · have : assignEach (.Name x p :: r) X.env = (false, assign (.Name x p) X.env) :: assignEach r X.env := rfl
        rw [this, List.findIdx?_cons]
        simp only [Bool.false_eq_true, if_false, k3, Option.map_none]
theorem sets_env {K : PySem.W.Frag} {F : Hp} {α : List Addr} : ∀ {is : List Nat} {rs : List R} {vs : List V} {σ : L2.St} {ρ ρ' : Env}, EnvOk K F α σ ρ → RepRs K F α vs rs → sets ρ is rs = some ρ' → EnvOk K F α (setsV σ is vs) ρ' ∧ is.length = rs.length
  | [], rs, vs, σ, ρ, ρ', he, r, e => by
    cases rs with
    | cons _ _ => cases e
    | nil =>
      cases e
      exact ⟨he, rfl⟩
  | i :: is, rs, vs, σ, ρ, ρ', he, r, e => by
    cases rs with
    | nil => cases e
    | cons x xs =>
      cases r with
      | cons a b =>
        obtain ⟨h1, h2⟩ := sets_env (he.set a i) b e
        exact ⟨h1, congrArg Nat.succ h2⟩
theorem szs {n : Nat} (h : n ≤ 3) : szOk n = true := Nat.ble_eq.mpr (by omega)
theorem i_par {K : PySem.W.Frag} {C : Call} {is : List Nat} {es : Es} {D : Ends} {σ : L2.St} {H : Hp} (hn : is.length ≤ 3) (h : tS K C W (.par is es) D σ H) :
    tEs K C es σ H fun vs H1 => vs.length = is.length ∧ vs.length ≤ sizeLine ∧ D.nx (setsV σ is vs) H1 ∧ ∀ p, H1 p = none → D.nx (setsV σ is vs) (upd H1 p (.tup vs)) := by
  obtain ⟨ρ, S, F, α, o, he, w, ev, q⟩ := h
  simp only [exS] at ev
  split at ev
  · cases ev
  · rename_i rs s1 h1
    split at ev
    · rename_i ρ' h2
      cases ev
      refine ⟨ρ, S, F, α, rs, s1, he, w, h1, fun vs H1 F1 α1 x1 w1 r1 => ?_⟩
      obtain ⟨k1, k2⟩ := sets_env (he.mono x1) r1 h2
      refine ⟨by rw [r1.length, k2], by rw [r1.length, ← k2]; exact sz_le (szs hn), q _ _ _ _ x1 w1 k1, fun p hp => q _ _ _ _ x1 (w1.more hp) k1⟩
    · cases ev
end
end PC
end
section
/-! PcSndS3: the statements' theorem. -/
namespace PC
open PySem PySem.Spec PyProof.Rows L2
/-- in place -/
def rIp (o : Bop) : TIp := fun x y H Q => ∃ i j z, x = .int i ∧ y = .int j ∧ binI o i j = some z ∧ Q (.int z) H
section
variable {T : Tab} {W k : Nat} {c : Ctx} {X : Cx}
theorem ip_D (o : Bop) (ha : augOk o = true) : PIp X o.py (rIp o) := by
  intro pins s σ H x y v u Q I rx ry ⟨i, j, z, ex, ey, h, q⟩
  subst ex ey
  cases o with
  | add => cases h; exact iop_add pins s σ H _ _ v u Q I rx ry ⟨i, j, rfl, rfl, q⟩
  | sub => cases h; exact iop_sub pins s σ H _ _ v u Q I rx ry ⟨i, j, rfl, rfl, q⟩
  | mul =>
    simp only [binI] at h
    split at h
    · rename_i hs
      cases h
      rw [Bool.or_eq_true] at hs
      exact iop_mul pins s σ H _ _ v u Q I rx ry ⟨i, j, rfl, rfl, hs.imp sm_of sm_of, q⟩
    · cases h
  | div =>
    simp only [binI] at h
    split at h
    · split at h
      · cases h
        rename_i h1 h2
        exact iop_fdiv pins s σ H _ _ v u Q I rx ry ⟨i, j, rfl, rfl, ⟨h1, h2⟩, q⟩
      · cases h
    · split at h
      · split at h
        · cases h
          obtain ⟨t, rfl⟩ := rx
          obtain ⟨t', rfl⟩ := ry
          exact ifloordiv_int (by omega) ⟨.int _, H, I.tok _, ⟨_, rfl⟩, q⟩ (.inl (PyProof.noPylong_small (by omega)))
        · cases h
      · cases h
  | mod =>
    simp only [binI] at h
    split at h
    · cases h
      rename_i h1
      exact iop_mod pins s σ H _ _ v u Q I rx ry ⟨i, j, rfl, rfl, h1, q⟩
    · split at h
      · cases h
        obtain ⟨t, rfl⟩ := rx
        obtain ⟨t', rfl⟩ := ry
        exact imod_int (by omega) ⟨.int _, H, I.tok _, ⟨_, rfl⟩, q⟩
      · cases h
  | pow => cases ha
theorem binD_int {o : Bop} {x y : Int} {z : D} (h : binD o (.int x) (.int y) = some z) : ∃ w, z = .int w ∧ binI o x y = some w := by
  simp only [binD] at h
  cases e : binI o x y with
  | none => rw [e] at h; cases h
  | some w => rw [e] at h; cases h; exact ⟨w, rfl, rfl⟩
theorem SW.has {K : PySem.W.Frag} {F H : Hp} {α : List Addr} {S : Store} (w : SW K H S F α) {n : Nat} {a : Addr} {ds : List D} (ha : α[n]? = some a) (hc : cellAt S n = some ds) : ∃ vs, H a = some (.lst vs) := by
  obtain ⟨vs, h, _⟩ := w.at_ ha hc
  exact ⟨vs, h⟩
end
end PC
end
section
/-! PcSndS3: the statements' theorem. -/
namespace PC
open PySem PySem.Spec PyProof.Rows L2
section
variable {T : Tab} {W k : Nat} {c : Ctx} {X : Cx}
/-! ### a, b = x, y -/
theorem names_cons {i : Nat} {is : List Nat} {ts : List Expr} (h : chkNames c (i :: is) ts = true) : ∃ x p r, ts = .Name x p :: r ∧ chkG (.name i) c (.Name x p) = true ∧ chkNames c is r = true := by
  cases ts with
  | nil => cases h
  | cons t r =>
    cases t <;> first | (cases h; done) | skip
    rename_i x p
    obtain ⟨h1, h2⟩ := and_split (show (chkG (.name i) c (.Name x p) && chkNames c is r) = true from h)
    exact ⟨x, p, r, rfl, h1, h2⟩
theorem names_nil {ts : List Expr} (h : chkNames c [] ts = true) : ts = [] := by
  cases ts with
  | nil => rfl
  | cons t r => cases h
theorem names_of (ok : XOkS T W k c X) {i : Nat} {x : Str} {p : Pos} (h : chkG (.name i) c (.Name x p) = true) : X.N[i]? = some x := by
  rw [ok.N]
  exact of_decide_eq_true (and_split (show (decide (c.N[i]? = some x) && locB c x) = true from h)).1
theorem names_loc (ok : XOkS T W k c X) {x : Str} (h : localB c x = true) : X.env.scope.names.lookup x = some .local := by
  rw [ok.sc]
  exact eq_of_beq h
theorem ss_no (ok : XOkS T W k c X) {es : Es} {ts vs : List Expr} {n1 n2 : Nat} {p1 p2 : Pos} (h1 : chkEs T es c vs = true) (hlen : vs.length = ts.length) (hl : (ts.length == 2 || ts.length == 3) = true) (hn : nswB c.sc ts vs = true) :
    swappedStores [.Tuple ts n1 p1] (.Tuple vs n2 p2) X.env = pure none := by
  rw [ss_gen ok hl hlen (no_star h1)]
  unfold nswB at hn
  rw [Bool.or_eq_true] at hn
  split
  · rfl
  · rename_i z
    rw [if_pos (hn.resolve_left z)]
theorem ss_yes (ok : XOkS T W k c X) {es : Es} {ts vs : List Expr} {n1 n2 : Nat} {p1 p2 : Pos} {ns : List Str} (h1 : chkEs T es c vs = true) (hlen : vs.length = ts.length) (hl : (ts.length == 2 || ts.length == 3) = true) (hn : yswB c.sc ts vs ns = true) :
    swappedStores [.Tuple ts n1 p1] (.Tuple vs n2 p2) X.env = pure (some ns) := by
  rw [ss_gen ok hl hlen (no_star h1)]
  unfold yswB at hn
  rw [Bool.and_eq_true, Bool.and_eq_true, Bool.and_eq_true] at hn
  obtain ⟨k1, k2, k3, k4⟩ := hn
  rw [if_neg (by simpa using k1), if_neg (by simpa using k2), if_neg (by simpa using k3), of_decide_eq_true k4]
theorem ps_parP (ok : XOkS T W k c X) {is : List Nat} {es : Es} {ts vs : List Expr} {n1 n2 : Nat} {p1 p2 pos : Pos} (h1 : chkEs T es c vs = true) (h2 : chkNames c is ts = true) (h3 : is.length ≤ 3) (hss : swappedStores [.Tuple ts n1 p1] (.Tuple vs n2 p2) X.env = pure none) :
    PS X (.Assign [.Tuple ts n1 p1] (.Tuple vs n2 p2) pos) (tS X.K (callD T.defs W k) W (.par is es)) := by
  obtain ⟨g1, g2, g3, g4⟩ := sndNs ok.toXOk is ts h2
  have hsw : swapsWithSole [.Tuple ts n1 p1] (.Tuple vs n2 p2) pos.line X.env = pure false := rfl
  refine PS.imp (ps_asg (pe_tup (sndEs es c vs h1 X ok.toXOk)) (pg_tup ok.calm g1 rfl g3) hsw hss rfl) fun D σ H q => ?_
  obtain ⟨ρ, S, F, α, rs, S', he, w, ev, q⟩ := i_par (K := X.K) h3 q
  refine ⟨ρ, S, F, α, rs, S', he, w, ev, fun us H1 F1 α1 x1 w1 r1 => ?_⟩
  obtain ⟨q1, q2, _, q3⟩ := q us H1 F1 α1 x1 w1 r1
  refine ⟨q2, fun p hp => ⟨p, us, rfl, SqT.of upd_same, ?_, q1, q3 p hp⟩⟩
  rw [q1, g2, g4]
theorem ps_par2R (ok : XOkS T W k c X) {i j : Nat} {es : Es} {ts vs : List Expr} {n1 n2 : Nat} {p1 p2 pos : Pos} (h1 : chkEs T es c vs = true) (h2 : chkNames c [i, j] ts = true) (h : parOk c [i, j] ts vs = true) :
    PS X (.Assign [.Tuple ts n1 p1] (.Tuple vs n2 p2) pos) (tS X.K (callD T.defs W k) W (.par [i, j] es)) := by
  obtain ⟨k1, h⟩ := and_split h
  obtain ⟨_, h⟩ := and_split h
  have hlen : vs.length = ts.length := of_decide_eq_true k1
  obtain ⟨x, px, r1, rfl, m1, h3⟩ := names_cons h2
  obtain ⟨y, py, r2, rfl, m2, h4⟩ := names_cons h3
  obtain rfl := names_nil h4
  rcases Bool.or_eq_true_iff.mp h with h | h
  · exact ps_parP ok h1 h2 (Nat.le_of_ble_eq_true rfl) (ss_no ok h1 hlen rfl h)
  · obtain ⟨k2, h⟩ := and_split h
    obtain ⟨k3, h⟩ := and_split h
    obtain ⟨l1, h⟩ := and_split (show (localB c x && (localB c y && true)) = true from h)
    obtain ⟨l2, _⟩ := and_split h
    have hnd : [i, j].Nodup := of_decide_eq_true k3
    have hij : i ≠ j := by simpa using hnd
    cases vs with
    | nil => cases hlen
    | cons a vs =>
      cases vs with
      | nil => cases hlen
      | cons b vs =>
        cases vs with
        | cons _ _ => cases hlen
        | nil =>
          refine PS.imp (ps_par ok.calm (by rw [ok.N]; exact ok.nd) (names_of ok m1) (names_of ok m2) hij (names_loc ok l1) (names_loc ok l2) (sndEs es c _ h1 X ok.toXOk) (ss_yes ok h1 hlen rfl k2) rfl) fun D σ H q => ?_
          obtain ⟨ρ, S, F, α, rs, S', he, w, ev, q⟩ := i_par (K := X.K) (show [i, j].length ≤ 3 from Nat.le_of_ble_eq_true rfl) q
          refine ⟨ρ, S, F, α, rs, S', he, w, ev, fun us H1 F1 α1 x1 w1 r1 => ?_⟩
          obtain ⟨q1, _, q2, _⟩ := q us H1 F1 α1 x1 w1 r1
          match us, q1, q2 with
          | [u, v], _, q2 => exact ⟨u, v, rfl, q2⟩
theorem ps_par3R (ok : XOkS T W k c X) {i j l : Nat} {es : Es} {ts vs : List Expr} {n1 n2 : Nat} {p1 p2 pos : Pos} (h1 : chkEs T es c vs = true) (h2 : chkNames c [i, j, l] ts = true) (h : parOk c [i, j, l] ts vs = true) :
    PS X (.Assign [.Tuple ts n1 p1] (.Tuple vs n2 p2) pos) (tS X.K (callD T.defs W k) W (.par [i, j, l] es)) := by
  obtain ⟨k1, h⟩ := and_split h
  obtain ⟨_, h⟩ := and_split h
  have hlen : vs.length = ts.length := of_decide_eq_true k1
  obtain ⟨x, px, r1, rfl, m1, h3⟩ := names_cons h2
  obtain ⟨y, py, r2, rfl, m2, h4⟩ := names_cons h3
  obtain ⟨z, pz, r3, rfl, m3, h5⟩ := names_cons h4
  obtain rfl := names_nil h5
  rcases Bool.or_eq_true_iff.mp h with h | h
  · exact ps_parP ok h1 h2 (Nat.le_of_ble_eq_true rfl) (ss_no ok h1 hlen rfl h)
  · obtain ⟨k2, h⟩ := and_split h
    obtain ⟨k3, h⟩ := and_split h
    obtain ⟨l1, h⟩ := and_split (show (localB c x && (localB c y && (localB c z && true))) = true from h)
    obtain ⟨l2, h⟩ := and_split h
    obtain ⟨l3, _⟩ := and_split h
    have hnd : [i, j, l].Nodup := of_decide_eq_true k3
    have hd : (i ≠ j ∧ i ≠ l) ∧ j ≠ l := by simpa using hnd
    cases vs with
    | nil => cases hlen
    | cons a vs =>
      cases vs with
      | nil => cases hlen
      | cons b vs =>
        cases vs with
        | nil => cases hlen
        | cons d vs =>
          cases vs with
          | cons _ _ => cases hlen
          | nil =>
            refine PS.imp (ps_par3 ok.calm (by rw [ok.N]; exact ok.nd) (names_of ok m1) (names_of ok m2) (names_of ok m3) hd.1.1 hd.1.2 hd.2 (names_loc ok l1) (names_loc ok l2) (names_loc ok l3) (sndEs es c _ h1 X ok.toXOk) (ss_yes ok h1 hlen rfl k2) rfl) fun D σ H q => ?_
            obtain ⟨ρ, S, F, α, rs, S', he, w, ev, q⟩ := i_par (K := X.K) (show [i, j, l].length ≤ 3 from Nat.le_of_ble_eq_true rfl) q
            refine ⟨ρ, S, F, α, rs, S', he, w, ev, fun us H1 F1 α1 x1 w1 r1 => ?_⟩
            obtain ⟨q1, _, q2, _⟩ := q us H1 F1 α1 x1 w1 r1
            match us, q1, q2 with
            | [u, v, t], _, q2 => exact ⟨u, v, t, rfl, q2⟩
theorem ps_parR (ok : XOkS T W k c X) {is : List Nat} {es : Es} {ts vs : List Expr} {n1 n2 : Nat} {p1 p2 pos : Pos} (h1 : chkEs T es c vs = true) (h2 : chkNames c is ts = true) (h : parOk c is ts vs = true) :
    PS X (.Assign [.Tuple ts n1 p1] (.Tuple vs n2 p2) pos) (tS X.K (callD T.defs W k) W (.par is es)) := by
  have hl : (is.length == 2 || is.length == 3) = true := (and_split (and_split h).2).1
  cases is with
  | nil => cases hl
  | cons i is =>
    cases is with
    | nil => cases hl
    | cons j is =>
      cases is with
      | nil => exact ps_par2R ok h1 h2 h
      | cons l is =>
        cases is with
        | nil => exact ps_par3R ok h1 h2 h
        | cons _ _ =>
          rw [Bool.or_eq_true, beq_iff_eq, beq_iff_eq] at hl
          simp only [List.length_cons] at hl
          omega
end
end PC
end
section
/-! PcSndS3: the statements' theorem. -/
namespace PC
open PySem PySem.Spec PyProof.Rows L2
section
variable {T : Tab} {W k : Nat} {c : Ctx} {X : Cx}
/-! ### the rest -/
variable {K : PySem.W.Frag} {C : Call} {D : Ends} {σ : L2.St} {H : Hp}
theorem i_aug {i : Nat} {o : Bop} {e : E} (h : tS K C W (.aug i o e) D σ H) : tAug i (tE K C e) (rIp o) D σ H := by
  obtain ⟨ρ, S, F, α, out, he, w, ev, q⟩ := h
  simp only [exS] at ev
  split at ev
  · rename_i r h1
    split at ev
    · cases ev
    · rename_i re s1 h2
      split at ev
      · rename_i x y
        split at ev
        · rename_i z h3
          cases ev
          obtain ⟨z, rfl, h4⟩ := binD_int h3
          obtain ⟨v, hv, rv⟩ := he.at_ i _ h1
          refine ⟨v, hv, ρ, S, F, α, _, s1, he, w, h2, fun u H1 F1 α1 x1 w1 r1 => ⟨x, y, z, rep_int rv, rep_int r1, h4, ?_⟩⟩
          exact q _ _ _ _ x1 w1 ((he.mono x1).set (show RepR K F1 α1 (.int z) (.d (.int z)) from .int z) i)
        · cases ev
      · cases ev
  · cases ev
theorem i_seti {a b e : E} (h : tS K C W (.seti a b e) D σ H) : tAsg (tE K C e) (gSub (tE K C a) (tE K C b) rSetL) D σ H := by
  obtain ⟨ρ, S, F, α, out, he, w, ev, q⟩ := h
  simp only [exS] at ev
  split at ev
  · rename_i x s1 h1
    split at ev
    · rename_i n s2 h2
      split at ev
      · rename_i i s3 h3
        split at ev
        · rename_i xs h4
          split at ev
          · rename_i j h5
            cases ev
            refine ⟨ρ, S, F, α, _, s1, he, w, h1, fun v H1 F1 α1 x1 w1 r1 => ⟨ρ, s1, F1, α1, _, s2, he.mono x1, w1, h2, fun u H2 F2 α2 x2 w2 r2 => ⟨ρ, s2, F2, α2, _, s3, he.mono (x1.trans x2), w2, h3, fun t H3 F3 α3 x3 w3 r3 => ?_⟩⟩⟩
            obtain ⟨p, rfl, hp⟩ := r2
            have hp3 := pre_get x3.pre hp
            obtain ⟨vs, hH, hr⟩ := w3.at_ hp3 h4
            have rv : Rep K F3 v x := (r1.mono (x2.trans x3) : RepR K F3 α3 v (.d x))
            refine ⟨p, vs, i, j, rfl, rep_int r3, hH, by rw [hr.length]; exact h5, ?_⟩
            exact q σ _ F3 α3 (x1.trans (x2.trans x3)) (w3.wrote hp3 (hr.set rv j)) (he.mono (x1.trans (x2.trans x3)))
          · cases ev
        · cases ev
      · cases ev
    · cases ev
  · cases ev
theorem i_augi {a b e : E} {o : Bop} (h : tS K C W (.augi a b o e) D σ H) : tAugS (tE K C a) (tE K C b) (tE K C e) (rIxL K) (rIp o) rSetL D σ H := by
  obtain ⟨ρ, S, F, α, out, he, w, ev, q⟩ := h
  simp only [exS] at ev
  split at ev
  · rename_i n s1 h1
    split at ev
    · rename_i i s2 h2
      split at ev
      · rename_i xs h3
        split at ev
        · rename_i x h4
          split at ev
          · rename_i y s3 h5
            split at ev
            · rename_i z h6
              split at ev
              · rename_i ys h7
                split at ev
                · rename_i j h8
                  cases ev
                  obtain ⟨z, rfl, h9⟩ := binD_int h6
                  refine ⟨ρ, S, F, α, _, s1, he, w, h1, fun v H1 F1 α1 x1 w1 r1 => ⟨ρ, s1, F1, α1, _, s2, he.mono x1, w1, h2, fun u H2 F2 α2 x2 w2 r2 => ?_⟩⟩
                  obtain ⟨p, rfl, hp⟩ := r1
                  have hp2 := pre_get x2.pre hp
                  obtain ⟨vs, hH, hr⟩ := w2.at_ hp2 h3
                  obtain ⟨vx, e1, e2⟩ := atI_rep hr h4
                  refine ⟨p, vs, i, vx, rfl, rep_int r2, SqL.of hH, e1, ρ, s2, F2, α2, _, s3, he.mono (x1.trans x2), w2, h5, fun t H3 F3 α3 x3 w3 r3 => ⟨x, y, z, rep_int (α := α3) e2, rep_int r3, h9, ?_⟩⟩
                  have hp3 := pre_get x3.pre hp2
                  obtain ⟨us, hH3, hr3⟩ := w3.at_ hp3 h7
                  refine ⟨p, us, i, j, rfl, rep_int r2, hH3, by rw [hr3.length]; exact h8, ?_⟩
                  exact q σ _ F3 α3 (x1.trans (x2.trans x3)) (w3.wrote hp3 (hr3.set (.int z) j)) (he.mono (x1.trans (x2.trans x3)))
                · cases ev
              · cases ev
            · cases ev
          · cases ev
        · cases ev
      · cases ev
    · cases ev
  · cases ev
theorem i_if {d : E} {t f : Ss} (h : tS K C W (.if_ d t f) D σ H) : tIfS (tT K C d) (tSs K C W t) (tSs K C W f) D σ H := by
  obtain ⟨ρ, S, F, α, out, he, w, ev, q⟩ := h
  simp only [exS] at ev
  split at ev
  · rename_i s1 h1
    refine ⟨ρ, S, F, α, true, s1, he, w, h1, fun H1 F1 α1 x1 w1 => ?_⟩
    refine Eq.mpr (if_pos rfl) ?_
    exact ⟨ρ, s1, F1, α1, out, he.mono x1, w1, ev, q.mono x1⟩
  · rename_i s1 h1
    refine ⟨ρ, S, F, α, false, s1, he, w, h1, fun H1 F1 α1 x1 w1 => ?_⟩
    refine Eq.mpr (if_neg Bool.false_ne_true) ?_
    exact ⟨ρ, s1, F1, α1, out, he.mono x1, w1, ev, q.mono x1⟩
  · cases ev
theorem i_whl {d : E} {b : Ss} (h : tS K C W (.whl d b) D σ H) : tWhile (tT K C d) (tSs K C W b) D σ H := by
  obtain ⟨ρ, S, F, α, out, he, w, ev, q⟩ := h
  simp only [exS] at ev
  generalize ht : (fun ρ s => (match evE C d ρ s with
      | some (.d (.bool t), s1) => some (t, s1)
      | _ => none : Option (Bool × Store))) = tst at ev
  refine ⟨fun m σ H => ∃ ρ S F α, EnvOk K F α σ ρ ∧ SW K H S F α ∧ whlN tst (fun ρ s => exSs C W b ρ s) m ρ S = some out ∧ PostS K F α D out, ⟨W, ρ, S, F, α, he, w, ev, q⟩, ?_⟩
  rintro m σ H ⟨ρ, S, F, α, he, w, ev, q⟩
  cases m with
  | zero => cases ev
  | succ m =>
    unfold whlN at ev
    subst ht
    simp only at ev
    split at ev
    · cases ev
    · rename_i s1 h1
      cases ev
      split at h1
      · rename_i t s2 h2
        cases h1
        refine ⟨ρ, S, F, α, _, _, he, w, h2, fun H1 F1 α1 x1 w1 => ?_⟩
        refine Eq.mpr (if_neg Bool.false_ne_true) ?_
        exact q σ H1 F1 α1 x1 w1 (he.mono x1)
      · cases h1
    · rename_i s1 h1
      split at h1
      · rename_i t s2 h2
        cases h1
        refine ⟨ρ, S, F, α, _, _, he, w, h2, fun H1 F1 α1 x1 w1 => ?_⟩
        refine Eq.mpr (if_pos rfl) ?_
        refine ⟨_, fun σ' H' hh => ⟨m, Nat.lt_succ_self m, hh⟩, ?_⟩
        cases hb : exSs C W b ρ s1 with
        | none => rw [hb] at ev; cases ev
        | some o2 =>
          rw [hb] at ev
          refine ⟨ρ, s1, F1, α1, o2, he.mono x1, w1, hb, ?_⟩
          cases o2 with
          | nx ρ' s' => exact fun σ' H' F' α' x' w' he' => ⟨ρ', s', F', α', he', w', ev, q.mono (x1.trans x')⟩
          | rt r s' =>
            cases (Option.some.inj ev : Out.rt r s' = out)
            exact q.mono x1
      · cases h1
theorem i_for {g : G} {it : It} {b : Ss} (h : tS K C W (.for_ g it b) D σ H) : tFor (tIt K C it) (tG K g) (tSs K C W b) D σ H := by
  obtain ⟨ρ, S, F, α, out, he, w, ev, q⟩ := h
  simp only [exS] at ev
  split at ev
  · cases ev
  · rename_i J s1 h1
    generalize ht : (fun x ρ s => (match asgG g (.d x) ρ with
        | none => none
        | some ρ' => exSs C W b ρ' s : Option Out)) = step at ev
    refine ⟨ρ, S, F, α, J, s1, he, w, h1, fun H1 F1 α1 Jt x1 w1 iok => ?_⟩
    refine ⟨fun i m σ H => ∃ ρ S F α, Ext F1 α1 F α ∧ EnvOk K F α σ ρ ∧ SW K H S F α ∧ i + m = J.n ∧ forN J step m i ρ S = some out ∧ PostS K F α D out, ⟨J.n, ρ, s1, F1, α1, Ext.refl, he.mono x1, w1, by omega, ev, q.mono x1⟩, ?_⟩
    rintro i m σ H ⟨ρ, S, F, α, x, he, w, hm, ev, q⟩
    cases m with
    | zero =>
      unfold forN at ev
      split at ev
      · rename_i hf
        cases ev
        have e0 : i = J.n := by omega
        subst e0
        exact .inl ⟨iok.fin H S F α x w hf, q σ H F α Ext.refl w he⟩
      · cases ev
    | succ m =>
      unfold forN at ev
      split at ev
      · cases ev
      · rename_i y hy
        obtain ⟨hgo, hyl⟩ := iok.go i H S F α y x w (by omega) hy
        refine .inr ⟨hgo, _, fun σ' H' hh => ⟨m, Nat.lt_succ_self m, hh⟩, fun v H' hv => ?_⟩
        obtain ⟨F2, x2, w2, r2⟩ := hyl v H' hv
        subst ht
        simp only at ev
        cases hg : asgG g (.d y) ρ with
        | none => rw [hg] at ev; cases ev
        | some ρ' =>
          rw [hg] at ev
          refine ⟨F2, α, S, ρ, .d y, ρ', he.mono x2, w2, r2, hg, fun σ2 he2 _ => ?_⟩
          cases hb : exSs C W b ρ' S with
          | none => simp only [hb] at ev; cases ev
          | some o2 =>
            simp only [hb] at ev
            refine ⟨ρ', S, F2, α, o2, he2, w2, hb, ?_⟩
            cases o2 with
            | nx ρ3 s3 => exact fun σ' H' F' α' x' w' he' => ⟨ρ3, s3, F', α', x.trans (x2.trans x'), he', w', by omega, ev, q.mono (x2.trans x')⟩
            | rt r s3 =>
              cases (Option.some.inj ev : Out.rt r s3 = out)
              exact q.mono x2
theorem i_ret {e : E} (h : tS K C W (.ret e) D σ H) : tRet (tE K C e) D σ H := by
  obtain ⟨ρ, S, F, α, out, he, w, ev, q⟩ := h
  simp only [exS] at ev
  split at ev
  · cases ev
  · rename_i r s1 h1
    cases ev
    exact ⟨ρ, S, F, α, r, s1, he, w, h1, q⟩
theorem i_app {a e : E} (h : tS K C W (.app a e) D σ H) : tDrop (tBM K "list" rAppend (tE K C a) (tCons (tE K C e) tNil)) D σ H := by
  obtain ⟨ρ, S, F, α, out, he, w, ev, q⟩ := h
  simp only [exS] at ev
  split at ev
  · rename_i n s1 h1
    split at ev
    · rename_i ds0 h0
      split at ev
      · rename_i x s2 h2
        split at ev
        · rename_i xs h3
          split at ev
          · rename_i hz
            cases ev
            refine ⟨ρ, S, F, α, _, s1, he, w, h1, fun v H1 F1 α1 x1 w1 r1 => ?_⟩
            obtain ⟨p, rfl, hp⟩ := r1
            obtain ⟨vs0, hH0⟩ := w1.has hp h0
            refine ⟨.inl ⟨rfl, vs0, SqL.of hH0⟩, ρ, s1, F1, α1, _, s2, he.mono x1, w1, h2, fun u H2 F2 α2 x2 w2 r2 => ?_⟩
            have hp2 := pre_get x2.pre hp
            obtain ⟨vs, hH, hr⟩ := w2.at_ hp2 h3
            refine ⟨p, vs, u, rfl, rfl, hH, by rw [hr.length]; exact sz_lt hz, ?_⟩
            exact q σ _ F2 α2 (x1.trans x2) (w2.wrote hp2 (hr.append (.cons r2 .nil))) (he.mono (x1.trans x2))
          · cases ev
        · cases ev
      · cases ev
    · cases ev
  · cases ev
theorem i_ext {a e : E} (h : tS K C W (.ext a e) D σ H) : tDrop (tBM K "list" rExtend (tE K C a) (tCons (tE K C e) tNil)) D σ H := by
  obtain ⟨ρ, S, F, α, out, he, w, ev, q⟩ := h
  simp only [exS] at ev
  split at ev
  · rename_i n s1 h1
    split at ev
    · rename_i ds0 h0
      split at ev
      · rename_i ys s2 h2
        split at ev
        · rename_i xs h3
          split at ev
          · rename_i hz
            cases ev
            refine ⟨ρ, S, F, α, _, s1, he, w, h1, fun v H1 F1 α1 x1 w1 r1 => ?_⟩
            obtain ⟨p, rfl, hp⟩ := r1
            obtain ⟨vs0, hH0⟩ := w1.has hp h0
            refine ⟨.inl ⟨rfl, vs0, SqL.of hH0⟩, ρ, s1, F1, α1, _, s2, he.mono x1, w1, h2, fun u H2 F2 α2 x2 w2 r2 => ?_⟩
            have hp2 := pre_get x2.pre hp
            obtain ⟨vs, hH, hr⟩ := w2.at_ hp2 h3
            cases (show Rep K F2 u (.list ys) from r2) with
            | lst hb rb =>
              refine ⟨p, _, vs, _, rfl, rfl, hH, w2.sub _ _ hb, by rw [hr.length, rb.length]; exact sz_le hz, ?_⟩
              exact q σ _ F2 α2 (x1.trans x2) (w2.wrote hp2 (hr.append rb)) (he.mono (x1.trans x2))
          · cases ev
        · cases ev
      · cases ev
    · cases ev
  · cases ev
theorem i_pop {a : E} (h : tS K C W (.pop a) D σ H) : tDrop (tBM0 K "list" rPop (tE K C a)) D σ H := by
  obtain ⟨ρ, S, F, α, out, he, w, ev, q⟩ := h
  simp only [exS] at ev
  split at ev
  · rename_i n s1 h1
    split at ev
    · rename_i xs h3
      split at ev
      · rename_i y hy
        cases ev
        refine ⟨ρ, S, F, α, _, s1, he, w, h1, fun v H1 F1 α1 x1 w1 r1 => ?_⟩
        obtain ⟨p, rfl, hp⟩ := r1
        obtain ⟨vs, hH, hr⟩ := w1.at_ hp h3
        obtain ⟨vy, e1, e2⟩ := hr.get hy
        refine ⟨.inl ⟨rfl, vs, SqL.of hH⟩, p, vs, vy, rfl, rfl, hH, by rw [hr.length]; exact e1, ?_⟩
        exact q σ _ F1 α1 x1 (w1.wrote hp hr.dropLast) (he.mono x1)
      · cases ev
    · cases ev
  · cases ev
theorem SW.dnew {F : Hp} {α : List Addr} {S : Store} (w : SW K H S F α) (t : Bool) {p : Addr} (hp : H p = none) : ∃ o, (o = .dK [] ∧ t = false ∨ o = .dT [] ∧ t = true) ∧ SW K (upd H p o) (S ++ [.dct t []]) F (α ++ [p]) ∧ Ext F α F (α ++ [p]) := by
  cases t with
  | false => exact ⟨.dK [], .inl ⟨rfl, rfl⟩, w.celledG hp ⟨_, upd_same, [], rfl, .nil⟩⟩
  | true => exact ⟨.dT [], .inr ⟨rfl, rfl⟩, w.celledG hp ⟨_, upd_same, [], rfl, .nil⟩⟩
theorem i_dnewK {i : Nat} (h : tS K C W (.dnew i false) D σ H) : tAsg tDNewK (gName i) D σ H := by
  obtain ⟨ρ, S, F, α, out, he, w, ev, q⟩ := h
  simp only [exS] at ev
  cases ev
  intro p hp
  have := w.celledG (cc := .dct false []) (o := .dK []) hp ⟨_, upd_same, [], rfl, .nil⟩
  obtain ⟨w2, x2⟩ := this
  refine q _ _ F _ x2 w2 ((he.mono x2).set (show RepR K F (α ++ [p]) (.ref p) (.loc S.length) from ⟨p, rfl, ?_⟩) i)
  rw [← w.len]
  simp
theorem i_dnewT {i : Nat} (h : tS K C W (.dnew i true) D σ H) : tAsg tDNewT (gName i) D σ H := by
  obtain ⟨ρ, S, F, α, out, he, w, ev, q⟩ := h
  simp only [exS] at ev
  cases ev
  intro p hp
  have := w.celledG (cc := .dct true []) (o := .dT []) hp ⟨_, upd_same, [], rfl, .nil⟩
  obtain ⟨w2, x2⟩ := this
  refine q _ _ F _ x2 w2 ((he.mono x2).set (show RepR K F (α ++ [p]) (.ref p) (.loc S.length) from ⟨p, rfl, ?_⟩) i)
  rw [← w.len]
  simp
theorem i_dset {a b e : E} (h : tS K C W (.dset a b e) D σ H) : sDPut (tE K C a) (tE K C b) (tE K C e) D σ H := by
  obtain ⟨ρ, S, F, α, out, he, w, ev, q⟩ := h
  simp only [exS] at ev
  split at ev
  · rename_i x s1 h1
    split at ev
    · rename_i n s2 h2
      split at ev
      · rename_i k s3 h3
        split at ev
        · rename_i t kvs h4
          split at ev
          · rename_i hk
            cases ev
            obtain ⟨k1, k2⟩ := Bool.and_eq_true_iff.mp hk
            refine ⟨ρ, S, F, α, _, s1, he, w, h1, fun v H1 F1 α1 x1 w1 r1 => ⟨ρ, s1, F1, α1, _, s2, he.mono x1, w1, h2, fun u H2 F2 α2 x2 w2 r2 => ⟨ρ, s2, F2, α2, _, s3, he.mono (x1.trans x2), w2, h3, fun y H3 F3 α3 x3 w3 r3 => ?_⟩⟩⟩
            obtain ⟨p, rfl, hp⟩ := r2
            have hp3 := pre_get x3.pre hp
            obtain ⟨o, hH, hD⟩ := w3.cell n p _ hp3 h4
            obtain ⟨o', hP, hD'⟩ := dat_put w3.sub hD hH k1 (r3 : RepR K F3 α3 y (.d k)) (r1.mono (x2.trans x3) : RepR K F3 α3 v (.d x)) (sz_lt k2)
            exact ⟨p, _, rfl, hP, q σ _ F3 α3 (x1.trans (x2.trans x3)) (w3.wroteG hp3 ⟨o', upd_same, hD'⟩) (he.mono (x1.trans (x2.trans x3)))⟩
          · cases ev
        · cases ev
      · cases ev
    · cases ev
  · cases ev
theorem i_dupd {P : Program} {w : World} {a e : E} (h : tS K C W (.dupd a e) D σ H) : tDrop (tBM K "dict" (rUpdT P w) (tE K C a) (tCons (tE K C e) tNil)) D σ H := by
  obtain ⟨ρ, S, F, α, out, he, w0, ev, q⟩ := h
  simp only [exS] at ev
  split at ev
  · rename_i n s1 h1
    split at ev
    · rename_i kvs0 h0
      split at ev
      · rename_i more s2 h2
        split at ev
        · rename_i kvs h3
          split at ev
          · rename_i hz
            cases ev
            obtain ⟨k1, k2⟩ := Bool.and_eq_true_iff.mp hz
            refine ⟨ρ, S, F, α, _, s1, he, w0, h1, fun v H1 F1 α1 x1 w1 r1 => ?_⟩
            obtain ⟨p, rfl, hp⟩ := r1
            obtain ⟨o0, hH0, ks0, e0, _⟩ := w1.cell n p _ hp h0
            subst e0
            refine ⟨.inr (.inr (.inl ⟨rfl, .inr ⟨_, hH0⟩⟩)), ρ, s1, F1, α1, _, s2, he.mono x1, w1, h2, fun u H2 F2 α2 x2 w2 r2 => ?_⟩
            have hp2 := pre_get x2.pre hp
            obtain ⟨o, hH, ks, eo, kr⟩ := w2.cell n p _ hp2 h3
            subst eo
            obtain ⟨b, ob, rfl, hb, ms, em, mr⟩ := (show RepR K F2 α2 u (.dic true more) from r2)
            subst em
            have hne : p ≠ b := fun e => by
              subst e
              have := w2.out _ (List.mem_of_getElem? hp2)
              rw [hb] at this
              cases this
            refine ⟨p, b, ks, ms, rfl, rfl, hne, hH, w2.sub _ _ hb, upOk_ok P w k1 kr mr, by rw [krel_len kr, krel_len mr]; exact sz_le k2, ?_⟩
            exact q σ _ F2 α2 (x1.trans x2) (w2.wroteG hp2 ⟨_, upd_same, _, rfl, krel_merge mr kr⟩) (he.mono (x1.trans x2))
          · cases ev
        · cases ev
      · cases ev
    · cases ev
  · cases ev
theorem i_expr {e : E} (h : tS K C W (.expr e) D σ H) : tDrop (tE K C e) D σ H := by
  obtain ⟨ρ, S, F, α, out, he, w, ev, q⟩ := h
  simp only [exS] at ev
  split at ev
  · cases ev
  · rename_i r s1 h1
    cases ev
    exact ⟨ρ, S, F, α, r, s1, he, w, h1, fun v H1 F1 α1 x1 w1 r1 => q σ H1 F1 α1 x1 w1 (he.mono x1)⟩
theorem i_seq {st : S} {r : Ss} (h : tSs K C W (.cons st r) D σ H) : tSeq (tS K C W st) (tSs K C W r) D σ H := by
  obtain ⟨ρ, S, F, α, out, he, w, ev, q⟩ := h
  simp only [exSs] at ev
  cases h1 : exS C W st ρ S with
  | none => rw [h1] at ev; cases ev
  | some o1 =>
    rw [h1] at ev
    refine ⟨ρ, S, F, α, o1, he, w, h1, ?_⟩
    cases o1 with
    | nx ρ' s' => exact fun σ' H' F' α' x' w' he' => ⟨ρ', s', F', α', out, he', w', ev, q.mono x'⟩
    | rt v s' =>
      cases (Option.some.inj ev : Out.rt v s' = out)
      exact q
end
end PC
end
section
/-! PcSndS3: the statements' theorem. -/
namespace PC
open PySem PySem.Spec PyProof.Rows L2
theorem snd_asg {T : Tab} {W k : Nat} (g : G) (e : E) (c : Ctx) (t : Stmt) (h : chkS T (.asg g e) c t = true) (X : Cx) (ok : XOkS T W k c X) : PS X t (tS X.K (callD T.defs W k) W (.asg g e)) := by
    cases t <;> first | (cases h; done) | skip
    rename_i tgs v pos
    match tgs, h with
    | [tg], h =>
      obtain ⟨h1, h⟩ := and_split (show (chkE T e c v && (chkG g c tg && ((!(isTupE tg && isTupE v)) && !isDC v))) = true from h)
      obtain ⟨h2, h⟩ := and_split h
      obtain ⟨h3, h4⟩ := and_split h
      exact ps_asgn ok h1 h2 (by rw [Bool.not_eq_true'] at h3; exact h3) (by rw [Bool.not_eq_true'] at h4; exact h4)

theorem snd_thaw {T : Tab} {W k : Nat} (i : Nat) (e : E) (c : Ctx) (t : Stmt) (h : chkS T (.thaw i e) c t = true) (X : Cx) (ok : XOkS T W k c X) : PS X t (tS X.K (callD T.defs W k) W (.thaw i e)) := by
    cases t <;> first | (cases h; done) | skip
    rename_i tgs v pos
    match tgs, h with
    | [.Name x p], h =>
      obtain ⟨h1, h⟩ := and_split (show (fresh T e && (chkE T e c v && chkG (.name i) c (.Name x p))) = true from h)
      obtain ⟨h2, h3⟩ := and_split h
      exact ps_thaw ok h1 h2 h3

theorem snd_par {T : Tab} {W k : Nat} (is : List Nat) (es : Es) (c : Ctx) (t : Stmt) (h : chkS T (.par is es) c t = true) (X : Cx) (ok : XOkS T W k c X) : PS X t (tS X.K (callD T.defs W k) W (.par is es)) := by
    cases t <;> first | (cases h; done) | skip
    rename_i tgs v pos
    cases tgs with
    | nil => cases h
    | cons tg r =>
      cases r with
      | cons _ _ => cases tg <;> cases h
      | nil =>
        cases tg <;> first | (cases h; done) | skip
        cases v <;> first | (cases h; done) | skip
        rename_i ts n1 p1 vs n2 p2
        obtain ⟨h1, h⟩ := and_split (show (chkEs T es c vs && (chkNames c is ts && parOk c is ts vs)) = true from h)
        obtain ⟨h2, h3⟩ := and_split h
        exact ps_parR ok h1 h2 h3

theorem snd_aug {T : Tab} {W k : Nat} (i : Nat) (o : Bop) (e : E) (c : Ctx) (t : Stmt) (h : chkS T (.aug i o e) c t = true) (X : Cx) (ok : XOkS T W k c X) : PS X t (tS X.K (callD T.defs W k) W (.aug i o e)) := by
    cases t <;> first | (cases h; done) | skip
    rename_i tg op v pos
    cases tg <;> first | (cases h; done) | skip
    rename_i x p
    obtain ⟨h1, h⟩ := and_split (show (bopB o op && (augOk o && (chkE T e c v && (chkG (.name i) c (.Name x p) && visB c x)))) = true from h)
    obtain ⟨h2, h⟩ := and_split h
    obtain ⟨h3, h⟩ := and_split h
    obtain ⟨h4, h5⟩ := and_split h
    obtain ⟨g1, g2⟩ := and_split (show (decide (c.N[i]? = some x) && locB c x) = true from h4)
    obtain ⟨hl, hf⟩ := ok.loc g2
    rw [bopB_eq h1]
    exact PS.imp (ps_aug (by rw [ok.N]; exact ok.nd) (by rw [ok.N]; exact of_decide_eq_true g1) hl (sndE e c v h3 X ok.toXOk) (ip_D o h2) hf) fun D σ H => i_aug

theorem snd_seti {T : Tab} {W k : Nat} (a b e : E) (c : Ctx) (t : Stmt) (h : chkS T (.seti a b e) c t = true) (X : Cx) (ok : XOkS T W k c X) : PS X t (tS X.K (callD T.defs W k) W (.seti a b e)) := by
    cases t <;> first | (cases h; done) | skip
    rename_i tgs v pos
    match tgs, h with
    | [.Subscript x y p], h =>
      obtain ⟨h1, h⟩ := and_split (show (chkE T e c v && (chkE T a c x && chkE T b c y)) = true from h)
      obtain ⟨h2, h3⟩ := and_split h
      refine PS.imp (ps_asg (sndE e c v h1 X ok.toXOk) (pg_sub (sndE a c x h2 X ok.toXOk) (sndE b c y h3 X ok.toXOk) set_list ?_) (Eq.trans (b := swapsWith v (some (.Subscript x y p)) pos.line X.env) rfl (sw_sub v (chk_plain h1) _ _)) (ss_sub _ _) rfl) fun D σ H => i_seti
      intro u
      have := chk_plain h3
      cases y <;> first | rfl | (cases this; done)

theorem snd_augi {T : Tab} {W k : Nat} (a b : E) (o : Bop) (e : E) (c : Ctx) (t : Stmt) (h : chkS T (.augi a b o e) c t = true) (X : Cx) (ok : XOkS T W k c X) : PS X t (tS X.K (callD T.defs W k) W (.augi a b o e)) := by
    cases t <;> first | (cases h; done) | skip
    rename_i tg op v pos
    cases tg <;> first | (cases h; done) | skip
    rename_i x y p
    obtain ⟨h1, h⟩ := and_split (show (bopB o op && (augOk o && (chkE T e c v && (chkE T a c x && chkE T b c y)))) = true from h)
    obtain ⟨h2, h⟩ := and_split h
    obtain ⟨h3, h⟩ := and_split h
    obtain ⟨h4, h5⟩ := and_split h
    rw [bopB_eq h1]
    refine PS.imp (ps_augS (sndE a c x h4 X ok.toXOk) (sndE b c y h5 X ok.toXOk) get_list (sndE e c v h3 X ok.toXOk) (ip_D o h2) set_list ?_) fun D σ H => i_augi
    intro u1 u2 u3
    have := chk_plain h5
    cases y <;> first | rfl | (cases this; done)

theorem snd_ret {T : Tab} {W k : Nat} (e : E) (c : Ctx) (st : Stmt) (h : chkS T (.ret e) c st = true) (X : Cx) (ok : XOkS T W k c X) : PS X st (tS X.K (callD T.defs W k) W (.ret e)) := by
    cases st <;> first | (cases h; done) | skip
    rename_i v pos
    cases v with
    | none => cases h
    | some v => exact PS.imp (ps_ret (sndE e c v h X ok.toXOk)) fun D σ H => i_ret

theorem snd_app {T : Tab} {W k : Nat} (a e : E) (c : Ctx) (st : Stmt) (h : chkS T (.app a e) c st = true) (X : Cx) (ok : XOkS T W k c X) : PS X st (tS X.K (callD T.defs W k) W (.app a e)) := by
    cases st <;> first | (cases h; done) | skip
    rename_i v pos
    match v, h with
    | .Call (.Attribute (.Name x p) m apos) [t] [] cpos, h =>
      obtain ⟨h1, h⟩ := and_split (show (decide (m = ("append" : Str)) && ((apos.endLine == cpos.line) && (chkE T a c (.Name x p) && chkE T e c t))) = true from h)
      obtain ⟨h2, h⟩ := and_split h
      obtain ⟨h3, h4⟩ := and_split h
      have e1 := of_decide_eq_true h1
      subst e1
      exact PS.imp (ps_expr (pe_bm PySem.F.plainAttrs_list PySem.F.slot_list_append PySem.F.type_list_append mt_append (sndE a c _ h3 X ok.toXOk) (pa_cons (sndE e c t h4 X ok.toXOk) pa_nil (star_of (chk_plain h4) _ _)) rfl (mt_few (chk_plain h4) _ _) h2 (star_of (chk_plain h4) _ _) rfl) rfl) fun D σ H => i_app

theorem snd_ext {T : Tab} {W k : Nat} (a e : E) (c : Ctx) (st : Stmt) (h : chkS T (.ext a e) c st = true) (X : Cx) (ok : XOkS T W k c X) : PS X st (tS X.K (callD T.defs W k) W (.ext a e)) := by
    cases st <;> first | (cases h; done) | skip
    rename_i v pos
    match v, h with
    | .Call (.Attribute (.Name x p) m apos) [t] [] cpos, h =>
      obtain ⟨h1, h⟩ := and_split (show (decide (m = ("extend" : Str)) && ((apos.endLine == cpos.line) && (chkE T a c (.Name x p) && chkE T e c t))) = true from h)
      obtain ⟨h2, h⟩ := and_split h
      obtain ⟨h3, h4⟩ := and_split h
      have e1 := of_decide_eq_true h1
      subst e1
      exact PS.imp (ps_expr (pe_bm PySem.F.plainAttrs_list PySem.F.slot_list_extend PySem.F.type_list_extend mt_extend (sndE a c _ h3 X ok.toXOk) (pa_cons (sndE e c t h4 X ok.toXOk) pa_nil (star_of (chk_plain h4) _ _)) rfl (mt_few (chk_plain h4) _ _) h2 (star_of (chk_plain h4) _ _) rfl) rfl) fun D σ H => i_ext

theorem snd_dupd {T : Tab} {W k : Nat} (a e : E) (c : Ctx) (st : Stmt) (h : chkS T (.dupd a e) c st = true) (X : Cx) (ok : XOkS T W k c X) : PS X st (tS X.K (callD T.defs W k) W (.dupd a e)) := by
    cases st <;> first | (cases h; done) | skip
    rename_i v pos
    match v, h with
    | .Call (.Attribute (.Name x p) m apos) [t] [] cpos, h =>
      obtain ⟨h1, h⟩ := and_split (show (decide (m = ("update" : Str)) && ((apos.endLine == cpos.line) && (chkE T a c (.Name x p) && chkE T e c t))) = true from h)
      obtain ⟨h2, h⟩ := and_split h
      obtain ⟨h3, h4⟩ := and_split h
      have e1 := of_decide_eq_true h1
      subst e1
      exact PS.imp (ps_expr (pe_bm PySem.F.plainAttrs_dict PySem.F.slot_dict_update PySem.F.type_dict_update (mt_updT (by have := ok.hu; omega)) (sndE a c _ h3 X ok.toXOk) (pa_cons (sndE e c t h4 X ok.toXOk) pa_nil (star_of (chk_plain h4) _ _)) rfl (mt_few (chk_plain h4) _ _) h2 (star_of (chk_plain h4) _ _) rfl) rfl) fun D σ H => i_dupd

theorem snd_pop {T : Tab} {W k : Nat} (a : E) (c : Ctx) (st : Stmt) (h : chkS T (.pop a) c st = true) (X : Cx) (ok : XOkS T W k c X) : PS X st (tS X.K (callD T.defs W k) W (.pop a)) := by
    cases st <;> first | (cases h; done) | skip
    rename_i v pos
    match v, h with
    | .Call (.Attribute (.Name x p) m apos) [] [] cpos, h =>
      obtain ⟨h1, h⟩ := and_split (show (decide (m = ("pop" : Str)) && ((apos.endLine == cpos.line) && chkE T a c (.Name x p))) = true from h)
      obtain ⟨h2, h3⟩ := and_split h
      have e1 := of_decide_eq_true h1
      subst e1
      exact PS.imp (ps_expr (pe_bm0 PySem.F.plainAttrs_list PySem.F.slot_list_pop PySem.F.type_list_pop mt_pop (sndE a c _ h3 X ok.toXOk) rfl h2) rfl) fun D σ H => i_pop

theorem snd_dnew {T : Tab} {W k : Nat} (i : Nat) (b : Bool) (c : Ctx) (st : Stmt) (h : chkS T (.dnew i b) c st = true) (X : Cx) (ok : XOkS T W k c X) : PS X st (tS X.K (callD T.defs W k) W (.dnew i b)) := by
    cases st <;> first | (cases h; done) | skip
    rename_i tgs v pos
    cases tgs with
    | nil => cases h
    | cons tg r =>
      cases tg <;> first | (cases h; done) | skip
      rename_i x p
      cases r with
      | cons _ _ => cases h
      | nil =>
      cases v <;> first | (cases h; done) | skip
      rename_i ks vs dp
      cases ks with
      | cons _ _ => cases h
      | nil =>
      cases vs with
      | cons _ _ => cases h
      | nil =>
      obtain ⟨g1, g2⟩ := and_split (show (decide (c.N[i]? = some x) && locB c x) = true from h)
      obtain ⟨hl, hf⟩ := ok.loc g2
      cases b with
      | false => exact PS.imp (ps_set (by rw [ok.N]; exact ok.nd) (by rw [ok.N]; exact of_decide_eq_true g1) hl pe_dnewK rfl hf) fun D σ H => i_dnewK
      | true => exact PS.imp (ps_set (by rw [ok.N]; exact ok.nd) (by rw [ok.N]; exact of_decide_eq_true g1) hl pe_dnewT rfl hf) fun D σ H => i_dnewT
theorem snd_dset {T : Tab} {W k : Nat} (a b e : E) (c : Ctx) (st : Stmt) (h : chkS T (.dset a b e) c st = true) (X : Cx) (ok : XOkS T W k c X) : PS X st (tS X.K (callD T.defs W k) W (.dset a b e)) := by
    cases st <;> first | (cases h; done) | skip
    rename_i tgs v pos
    match tgs, h with
    | [.Subscript x y p], h =>
      obtain ⟨h1, h⟩ := and_split (show (chkE T e c v && (chkE T a c x && chkE T b c y)) = true from h)
      obtain ⟨h2, h3⟩ := and_split h
      have hu := ok.toXOk.hu
      exact PS.imp (ps_dput (by omega) (sndE a c x h2 X ok.toXOk) (sndE b c y h3 X ok.toXOk) (sndE e c v h1 X ok.toXOk) (sw_sub v (chk_plain h1) _ _)) fun D σ H => i_dset
theorem snd_expr {T : Tab} {W k : Nat} (e : E) (c : Ctx) (st : Stmt) (h : chkS T (.expr e) c st = true) (X : Cx) (ok : XOkS T W k c X) : PS X st (tS X.K (callD T.defs W k) W (.expr e)) := by
    cases st <;> first | (cases h; done) | skip
    rename_i t pos
    ·
      obtain ⟨h1, h2⟩ := and_split (show (isCall t && chkE T e c t) = true from h)
      cases t <;> first | (cases h1; done) | skip
      exact PS.imp (ps_expr (sndE e c _ h2 X ok.toXOk) rfl) fun D σ H => i_expr
theorem i_parG {K : PySem.W.Frag} {C : Call} {W : Nat} {gs : Gs} {es : Es} {D : Ends} {σ : L2.St} {H : Hp} (h : tS K C W (.parG gs es) D σ H) :
    tEs K C es σ H fun vs H1 => vs.length ≤ sizeLine ∧ ∀ p, H1 p = none → tGs K gs vs σ (upd H1 p (.tup vs)) D.nx := by
  obtain ⟨ρ, S, F, α, o, he, w, ev, q⟩ := h
  simp only [exS] at ev
  split at ev
  · cases ev
  · rename_i rs s1 h1
    split at ev
    · rename_i xs h2
      split at ev
      · rename_i hz
        split at ev
        · rename_i ρ' h3
          cases ev
          refine ⟨ρ, S, F, α, rs, s1, he, w, h1, fun vs H1 F1 α1 x1 w1 r1 => ?_⟩
          have rp := r1.pures h2
          refine ⟨by rw [rp.length]; exact sz_le hz, fun p hp => ⟨F1, α1, s1, ρ, xs, ρ', he.mono x1, w1.more hp, rp, h3, fun σ' he' _ => q _ _ _ _ x1 (w1.more hp) he'⟩⟩
        · cases ev
      · cases ev
    · cases ev
theorem snd_parG {T : Tab} {W k : Nat} (gs : Gs) (es : Es) (c : Ctx) (st : Stmt) (h : chkS T (.parG gs es) c st = true) (X : Cx) (ok : XOkS T W k c X) : PS X st (tS X.K (callD T.defs W k) W (.parG gs es)) := by
    cases st <;> first | (cases h; done) | skip
    rename_i tgs v pos
    cases tgs with
    | nil => cases h
    | cons tg r =>
      cases r with
      | cons _ _ => cases tg <;> cases h
      | nil =>
      cases tg <;> first | (cases h; done) | skip
      cases v <;> first | (cases h; done) | skip
      rename_i ts n1 p1 vs n2 p2
      obtain ⟨h1, h⟩ := and_split (show (chkEs T es c vs && (chkGs gs c ts && (decide (vs.length = ts.length) && ((ts.length == 2 || ts.length == 3) && nswB c.sc ts vs)))) = true from h)
      obtain ⟨h2, h⟩ := and_split h
      obtain ⟨h3, h⟩ := and_split h
      obtain ⟨h4, h5⟩ := and_split h
      have hsw : swapsWithSole [.Tuple ts n1 p1] (.Tuple vs n2 p2) pos.line X.env = pure false := rfl
      obtain ⟨k1, k2⟩ := assign_len (env := X.env) h2
      refine PS.imp (ps_asg (pe_tup (sndEs es c vs h1 X ok.toXOk)) (pg_tup ok.calm (sndGs gs c ts h2 X ok.toXOk) rfl k2) hsw (ss_no ok h1 (of_decide_eq_true h3) h4 h5) rfl) fun D σ H q => ?_
      obtain ⟨ρ, S, F, α, rs, S', he, w, ev, q⟩ := i_parG q
      refine ⟨ρ, S, F, α, rs, S', he, w, ev, fun us H1 F1 α1 x1 w1 r1 => ?_⟩
      obtain ⟨q1, q2⟩ := q us H1 F1 α1 x1 w1 r1
      refine ⟨q1, fun p hp => ⟨p, us, rfl, SqT.of upd_same, ?_, q2 p hp⟩⟩
      obtain ⟨_, _, _, _, xs, ρ', _, _, rr, ee, _⟩ := q2 p hp
      rw [k1, rr.length]
      exact (gs_len gs c ts h2 xs _ _ ee).symm
theorem snd_pass {T : Tab} {W k : Nat}  (c : Ctx) (st : Stmt) (h : chkS T (.pass) c st = true) (X : Cx) (ok : XOkS T W k c X) : PS X st (tS X.K (callD T.defs W k) W (.pass)) := by
    cases st <;> first | (cases h; done) | skip
    exact PS.imp ps_pass fun D σ H ⟨ρ, S, F, α, o, he, w, ev, q⟩ => by
      cases ev
      exact q σ H F α Ext.refl w he

theorem snd_dead {T : Tab} {W k : Nat}  (c : Ctx) (st : Stmt) (h : chkS T (.dead) c st = true) (X : Cx) (ok : XOkS T W k c X) : PS X st (tS X.K (callD T.defs W k) W (.dead)) :=  PS.imp ps_never fun D σ H ⟨ρ, S, F, α, o, he, w, ev, q⟩ => by cases ev


theorem snd_if {T : Tab} {W k : Nat} (d : E) (t f : Ss) (c : Ctx) (st : Stmt) (h : chkS T (.if_ d t f) c st = true) (X : Cx) (ok : XOkS T W k c X)
    (ht : ∀ l, chkSs T t c l = true → PSs X l (tSs X.K (callD T.defs W k) W t)) (hf : ∀ l, chkSs T f c l = true → PSs X l (tSs X.K (callD T.defs W k) W f)) : PS X st (tS X.K (callD T.defs W k) W (.if_ d t f)) := by
    cases st <;> first | (cases h; done) | skip
    rename_i x p q pos
    obtain ⟨h1, h⟩ := and_split (show (tstOk d && (chkE T d c x && (chkSs T t c p && chkSs T f c q))) = true from h)
    obtain ⟨h2, h⟩ := and_split h
    obtain ⟨h3, h4⟩ := and_split h
    exact PS.imp (ps_if (sndT d c x h2 h1 X ok.toXOk) (ht p h3) (hf q h4)) fun D σ H => i_if
theorem snd_whl {T : Tab} {W k : Nat} (d : E) (b : Ss) (c : Ctx) (st : Stmt) (h : chkS T (.whl d b) c st = true) (X : Cx) (ok : XOkS T W k c X)
    (hb : ∀ l, chkSs T b c l = true → PSs X l (tSs X.K (callD T.defs W k) W b)) : PS X st (tS X.K (callD T.defs W k) W (.whl d b)) := by
    cases st <;> first | (cases h; done) | skip
    rename_i x p q pos
    cases q with
    | cons _ _ => cases h
    | nil =>
      obtain ⟨h1, h⟩ := and_split (show (tstOk d && (chkE T d c x && chkSs T b c p)) = true from h)
      obtain ⟨h2, h3⟩ := and_split h
      exact PS.imp (ps_while ok.passes (sndT d c x h2 h1 X ok.toXOk) (hb p h3)) fun D σ H => i_whl
theorem it_fold {T : Tab} {it : It} {c : Ctx} {tg x : Expr} {env : PySem.Env} (h1 : chkIt T it c tg x = true) (v : Value) : foldedSetIterable x env v = pure v := by
  cases it <;> first | exact fold_of (chk_plain h1) _ _ | (cases x <;> first | rfl | cases h1)
theorem snd_for {T : Tab} {W k : Nat} (g : G) (it : It) (b : Ss) (c : Ctx) (st : Stmt) (h : chkS T (.for_ g it b) c st = true) (X : Cx) (ok : XOkS T W k c X)
    (hb : ∀ l, chkSs T b c l = true → PSs X l (tSs X.K (callD T.defs W k) W b)) : PS X st (tS X.K (callD T.defs W k) W (.for_ g it b)) := by
    cases st <;> first | (cases h; done) | skip
    rename_i tg x p q pos
    cases q with
    | cons _ _ => cases h
    | nil =>
      obtain ⟨h1, h⟩ := and_split (show (chkIt T it c tg x && (chkG g c tg && chkSs T b c p)) = true from h)
      obtain ⟨h2, h3⟩ := and_split h
      exact PS.imp (ps_for ok.passes ok.calm (sndIt it c tg x h1 X ok.toXOk) (sndG g c tg h2 X ok.toXOk) (hb p h3) (fun v => it_fold h1 v)) fun D σ H => i_for
end PC
end
section
namespace PC
open PySem PySem.Spec PyProof.Rows L2
theorem snd_nil {T : Tab} {W k : Nat} (c : Ctx) (l : List Stmt) (h : chkSs T .nil c l = true) (X : Cx) (ok : XOkS T W k c X) : PSs X l (tSs X.K (callD T.defs W k) W .nil) := by
    cases l with
    | cons _ _ => cases h
    | nil =>
      refine PSs.imp pss_nil fun D σ H ⟨ρ, S, F, α, o, he, w, ev, q⟩ => ?_
      cases ev
      exact q σ H F α Ext.refl w he
theorem snd_cons {T : Tab} {W k : Nat} (s : S) (r : Ss) (c : Ctx) (l : List Stmt) (h : chkSs T (.cons s r) c l = true) (X : Cx) (ok : XOkS T W k c X)
    (hs : ∀ t, chkS T s c t = true → PS X t (tS X.K (callD T.defs W k) W s)) (hr : ∀ l, chkSs T r c l = true → PSs X l (tSs X.K (callD T.defs W k) W r)) : PSs X l (tSs X.K (callD T.defs W k) W (.cons s r)) := by
    cases l with
    | nil => cases h
    | cons x xs =>
      obtain ⟨h1, h2⟩ := and_split (show (chkS T s c x && chkSs T r c xs) = true from h)
      exact PSs.imp (pss_cons (hs x h1) (hr xs h2)) fun D σ H => i_seq
mutual
theorem sndS {T : Tab} {W k : Nat} : ∀ (s : S) (c : Ctx) (t : Stmt), chkS T s c t = true → ∀ (X : Cx), XOkS T W k c X → PS X t (tS X.K (callD T.defs W k) W s)
  | .asg g e, c, t, h, X, ok => snd_asg g e c t h X ok
  | .thaw i e, c, t, h, X, ok => snd_thaw i e c t h X ok
  | .par is es, c, t, h, X, ok => snd_par is es c t h X ok
  | .aug i o e, c, t, h, X, ok => snd_aug i o e c t h X ok
  | .seti a b e, c, t, h, X, ok => snd_seti a b e c t h X ok
  | .augi a b o e, c, t, h, X, ok => snd_augi a b o e c t h X ok
  | .if_ d t f, c, st, h, X, ok => snd_if d t f c st h X ok (fun l hl => sndSs t c l hl X ok) (fun l hl => sndSs f c l hl X ok)
  | .whl d b, c, st, h, X, ok => snd_whl d b c st h X ok (fun l hl => sndSs b c l hl X ok)
  | .for_ g it b, c, st, h, X, ok => snd_for g it b c st h X ok (fun l hl => sndSs b c l hl X ok)
  | .ret e, c, t, h, X, ok => snd_ret e c t h X ok
  | .app a e, c, t, h, X, ok => snd_app a e c t h X ok
  | .ext a e, c, t, h, X, ok => snd_ext a e c t h X ok
  | .pop a, c, t, h, X, ok => snd_pop a c t h X ok
  | .dnew i b, c, t, h, X, ok => snd_dnew i b c t h X ok
  | .dset a b e, c, t, h, X, ok => snd_dset a b e c t h X ok
  | .dupd a e, c, t, h, X, ok => snd_dupd a e c t h X ok
  | .expr e, c, t, h, X, ok => snd_expr e c t h X ok
  | .parG gs es, c, t, h, X, ok => snd_parG gs es c t h X ok
  | .pass, c, t, h, X, ok => snd_pass  c t h X ok
  | .dead, c, t, h, X, ok => snd_dead  c t h X ok
theorem sndSs {T : Tab} {W k : Nat} : ∀ (s : Ss) (c : Ctx) (t : List Stmt), chkSs T s c t = true → ∀ (X : Cx), XOkS T W k c X → PSs X t (tSs X.K (callD T.defs W k) W s)
  | .nil, c, l, h, X, ok => snd_nil c l h X ok
  | .cons s r, c, l, h, X, ok => snd_cons s r c l h X ok (fun t ht => sndS s c t ht X ok) (fun l hl => sndSs r c l hl X ok)
end
end PC
end
section
/-! PcFn: every def keeps its promise; the law. -/
namespace PC
open PySem PySem.Spec PyProof.Rows L2
theorem EnvOk.start {K : PySem.W.Frag} {F : Hp} {α : List Addr} {N : List Str} : ∀ {vs : List V} {rs : List R}, RepRs K F α vs rs → EnvOk K F α (L2.start N vs) (PC.start N.length rs) := by
  intro vs rs h
  have hl := h.length
  refine ⟨by simp [L2.start, PC.start, hl], fun i r e => ?_⟩
  unfold PC.start at e
  unfold L2.start
  by_cases hi : i < rs.length
  · rw [List.getElem?_append_left (by simpa using hi)] at e
    rw [List.getElem?_append_left (by simpa [hl] using hi)]
    rw [List.getElem?_map] at e ⊢
    have e' : rs[i]? = some r := by
      cases q : rs[i]? with
      | none => rw [q] at e; cases e
      | some x => rw [q] at e; exact congrArg _ (Option.some.inj (Option.some.inj e))
    obtain ⟨v, h1, h2⟩ := h.get e'
    exact ⟨v, by rw [h1] <;> rfl, h2⟩
  · rw [List.getElem?_append_right (by simpa using hi)] at e
    obtain ⟨h1, h2⟩ := List.getElem?_eq_some_iff.mp e
    rw [List.getElem_replicate] at h2
    cases h2
theorem sndSsA {T : Tab} {W k : Nat} : ∀ (s : Ss) (c : Ctx) (l : List Stmt), chkSs T s c l = true → ∀ (X : Cx), XOkS T W k c X → ∀ {tl : List Stmt} {u : TS}, PSs X tl u → PSs X (l ++ tl) (tSeq (tSs X.K (callD T.defs W k) W s) u)
  | .nil, c, l, h, X, ok, tl, u, hu => by
    cases l with
    | cons _ _ => cases h
    | nil =>
      refine PSs.imp hu fun D σ H ⟨ρ, S, F, α, o, he, w, ev, q⟩ => ?_
      cases ev
      exact q σ H F α Ext.refl w he
  | .cons s r, c, l, h, X, ok, tl, u, hu => by
    cases l with
    | nil => cases h
    | cons x xs =>
      obtain ⟨h1, h2⟩ := and_split (show (chkS T s c x && chkSs T r c xs) = true from h)
      exact PSs.imp (pss_cons (sndS s c x h1 X ok) (sndSsA r c xs h2 X ok hu)) fun D σ H => i_seq
def ctxOf (d : Def) (sc : Scope) : Ctx := ⟨d.names, sc, fun _ => true⟩
def chkFin (T : Tab) (d : Def) (sc : Scope) (body : List Stmt) : Bool := match d.fin with
  | none => chkSs T d.body (ctxOf d sc) body
  | some e => chkSs T d.body (ctxOf d sc) body.dropLast && (fresh T e && (match body.getLast? with
    | some (.Return (some t) _) => !isComp t && chkE T e (ctxOf d sc) t
    | _ => false))
section
variable {P : Program} {w : World} {K : PySem.W.Frag} {mg : Str → Option Value} {base : Heap} {T : Tab} {W : Nat}
/-- the names that the text takes from the module -/
structure Mods (K : PySem.W.Frag) (mg : Str → Option Value) (T : Tab) : Prop where
  blt : ∀ x ∈ bnames, mg x = none
  glob : ∀ x v, (x, v) ∈ T.globs → ∃ u w, mg x = some u ∧ RelV w u ∧ ∀ F α, RepR K F α w (globR v)
structure Funs (P : Program) (w : World) (K : PySem.W.Frag) (mg : Str → Option Value) (base : Heap) (T : Tab) (W k : Nat) : Prop where
  funs : ∀ (f : Nat) (d : Def), T.defs[f]? = some d → ∃ fa fd ps, FnOk P w K mg base CX0 k fa fd ps (spF K T W k f) ∧ mg d.name = some (.ref fa) ∧ PySem.W.keepIn K (.ref fa) = true ∧ Binds K fd ps []
  news : ∀ (f : Nat) (d : Def), T.defs[f]? = some d → d.fin.isSome = true → ∃ fa fd ps, FnOk P w K mg base CX0 k fa fd ps (spN K T W k f) ∧ mg d.name = some (.ref fa) ∧ PySem.W.keepIn K (.ref fa) = true ∧ Binds K fd ps []
/-- how a def stands -/
structure Ent (K : PySem.W.Frag) (mg : Str → Option Value) (T : Tab) (d : Def) (x qual : Str) (params : Arguments) (body : List Stmt) (scope : Scope) (fa : Addr) (fd : FuncData) (ps : List Str) : Prop where
  fn : FunD K x qual params body scope [] [] fa fd
  sc : FnScope d.names ps scope
  np : ps.length = d.np
  chk : chkFin T d scope body = true
  bind : Binds K fd ps []
  mg : mg d.name = some (.ref fa)
theorem take_pre {α β : List Addr} {S : Store} (h : α <+: β) (l : α.length = S.length) : β.take S.length = α := by
  obtain ⟨t, rfl⟩ := h
  rw [← l, List.take_left']
  rfl
theorem notin_pre {α β : List Addr} (h : α <+: β) (nd : β.Nodup) {i : Nat} {a : Addr} (hi : β[i]? = some a) (hl : α.length ≤ i) : a ∉ α := fun hm => by
  obtain ⟨j, hj⟩ := List.mem_iff_getElem?.mp hm
  have hj' := pre_get h hj
  have hjl : j < α.length := (List.getElem?_eq_some_iff.mp hj).1
  obtain ⟨q1, e1⟩ := List.getElem?_eq_some_iff.mp hi
  obtain ⟨q2, e2⟩ := List.getElem?_eq_some_iff.mp hj'
  have := (List.getElem_inj nd).mp (e1.trans e2.symm)
  omega
theorem xoks (M : Mods K mg T) (Fs : Funs P w K mg base T W k) {d : Def} {ps : List Str} {scope : Scope} (S : FnScope d.names ps scope) (qual : Str) (f : Addr) (cdv : Value) (A : Around) (outer : List PySem.Env) (s : Shared) (H : Hp) (E : XK)
    (hr : Room k (A.deeper (envOfC qual scope s.heap.objs.size f cdv))) : XOkS T W k (ctxOf d scope) (cxOf CX0 P w K mg base d.names qual scope f cdv A outer s H E).nox :=
  ⟨⟨rfl, rfl, S.nd, rfl, rfl, hr, M.blt, M.glob, Fs.funs, Fs.news⟩, S.kind, rfl⟩
theorem len_of {f : Nat} {d : Def} {k : Nat} {rs : List R} {S : Store} {o : R × Store} (hd : T.defs[f]? = some d) (h : callD T.defs W (k + 1) f rs S = some o) :
    rs.length = d.np ∧ (match d.fin with
      | none => back S.length (exSs (callD T.defs W k) W d.body (start d.names.length rs) S)
      | some e => backN S.length (callD T.defs W k) e (exSs (callD T.defs W k) W d.body (start d.names.length rs) S)) = some o := by
  simp only [callD, hd] at h
  split at h
  · rename_i hl
    exact ⟨hl, h⟩
  · cases h
theorem ok_none {k f : Nat} {d : Def} {x qual : Str} {params : Arguments} {body : List Stmt} {scope : Scope} {fa : Addr} {fd : FuncData} {ps : List Str} (M : Mods K mg T) (Fs : Funs P w K mg base T W k) (hd : T.defs[f]? = some d) (E : Ent K mg T d x qual params body scope fa fd ps) (hf : d.fin = none) :
    FnOk P w K mg base CX0 (k + 1) fa fd ps (spF K T W (k + 1) f) := by
  have hc : chkSs T d.body (ctxOf d scope) body = true := by
    have := E.chk
    unfold chkFin at this
    rw [hf] at this
    exact this
  refine E.fn.ok E.sc (fun vs H Q X h => ?_) (fun cdv A outer s H vs Q X hr h => ⟨_, PSs.nox (sndSs d.body _ body hc _ (xoks M Fs E.sc qual fa cdv A outer s H X hr)), ?_⟩)
  · obtain ⟨rs, S, F, α, r, S', r1, w1, ev, q⟩ := h
    rw [r1.length, (len_of hd ev).1, E.np]
  · obtain ⟨rs, S, F, α, r, S', r1, w1, ev, q⟩ := h
    have h2 := (len_of hd ev).2
    rw [hf] at h2
    simp only at h2
    cases ho : exSs (callD T.defs W k) W d.body (start d.names.length rs) S with
    | none => rw [ho] at h2; cases h2
    | some o =>
      rw [ho] at h2
      refine ⟨_, S, F, α, o, EnvOk.start r1, w1, ho, ?_⟩
      cases o with
      | nx ρ s1 =>
        cases h2
        intro σ' H' F' α' x w' _
        have wd := w'.drop S.length
        rw [take_pre x.pre w1.len] at wd
        exact q .non H' F' x.ex wd .non
      | rt r0 s1 =>
        intro v H' F' α' x w' rv
        have wd := w'.drop S.length
        rw [take_pre x.pre w1.len] at wd
        cases r0 with
        | d y =>
          cases h2
          exact q v H' F' x.ex wd rv
        | scr ns => cases h2
        | kt xs =>
          cases h2
          exact q v H' F' x.ex wd rv
        | dic t kvs =>
          cases h2
          exact q v H' F' x.ex wd rv
        | loc i =>
          simp only [back] at h2
          split at h2
          · cases h2
          · rename_i hi
            split at h2
            · rename_i xs hx
              cases h2
              obtain ⟨a, rfl, ha⟩ := rv
              obtain ⟨us, hH, hr'⟩ := w'.cell i a _ ha hx
              have hn : a ∉ α := notin_pre x.pre w'.nd ha (by rw [w1.len]; omega)
              obtain ⟨w2, x2⟩ := wd.freeze (w'.out a (List.mem_of_getElem? ha)) hn hH
              exact q _ H' _ (x.ex.trans x2.ex) w2 (.lst upd_same (Reps.mono x2.ex _ hr'))
            · rename_i t kvs hx
              cases h2
              obtain ⟨a, rfl, ha⟩ := rv
              obtain ⟨o, hH, hr'⟩ := w'.cell i a _ ha hx
              have hn : a ∉ α := notin_pre x.pre w'.nd ha (by rw [w1.len]; omega)
              obtain ⟨w2, x2⟩ := wd.freeze (w'.out a (List.mem_of_getElem? ha)) hn hH
              exact q _ H' _ (x.ex.trans x2.ex) w2 ⟨a, o, rfl, upd_same, hr'.mono x2.ex⟩
            · cases h2
theorem ok_some {k f : Nat} {d : Def} {x qual : Str} {params : Arguments} {body : List Stmt} {scope : Scope} {fa : Addr} {fd : FuncData} {ps : List Str} {e : E} (M : Mods K mg T) (Fs : Funs P w K mg base T W k) (hd : T.defs[f]? = some d) (E : Ent K mg T d x qual params body scope fa fd ps) (hf : d.fin = some e) :
    FnOk P w K mg base CX0 (k + 1) fa fd ps (spN K T W (k + 1) f) := by
  have hc := E.chk
  unfold chkFin at hc
  rw [hf] at hc
  obtain ⟨h1, h2⟩ := and_split hc
  obtain ⟨h2, h3⟩ := and_split h2
  obtain ⟨t, pos, hl, hcomp, h4⟩ : ∃ t pos, body.getLast? = some (.Return (some t) pos) ∧ isComp t = false ∧ chkE T e (ctxOf d scope) t = true := by
    split at h3
    · rename_i t pos hl
      obtain ⟨k1, k2⟩ := and_split h3
      exact ⟨t, pos, hl, by rw [Bool.not_eq_true'] at k1; exact k1, k2⟩
    · cases h3
  have hb : body = body.dropLast ++ [.Return (some t) pos] := by
    obtain ⟨l, rfl⟩ := List.getLast?_eq_some_iff.mp hl
    simp
  refine E.fn.ok E.sc (fun vs H Q X h => ?_) (fun cdv A outer s H vs Q X hr h => ⟨tSeq (tSs K (callD T.defs W k) W d.body) (tRet (tN K (callD T.defs W k) e)), PSs.nox ?_, ?_⟩)
  · obtain ⟨rs, S, F, α, r, S', r1, w1, ev, q⟩ := h
    rw [r1.length, (len_of hd ev).1, E.np]
  · have xo := xoks M Fs E.sc qual fa cdv A outer s H X hr
    rw [hb]
    exact sndSsA d.body _ _ h1 _ xo (pss_one (ps_ret (sndN e h2 _ t hcomp h4 _ xo.toXOk)))
  · obtain ⟨rs, S, F, α, ds, S', r1, w1, ev, q⟩ := h
    have h5 := (len_of hd ev).2
    rw [hf] at h5
    simp only at h5
    cases ho : exSs (callD T.defs W k) W d.body (start d.names.length rs) S with
    | none => rw [ho] at h5; cases h5
    | some o =>
      rw [ho] at h5
      refine ⟨_, S, F, α, o, EnvOk.start r1, w1, ho, ?_⟩
      cases o with
      | rt r0 s1 => cases h5
      | nx ρ s1 =>
        simp only [backN] at h5
        split at h5
        · rename_i ys s2 h6
          cases h5
          intro σ' H' F' α' x w' he
          refine ⟨ρ, s1, F', α', _, s2, he, w', h6, fun p H2 F2 α2 ws x2 w2 hF ha hp hr' => ?_⟩
          have wd := w2.drop S.length
          have pr := x.pre.trans x2.pre
          rw [take_pre pr w1.len] at wd
          exact q p H2 F2 ws (x.ex.trans x2.ex) wd hF (fun hm => ha (pr.subset hm)) hp hr'
        · cases h5
theorem fn_of_new {k f : Nat} {fa : Addr} {fd : FuncData} {ps : List Str} (hN : ∀ rs S r S', callD T.defs W k f rs S = some (r, S') → ∃ ds, r = .d (.list ds)) (F : FnOk P w K mg base CX0 k fa fd ps (spN K T W k f)) : FnOk P w K mg base CX0 k fa fd ps (spF K T W k f) :=
  F.imp fun vs H Q X ⟨rs, S, Fr, α, r, S', r1, w1, ev, q⟩ => by
    obtain ⟨ds, rfl⟩ := hN _ _ _ _ ev
    refine ⟨rs, S, Fr, α, ds, S', r1, w1, ev, fun p H' F' ws x w' hF ha hp hr => ?_⟩
    obtain ⟨w2, x2⟩ := w'.freeze hF ha hp
    exact q _ H' _ (x.trans x2.ex) w2 (.lst upd_same (Reps.mono x2.ex _ hr))
theorem no_zero {f : Nat} {vs : List V} {H : Hp} {Q : VK} {X : XK} (h : spF K T W 0 f vs H Q X) : False := by
  obtain ⟨rs, S, Fr, α, r, S', r1, w1, ev, q⟩ := h
  cases ev
theorem no_zeroN {f : Nat} {vs : List V} {H : Hp} {Q : VK} {X : XK} (h : spN K T W 0 f vs H Q X) : False := by
  obtain ⟨rs, S, Fr, α, r, S', r1, w1, ev, q⟩ := h
  cases ev
theorem ok_zero {f : Nat} {fa : Addr} {fd : FuncData} {ps : List Str} : FnOk P w K mg base CX0 0 fa fd ps (spF K T W 0 f) :=
  ⟨fun vs H Q X h => (no_zero h).elim, fun A outer s H args us vs Q X _ _ _ _ h => (no_zero h).elim⟩
theorem ok_zeroN {f : Nat} {fa : Addr} {fd : FuncData} {ps : List Str} : FnOk P w K mg base CX0 0 fa fd ps (spN K T W 0 f) :=
  ⟨fun vs H Q X h => (no_zeroN h).elim, fun A outer s H args us vs Q X _ _ _ _ h => (no_zeroN h).elim⟩
theorem funs_ok (M : Mods K mg T) (hE : ∀ (f : Nat) (d : Def), T.defs[f]? = some d → ∃ x qual params body scope fa fd ps, Ent K mg T d x qual params body scope fa fd ps) : ∀ k, Funs P w K mg base T W k
  | 0 => ⟨fun f d hd => by
      obtain ⟨x, qual, params, body, scope, fa, fd, ps, E⟩ := hE f d hd
      exact ⟨fa, fd, ps, ok_zero, E.mg, E.fn.kp, E.bind⟩, fun f d hd _ => by
      obtain ⟨x, qual, params, body, scope, fa, fd, ps, E⟩ := hE f d hd
      exact ⟨fa, fd, ps, ok_zeroN, E.mg, E.fn.kp, E.bind⟩⟩
  | k + 1 => by
    have ih := funs_ok M hE k
    refine ⟨fun f d hd => ?_, fun f d hd hs => ?_⟩
    · obtain ⟨x, qual, params, body, scope, fa, fd, ps, E⟩ := hE f d hd
      refine ⟨fa, fd, ps, ?_, E.mg, E.fn.kp, E.bind⟩
      cases hf : d.fin with
      | none => exact ok_none M ih hd E hf
      | some e =>
        refine fn_of_new (fun rs S r S' ev => ?_) (ok_some M ih hd E hf)
        have h5 := (len_of hd ev).2
        rw [hf] at h5
        simp only [backN] at h5
        split at h5
        · split at h5
          · cases h5
            exact ⟨_, rfl⟩
          · cases h5
        · cases h5
    · obtain ⟨x, qual, params, body, scope, fa, fd, ps, E⟩ := hE f d hd
      refine ⟨fa, fd, ps, ?_, E.mg, E.fn.kp, E.bind⟩
      cases hf : d.fin with
      | none => rw [hf] at hs; cases hs
      | some e => exact ok_some M ih hd E hf
end
end PC
end
section
/-! PcHead: from the law's row to the evaluator. -/
namespace PC
open PySem PySem.Spec PyProof.Rows L2
/-- global constants -/
def dvOf : D → Option He.Dv
  | .int i => some (.int i)
  | _ => none
def dvsOf : List D → Option (List He.Dv)
  | [] => some []
  | d :: ds => match dvOf d, dvsOf ds with
    | some x, some xs => some (x :: xs)
    | _, _ => none
def globB (K : PySem.W.Frag) : Str × D → Bool
  | (x, .tuple ds) => (He.Fa.glo x).ok K && (match dvsOf ds with
    | some vs => He.tupB K x vs
    | none => false)
  | (x, .str z) => (He.Fa.str x z).ok K
  | _ => false
theorem dvs_rep {K : PySem.W.Frag} : ∀ {ds : List D} {vs : List He.Dv}, dvsOf ds = some vs → ∀ F, Reps K F (vs.map (He.Dv.v K)) ds
  | [], vs, h, F => by cases h; exact .nil
  | d :: ds, vs, h, F => by
    unfold dvsOf at h
    cases q : dvsOf ds with
    | none => rw [q] at h; cases hd : dvOf d <;> rw [hd] at h <;> cases h
    | some xs =>
      rw [q] at h
      cases d <;> first | (cases h; done) | skip
      cases h
      exact .cons (.int _) (dvs_rep q F)
theorem globB_ok {K : PySem.W.Frag} {h : Heap} {mg : Str → Option Value} (X : K.In h) (G : h.Ns mainGlobals mg) {x : Str} {v : D} (c : globB K (x, v) = true) : ∃ u w, mg x = some u ∧ RelV w u ∧ ∀ F α, RepR K F α w (globR v) := by
  cases v <;> first | (cases c; done) | skip
  · rename_i z
    obtain ⟨t, e⟩ := He.str_ok X G (x := x) (z := z) c
    exact ⟨_, .str z, e, ⟨t, rfl⟩, fun F α => .str _⟩
  · rename_i ds
    obtain ⟨c1, c2⟩ := and_split (show ((He.Fa.glo x).ok K && (match dvsOf ds with
      | some vs => He.tupB K x vs
      | none => false)) = true from c)
    cases q : dvsOf ds with
    | none => rw [q] at c2; cases c2
    | some vs =>
      rw [q] at c2
      exact ⟨_, .ref (He.ga K x), He.glo_ok X G c1, rfl, fun F α => ⟨_, _, rfl, He.tupB_ok c2 F, dvs_rep q F⟩⟩
/-! ### the hook -/
abbrev AlG : Type := He.AlD × Bool
def obsG (n : Nat) (fa : List He.Fa) (fn : List He.DefD) (gs : List (Str × D)) (g : Addr → Option Obj) : AlG := (He.obsDG n fa fn g, gs.all fun p => globB (He.frG g (He.asD g n)) p)
structure SaysG (fa : List He.Fa) (fn : List He.DefD) (gs : List (Str × D)) (K : PySem.W.Frag) : Prop where
  d : He.SaysD fa fn K
  g : (gs.all fun p => globB K p) = true
def hookG (n : Nat) (fa : List He.Fa) (fn : List He.DefD) (gs : List (Str × D)) : PySem.W.Hook where
  α := AlG
  obs := fun s => obsG n fa fn gs s.heap.get?
  val := fun _ => (He.valD fn, true)
  says := fun _ h => ∃ K : PySem.W.Frag, K.In h ∧ SaysG fa fn gs K
  of := fun _ _ e => ⟨_, He.frG_in, congrArg (fun z : AlG => z.1) e, congrArg (fun z : AlG => z.2) e⟩
  keeps := fun _ _ _ ⟨K, hK, c⟩ k => ⟨K, PySem.W.Frag.In.keeps hK k, c⟩
theorem obsG_eq {n : Nat} {fa : List He.Fa} {fn : List He.DefD} {gs : List (Str × D)} {g : Addr → Option Obj} {s : Shared} (h : ∀ a, g a = s.heap.get? a) : obsG n fa fn gs g = (hookG n fa fn gs).obs s := by
  have e : g = s.heap.get? := funext h
  rw [e] <;> rfl
/-! ### the defs -/
def mkD (top : Nat → Stmt) (p : Str × Nat) : He.DefD := ⟨(p.1, none), p.1, p.1, defArgs (top p.2), defBody (top p.2), defScope (top p.2), [], []⟩
def psOf (st : Stmt) : List Str := (defArgs st).args.map (·.arg)
def fnScB (N ps : List Str) (sc : Scope) : Bool := decide (sc.kind = .function) && (decide (sc.isCoroutine = false) && (decide (sc.isGenerator = false) && (decide N.Nodup && (decide (N.take ps.length = ps) &&
  (ps.all (fun x => decide (sc.names.lookup x = some .local) || decide (sc.names.lookup x = some .cell)) && sc.names.all fun y => decide (y.2 ≠ .free))))))
theorem fnScB_ok {N ps : List Str} {sc : Scope} (h : fnScB N ps sc = true) : FnScope N ps sc := by
  obtain ⟨h1, h⟩ := and_split h
  obtain ⟨h2, h⟩ := and_split h
  obtain ⟨h3, h⟩ := and_split h
  obtain ⟨h4, h⟩ := and_split h
  obtain ⟨h5, h⟩ := and_split h
  obtain ⟨h6, h7⟩ := and_split h
  refine ⟨of_decide_eq_true h1, of_decide_eq_true h2, of_decide_eq_true h3, of_decide_eq_true h4, of_decide_eq_true h5, fun x hx => ?_, fun y hy => of_decide_eq_true (List.all_eq_true.mp h7 y hy)⟩
  have := List.all_eq_true.mp h6 x hx
  rw [Bool.or_eq_true] at this
  exact this.imp of_decide_eq_true of_decide_eq_true
def entB (T : Tab) (d : Def) (st : Stmt) : Bool := fnScB d.names (psOf st) (defScope st) && (decide ((psOf st).length = d.np) && chkFin T d (defScope st) (defBody st))
def allB (T : Tab) (top : Nat → Stmt) : List Def → List (Str × Nat) → Bool
  | [], [] => true
  | d :: ds, p :: ps => (decide (d.name = p.1) && entB T d (top p.2)) && allB T top ds ps
  | _, _ => false
theorem allB_at {T : Tab} {top : Nat → Stmt} : ∀ {ds : List Def} {ps : List (Str × Nat)} {f : Nat} {d : Def}, allB T top ds ps = true → ds[f]? = some d → ∃ p, ps[f]? = some p ∧ d.name = p.1 ∧ entB T d (top p.2) = true
  | [], ps, f, d, h, e => by simp at e
  | d0 :: ds, [], f, d, h, e => by cases h
  | d0 :: ds, p :: ps, f, d, h, e => by
    obtain ⟨h1, h2⟩ := and_split (show ((decide (d0.name = p.1) && entB T d0 (top p.2)) && allB T top ds ps) = true from h)
    obtain ⟨h3, h4⟩ := and_split h1
    cases f with
    | zero =>
      have e' : d0 = d := by simpa using e
      subst e'
      exact ⟨p, rfl, of_decide_eq_true h3, h4⟩
    | succ f =>
      obtain ⟨q, k1, k2⟩ := allB_at (f := f) (d := d) h2 (by simpa using e)
      exact ⟨q, by simpa using k1, k2⟩
/-- its parameters take what is given -/
def BindP (st : Stmt) : Prop := ∀ (x qual : Str) (kV doc pm : Value) (an : Option Addr) (cdv ct : Value) (us : List Value), us.length = (psOf st).length → bindArgs (PySem.W.fnOf x qual (defArgs st) (defBody st) (defScope st) .none kV doc pm an cdv ct) ⟨us, []⟩ = pure ((psOf st).zip us)
def BindAll (top : Nat → Stmt) : List (Str × Nat) → Prop
  | [] => True
  | p :: ps => BindP (top p.2) ∧ BindAll top ps
theorem BindAll.at_ {top : Nat → Stmt} : ∀ {ps : List (Str × Nat)} {f : Nat} {p : Str × Nat}, BindAll top ps → ps[f]? = some p → BindP (top p.2)
  | [], f, p, h, e => by simp at e
  | q :: ps, f, p, h, e => by
    cases f with
    | zero =>
      have e' : q = p := by simpa using e
      subst e'
      exact h.1
    | succ f => exact BindAll.at_ (f := f) h.2 (by simpa using e)
def faOf (nm : List (Str × Nat)) : List He.Fa := nm.map (fun p => He.Fa.glo p.1) ++ bnames.map He.Fa.free
/-- what the head says, as the evaluator's soundness wants it -/
theorem mods_of {K : PySem.W.Frag} {h : Heap} {mg : Str → Option Value} {T : Tab} {nm : List (Str × Nat)} {fn : List He.DefD} (X : K.In h) (G : h.Ns mainGlobals mg) (c : SaysG (faOf nm) fn T.globs K) : Mods K mg T := by
  refine ⟨fun x hx => ?_, fun x v hx => globB_ok X G (List.all_eq_true.mp c.g _ hx)⟩
  obtain ⟨i, hi, e⟩ := List.mem_iff_getElem.mp hx
  have : (faOf nm)[nm.length + i]? = some (He.Fa.free x) := by
    unfold faOf
    rw [List.getElem?_append_right (by simp), List.length_map, Nat.add_sub_cancel_left, List.getElem?_map, List.getElem?_eq_getElem hi, e]
    rfl
  exact He.free_ok X G (c.d.fact _ this)
theorem ents_of {K : PySem.W.Frag} {h : Heap} {mg : Str → Option Value} {T : Tab} {nm : List (Str × Nat)} {top : Nat → Stmt} (X : K.In h) (G : h.Ns mainGlobals mg) (c : SaysG (faOf nm) (nm.map (mkD top)) T.globs K) (hA : allB T top T.defs nm = true) (hB : BindAll top nm) :
    ∀ (f : Nat) (d : Def), T.defs[f]? = some d → ∃ p, nm[f]? = some p ∧ d.name = p.1 ∧ ∃ fd, Ent K mg T d p.1 p.1 (defArgs (top p.2)) (defBody (top p.2)) (defScope (top p.2)) (He.ga K p.1) fd (psOf (top p.2)) := by
  intro f d hd
  obtain ⟨p, hp, hn, he⟩ := allB_at hA hd
  refine ⟨p, hp, hn, ?_⟩
  obtain ⟨e1, e2⟩ := and_split (show (fnScB d.names (psOf (top p.2)) (defScope (top p.2)) && (decide ((psOf (top p.2)).length = d.np) && chkFin T d (defScope (top p.2)) (defBody (top p.2)))) = true from he)
  obtain ⟨e2, e3⟩ := and_split e2
  obtain ⟨fd, F⟩ := c.d.def_ f (d := mkD top p) (by rw [List.getElem?_map, hp]; rfl)
  have F' : FunD K p.1 p.1 (defArgs (top p.2)) (defBody (top p.2)) (defScope (top p.2)) [] [] (He.ga K p.1) fd := F
  have hg : (He.Fa.glo p.1).ok K = true := c.d.fact f (f := .glo p.1) (by
    unfold faOf
    have hl : f < nm.length := (List.getElem?_eq_some_iff.mp hp).1
    rw [List.getElem?_append_left (by simpa using hl), List.getElem?_map, hp]
    rfl)
  exact ⟨fd, F', fnScB_ok e1, of_decide_eq_true e2, e3, F'.bindsN fun kV doc pm an cdv ct us hl => hB.at_ hp p.1 p.1 kV doc pm an cdv ct us hl, by rw [hn]; exact He.glo_ok X G hg⟩
/-- the law -/
theorem law_of {P : Program} {w : World} {K : PySem.W.Frag} {h : Heap} {mg : Str → Option Value} {T : Tab} {W k f i : Nat} {nm : List (Str × Nat)} {top : Nat → Stmt} {fa : Addr} (X : K.In h) (G : h.Ns mainGlobals mg) (c : SaysG (faOf nm) (nm.map (mkD top)) T.globs K) (hA : allB T top T.defs nm = true) (hB : BindAll top nm)
    {d : Def} (hd : T.defs[f]? = some d) (hf : nm[f]? = some (("law" : Str), i)) (hps : psOf (top i) = [("script" : Str)]) (hmg : mg ("law" : Str) = some (.ref fa)) :
    ∃ fd : FuncData, (∀ (s : Shared) (v : Value), BindsTo s fd ⟨[v], []⟩ [("script", v)]) ∧ ∀ base : Heap, K.In base → base.Ns mainGlobals mg → FnOk P w K mg base CX0 k fa fd ["script"] (spF K T W k f) := by
  obtain ⟨p, hp, hn, fd, E⟩ := ents_of X G c hA hB f d hd
  rw [hf] at hp
  cases hp
  have e := hmg.symm.trans (hn ▸ E.mg)
  cases e
  have E' := E
  have hb := hB.at_ hf
  refine ⟨fd, fun s v => ?_, fun base Xb Gb => ?_⟩
  · have := E.fn.bindsA (ps := psOf (top i)) (fun kV doc pm an cdv ct us hl => hb "law" "law" kV doc pm an cdv ct us hl) s [v] (by rw [hps]; rfl)
    rw [hps] at this
    exact this
  · have M : Mods K mg T := mods_of Xb Gb c
    have hE : ∀ (f : Nat) (d : Def), T.defs[f]? = some d → ∃ x qual params body scope fa fd ps, Ent K mg T d x qual params body scope fa fd ps := fun f d hd => by
      obtain ⟨p, _, _, fd, E⟩ := ents_of Xb Gb c hA hB f d hd
      exact ⟨_, _, _, _, _, _, fd, _, E⟩
    cases k with
    | zero => exact ok_zero
    | succ k =>
      have Fs : Funs P w K mg base T W k := funs_ok M hE k
      rw [← hps]
      cases hfin : d.fin with
      | none => exact ok_none M Fs hd E hfin
      | some e =>
        refine fn_of_new (fun rs S r S' ev => ?_) (ok_some M Fs hd E hfin)
        have h5 := (len_of hd ev).2
        rw [hfin] at h5
        simp only [backN] at h5
        split at h5
        · split at h5
          · cases h5
            exact ⟨_, rfl⟩
          · cases h5
        · cases h5
/-- .. from the evaluator's answer -/
theorem sp_of {K : PySem.W.Frag} {T : Tab} {W k f : Nat} {H : Hp} {a : Addr} {ns : List Int} (hO : Only H) (hS : SqL K H a (ns.map V.int)) {S' : Store} (h : callD T.defs W k f [.scr ns] [] = some (.d (.bool true), S')) : spF K T W k f [.ref a] H (fun v _ => v = .bl true) fun _ _ _ => False := by
  refine ⟨[.scr ns], [], H, [], _, S', .cons ⟨a, rfl, hS⟩ .nil, ⟨Evl.Ex.refl H, rfl, .nil, fun a ha => absurd ha (by simp), fun n a c h1 _ => by simp at h1⟩, h, fun v H' F' _ _ r => rep_bool (α := []) r⟩
end PC
end
section
/-! PcSim: plain facts for stepping the evaluator. -/
namespace PC

theorem ev_var (C : Call) (i : Nat) (ρ : Env) (s : Store) : evE C (E.var i) ρ s = (match ρ[i]? with
    | some (some r) => some (r, s)
    | _ => none) := Eq.trans rfl rfl
theorem ev_glob (C : Call) (_x : PySem.Str) (v : D) (ρ : Env) (s : Store) : evE C (E.glob _x v) ρ s = (some (globR v, s)) := Eq.trans rfl rfl
theorem ev_int (C : Call) (i : Int) (ρ : Env) (s : Store) : evE C (E.int i) ρ s = (some (.d (.int i), s)) := Eq.trans rfl rfl
theorem ev_bl (C : Call) (b : Bool) (ρ : Env) (s : Store) : evE C (E.bl b) ρ s = (some (.d (.bool b), s)) := Eq.trans rfl rfl
theorem ev_non (C : Call)  (ρ : Env) (s : Store) : evE C (E.non) ρ s = (some (.d .none, s)) := Eq.trans rfl rfl
theorem ev_str (C : Call) (x : PySem.Str) (ρ : Env) (s : Store) : evE C (E.str x) ρ s = (some (.d (.str x), s)) := Eq.trans rfl rfl
theorem ev_bin (C : Call) (o : Bop) (a : E) (b : E) (ρ : Env) (s : Store) : evE C (E.bin o a b) ρ s = (match evE C a ρ s with
    | none => none
    | some (ra, s1) => match evE C b ρ s1 with
      | none => none
      | some (rb, s2) => match viewD ra s2, viewD rb s2 with
        | some x, some y => (match binD o x y with
          | some z => some (.d z, s2)
          | none => none)
        | _, _ => none) := Eq.trans rfl rfl
theorem ev_neg (C : Call) (a : E) (ρ : Env) (s : Store) : evE C (E.neg a) ρ s = (match evE C a ρ s with
    | some (.d (.int i), s1) => some (.d (.int (-i)), s1)
    | _ => none) := Eq.trans rfl rfl
theorem ev_not (C : Call) (a : E) (ρ : Env) (s : Store) : evE C (E.not a) ρ s = (match evE C a ρ s with
    | some (.d (.bool b), s1) => some (.d (.bool (!b)), s1)
    | _ => none) := Eq.trans rfl rfl
theorem ev_and (C : Call) (a : E) (b : E) (ρ : Env) (s : Store) : evE C (E.and a b) ρ s = (match evE C a ρ s with
    | some (.d (.bool true), s1) => evE C b ρ s1
    | some (.d (.bool false), s1) => some (.d (.bool false), s1)
    | _ => none) := Eq.trans rfl rfl
theorem ev_or (C : Call) (a : E) (b : E) (ρ : Env) (s : Store) : evE C (E.or a b) ρ s = (match evE C a ρ s with
    | some (.d (.bool true), s1) => some (.d (.bool true), s1)
    | some (.d (.bool false), s1) => evE C b ρ s1
    | _ => none) := Eq.trans rfl rfl
theorem ev_cmp (C : Call) (o : Cop) (a : E) (b : E) (ρ : Env) (s : Store) : evE C (E.cmp o a b) ρ s = (match evE C a ρ s with
    | none => none
    | some (ra, s1) => match evE C b ρ s1 with
      | none => none
      | some (rb, s2) => match viewS ra s2, viewS rb s2 with
        | some x, some y => (match cmpD o x y with
          | some z => some (.d (.bool z), s2)
          | none => none)
        | _, _ => none) := Eq.trans rfl rfl
theorem ev_chain (C : Call) (o : Cop) (p : Cop) (a : E) (b : E) (c : E) (ρ : Env) (s : Store) : evE C (E.chain o p a b c) ρ s = (match evE C a ρ s with
    | none => none
    | some (ra, s1) => match evE C b ρ s1 with
      | none => none
      | some (rb, s2) => match viewS ra s2, viewS rb s2 with
        | some x, some y => (match cmpD o x y with
          | some true => (match evE C c ρ s2 with
            | none => none
            | some (rc, s3) => match viewS rb s3, viewS rc s3 with
              | some y', some z => (match cmpD p y' z with
                | some t => some (.d (.bool t), s3)
                | none => none)
              | _, _ => none)
          | some false => some (.d (.bool false), s2)
          | none => none)
        | _, _ => none) := Eq.trans rfl rfl
theorem ev_ite (C : Call) (c : E) (a : E) (b : E) (ρ : Env) (s : Store) : evE C (E.ite c a b) ρ s = (match evE C c ρ s with
    | some (.d (.bool true), s1) => evE C a ρ s1
    | some (.d (.bool false), s1) => evE C b ρ s1
    | _ => none) := Eq.trans rfl rfl
theorem ev_ix (C : Call) (a : E) (b : E) (ρ : Env) (s : Store) : evE C (E.ix a b) ρ s = (match evE C a ρ s with
    | none => none
    | some (ra, s1) => match evE C b ρ s1 with
      | none => none
      | some (rb, s2) => match viewS ra s2, viewS rb s2 with
        | some x, some y => (match ixD x y with
          | some z => some (.d z, s2)
          | none => none)
        | _, _ => none) := Eq.trans rfl rfl
theorem ev_slo (C : Call) (a : E) (b : E) (ρ : Env) (s : Store) : evE C (E.slo a b) ρ s = (match evE C a ρ s with
    | none => none
    | some (ra, s1) => match evE C b ρ s1 with
      | some (.d (.int i), s2) => (match slR ra s2 (some i) none with
        | some z => some (z, s2)
        | none => none)
      | _ => none) := Eq.trans rfl rfl
theorem ev_shi (C : Call) (a : E) (b : E) (ρ : Env) (s : Store) : evE C (E.shi a b) ρ s = (match evE C a ρ s with
    | none => none
    | some (ra, s1) => match evE C b ρ s1 with
      | some (.d (.int i), s2) => (match slR ra s2 none (some i) with
        | some z => some (z, s2)
        | none => none)
      | _ => none) := Eq.trans rfl rfl
theorem ev_rev (C : Call) (a : E) (ρ : Env) (s : Store) : evE C (E.rev a) ρ s = (match evE C a ρ s with
    | none => none
    | some (ra, s1) => match viewD ra s1 with
      | some x => (match revD x with
        | some z => some (.d z, s1)
        | none => none)
      | none => none) := Eq.trans rfl rfl
theorem ev_tup (C : Call) (es : Es) (ρ : Env) (s : Store) : evE C (E.tup es) ρ s = (match evEs C es ρ s with
    | some (rs, s1) => (match pures rs with
      | some xs => if szOk xs.length = true then some (.d (.tuple xs), s1) else none
      | none => none)
    | none => none) := Eq.trans rfl rfl
theorem ev_lst (C : Call) (es : Es) (ρ : Env) (s : Store) : evE C (E.lst es) ρ s = (match evEs C es ρ s with
    | some (rs, s1) => (match pures rs with
      | some xs => if szOk xs.length = true then some (.d (.list xs), s1) else none
      | none => none)
    | none => none) := Eq.trans rfl rfl
theorem ev_b1 (C : Call) (f : B1) (a : E) (ρ : Env) (s : Store) : evE C (E.b1 f a) ρ s = (match evE C a ρ s with
    | none => none
    | some (ra, s1) => match viewS ra s1 with
      | some x => (match b1D f x with
        | some z => some (.d z, s1)
        | none => none)
      | none => none) := Eq.trans rfl rfl
theorem ev_b2 (C : Call) (f : B2) (a : E) (b : E) (ρ : Env) (s : Store) : evE C (E.b2 f a b) ρ s = (match evE C a ρ s with
    | none => none
    | some (ra, s1) => match evE C b ρ s1 with
      | none => none
      | some (rb, s2) => match viewD ra s2, viewD rb s2 with
        | some x, some y => (match b2D f x y with
          | some z => some (.d z, s2)
          | none => none)
        | _, _ => none) := Eq.trans rfl rfl
theorem ev_isi (C : Call) (a : E) (t : Ty) (ρ : Env) (s : Store) : evE C (E.isi a t) ρ s = (match evE C a ρ s with
    | none => none
    | some (ra, s1) => match viewD ra s1 with
      | some x => (match isD x t with
        | some z => some (.d (.bool z), s1)
        | none => none)
      | none => none) := Eq.trans rfl rfl
theorem ev_call (C : Call) (f : Nat) (es : Es) (ρ : Env) (s : Store) : evE C (E.call f es) ρ s = (match evEs C es ρ s with
    | some (rs, s1) => C f rs s1
    | none => none) := Eq.trans rfl rfl
theorem ev_lcnt (C : Call) (a : E) (b : E) (ρ : Env) (s : Store) : evE C (E.lcnt a b) ρ s = (match evE C a ρ s with
    | none => none
    | some (ra, s1) => match evE C b ρ s1 with
      | none => none
      | some (rb, s2) => match viewD ra s1, viewD ra s2, viewS rb s2 with
        | some (.list _), some x, some y => (match lcntD x y with
          | some z => some (.d z, s2)
          | none => none)
        | _, _, _ => none) := Eq.trans rfl rfl
theorem ev_lidx (C : Call) (a : E) (b : E) (ρ : Env) (s : Store) : evE C (E.lidx a b) ρ s = (match evE C a ρ s with
    | none => none
    | some (ra, s1) => match evE C b ρ s1 with
      | none => none
      | some (rb, s2) => match viewD ra s1, viewD ra s2, viewS rb s2 with
        | some (.list _), some x, some y => (match lidxD x y with
          | some z => some (.d z, s2)
          | none => none)
        | _, _, _ => none) := Eq.trans rfl rfl
theorem ev_dget (C : Call) (a : E) (b : E) (c : E) (ρ : Env) (s : Store) : evE C (E.dget a b c) ρ s = (match evE C a ρ s with
    | none => none
    | some (ra, s1) => match dictOf ra s1 with
      | none => none
      | some _ => match evE C b ρ s1 with
        | some (.d k, s2) => (match evE C c ρ s2 with
          | some (.d z, s3) => (match dictOf ra s3 with
            | some (t, kvs) => if keyOk t k = true then some (.d ((dFind kvs k).getD z), s3) else none
            | none => none)
          | _ => none)
        | _ => none) := Eq.trans rfl rfl
theorem ev_dix (C : Call) (a : E) (b : E) (ρ : Env) (s : Store) : evE C (E.dix a b) ρ s = (match evE C a ρ s with
    | none => none
    | some (ra, s1) => match evE C b ρ s1 with
      | some (.d k, s2) => (match dictOf ra s2 with
        | some (t, kvs) => if keyOk t k = true then (match dFind kvs k with
          | some z => some (.d z, s2)
          | none => none) else none
        | none => none)
      | _ => none) := Eq.trans rfl rfl
theorem ev_din (C : Call) (n : Bool) (a : E) (b : E) (ρ : Env) (s : Store) : evE C (E.din n a b) ρ s = (match evE C a ρ s with
    | some (.d k, s1) => (match evE C b ρ s1 with
      | none => none
      | some (rb, s2) => (match dictOf rb s2 with
        | some (t, kvs) => if keyOk t k = true then some (.d (.bool (if n = true then !(dFind kvs k).isSome else (dFind kvs k).isSome)), s2) else none
        | none => none))
    | _ => none) := Eq.trans rfl rfl
theorem ev_dkeys (C : Call) (a : E) (ρ : Env) (s : Store) : evE C (E.dkeys a) ρ s = (match evE C a ρ s with
    | none => none
    | some (ra, s1) => match dictOf ra s1 with
      | some (_, kvs) => some (.d (.list (kvs.map (·.1))), s1)
      | none => none) := Eq.trans rfl rfl
theorem evs_nil (C : Call)  (ρ : Env) (s : Store) : evEs C (Es.nil) ρ s = (some ([], s)) := Eq.trans rfl rfl
theorem evs_cons (C : Call) (e : E) (r : Es) (ρ : Env) (s : Store) : evEs C (Es.cons e r) ρ s = (match evE C e ρ s with
    | none => none
    | some (v, s1) => match evEs C r ρ s1 with
      | none => none
      | some (vs, s2) => some (v :: vs, s2)) := Eq.trans rfl rfl
theorem evi_rng1 (C : Call) (a : E) (ρ : Env) (s : Store) : evIt C (It.rng1 a) ρ s = (match evE C a ρ s with
    | some (.d (.int j), s1) => if rngOk j = true then some (.rng 0 1 j.toNat, s1) else none
    | _ => none) := Eq.trans rfl rfl
theorem evi_rng2 (C : Call) (a : E) (b : E) (ρ : Env) (s : Store) : evIt C (It.rng2 a b) ρ s = (match evE C a ρ s with
    | some (.d (.int i), s1) => (match evE C b ρ s1 with
      | some (.d (.int j), s2) => if (rngOk i && rngOk j) = true then some (.rng i 1 (j - i).toNat, s2) else none
      | _ => none)
    | _ => none) := Eq.trans rfl rfl
theorem evi_rng3 (C : Call) (a : E) (b : E) (c : E) (ρ : Env) (s : Store) : evIt C (It.rng3 a b c) ρ s = (match evE C a ρ s with
    | some (.d (.int i), s1) => (match evE C b ρ s1 with
      | some (.d (.int j), s2) => (match evE C c ρ s2 with
        | some (.d (.int k), s3) => if (rngOk i && rngOk j && decide (k = -1)) = true then some (.rng i (-1) (i - j).toNat, s3) else none
        | _ => none)
      | _ => none)
    | _ => none) := Eq.trans rfl rfl
theorem evi_seq (C : Call) (a : E) (ρ : Env) (s : Store) : evIt C (It.seq a) ρ s = (match evE C a ρ s with
    | none => none
    | some (ra, s1) => match viewS ra s1 with
      | some x => (match seqOf x with
        | some xs => some (.seq ra xs.length, s1)
        | none => none)
      | none => none) := Eq.trans rfl rfl
theorem evi_zip (C : Call) (a : E) (b : E) (ρ : Env) (s : Store) : evIt C (It.zip a b) ρ s = (match evE C a ρ s with
    | none => none
    | some (ra, s1) => match evE C b ρ s1 with
      | none => none
      | some (rb, s2) => match listOf ra s2, listOf rb s2 with
        | some xs, some ys => some (.zip ra rb (min xs.length ys.length), s2)
        | _, _ => none) := Eq.trans rfl rfl
theorem ex_asg (C : Call) (W : Nat) (g : G) (e : E) (ρ : Env) (s : Store) : exS C W (S.asg g e) ρ s = (match evE C e ρ s with
    | none => none
    | some (r, s1) => (match asgG g r ρ with
      | some ρ' => some (.nx ρ' s1)
      | none => none)) := Eq.trans rfl rfl
theorem ex_thaw (C : Call) (W : Nat) (i : Nat) (e : E) (ρ : Env) (s : Store) : exS C W (S.thaw i e) ρ s = (match evE C e ρ s with
    | some (.d (.list xs), s1) => some (.nx (ρ.set i (some (.loc s1.length))) (s1 ++ [.lst xs]))
    | _ => none) := Eq.trans rfl rfl
theorem ex_par (C : Call) (W : Nat) (is : List Nat) (es : Es) (ρ : Env) (s : Store) : exS C W (S.par is es) ρ s = (match evEs C es ρ s with
    | none => none
    | some (rs, s1) => (match sets ρ is rs with
      | some ρ' => some (.nx ρ' s1)
      | none => none)) := Eq.trans rfl rfl
theorem ex_aug (C : Call) (W : Nat) (i : Nat) (o : Bop) (e : E) (ρ : Env) (s : Store) : exS C W (S.aug i o e) ρ s = (match ρ[i]? with
    | some (some r) => (match evE C e ρ s with
      | none => none
      | some (re, s1) => match r, re with
        | .d (.int x), .d (.int y) => (match binD o (.int x) (.int y) with
          | some z => some (.nx (ρ.set i (some (.d z))) s1)
          | none => none)
        | _, _ => none)
    | _ => none) := Eq.trans rfl rfl
theorem ex_seti (C : Call) (W : Nat) (a : E) (b : E) (e : E) (ρ : Env) (s : Store) : exS C W (S.seti a b e) ρ s = (match evE C e ρ s with
    | some (.d x, s1) => (match evE C a ρ s1 with
      | some (.loc n, s2) => (match evE C b ρ s2 with
        | some (.d (.int k), s3) => (match cellAt s3 n with
          | some xs => (match L2.ixN xs.length k with
            | some j => some (.nx ρ (setCell s3 n (xs.set j x)))
            | none => none)
          | none => none)
        | _ => none)
      | _ => none)
    | _ => none) := Eq.trans rfl rfl
theorem ex_augi (C : Call) (W : Nat) (a : E) (b : E) (o : Bop) (e : E) (ρ : Env) (s : Store) : exS C W (S.augi a b o e) ρ s = (match evE C a ρ s with
    | some (.loc n, s1) => (match evE C b ρ s1 with
      | some (.d (.int k), s2) => (match cellAt s2 n with
        | some xs => (match L2.atI xs k with
          | some (.int x) => (match evE C e ρ s2 with
            | some (.d (.int y), s3) => (match binD o (.int x) (.int y) with
              | some z => (match cellAt s3 n with
                | some ys => (match L2.ixN ys.length k with
                  | some j => some (.nx ρ (setCell s3 n (ys.set j z)))
                  | none => none)
                | none => none)
              | none => none)
            | _ => none)
          | _ => none)
        | none => none)
      | _ => none)
    | _ => none) := Eq.trans rfl rfl
theorem ex_if_ (C : Call) (W : Nat) (c : E) (t : Ss) (f : Ss) (ρ : Env) (s : Store) : exS C W (S.if_ c t f) ρ s = (match evE C c ρ s with
    | some (.d (.bool true), s1) => exSs C W t ρ s1
    | some (.d (.bool false), s1) => exSs C W f ρ s1
    | _ => none) := Eq.trans rfl rfl
theorem ex_ret (C : Call) (W : Nat) (e : E) (ρ : Env) (s : Store) : exS C W (S.ret e) ρ s = (match evE C e ρ s with
    | none => none
    | some (r, s1) => some (.rt r s1)) := Eq.trans rfl rfl
theorem ex_app (C : Call) (W : Nat) (a : E) (e : E) (ρ : Env) (s : Store) : exS C W (S.app a e) ρ s = (match evE C a ρ s with
    | some (.loc n, s1) => (match cellAt s1 n with
      | some _ => (match evE C e ρ s1 with
        | some (.d x, s2) => (match cellAt s2 n with
          | some xs => if szOk xs.length = true then some (.nx ρ (setCell s2 n (xs ++ [x]))) else none
          | none => none)
        | _ => none)
      | none => none)
    | _ => none) := Eq.trans rfl rfl
theorem ex_ext (C : Call) (W : Nat) (a : E) (e : E) (ρ : Env) (s : Store) : exS C W (S.ext a e) ρ s = (match evE C a ρ s with
    | some (.loc n, s1) => (match cellAt s1 n with
      | some _ => (match evE C e ρ s1 with
        | some (.d (.list ys), s2) => (match cellAt s2 n with
          | some xs => if szOk (xs.length + ys.length) = true then some (.nx ρ (setCell s2 n (xs ++ ys))) else none
          | none => none)
        | _ => none)
      | none => none)
    | _ => none) := Eq.trans rfl rfl
theorem ex_pop (C : Call) (W : Nat) (a : E) (ρ : Env) (s : Store) : exS C W (S.pop a) ρ s = (match evE C a ρ s with
    | some (.loc n, s1) => (match cellAt s1 n with
        | some xs => (match xs[xs.length - 1]? with
          | some _ => some (.nx ρ (setCell s1 n xs.dropLast))
          | none => none)
        | none => none)
    | _ => none) := Eq.trans rfl rfl
theorem ex_dnew (C : Call) (W : Nat) (i : Nat) (t : Bool) (ρ : Env) (s : Store) : exS C W (S.dnew i t) ρ s = (some (.nx (ρ.set i (some (.loc s.length))) (s ++ [.dct t []]))) := Eq.trans rfl rfl
theorem ex_dset (C : Call) (W : Nat) (a : E) (b : E) (e : E) (ρ : Env) (s : Store) : exS C W (S.dset a b e) ρ s = (match evE C e ρ s with
    | some (.d x, s1) => (match evE C a ρ s1 with
      | some (.loc n, s2) => (match evE C b ρ s2 with
        | some (.d k, s3) => (match s3[n]? with
          | some (.dct t kvs) => if (keyOk t k && szOk kvs.length) = true then some (.nx ρ (s3.set n (.dct t (dPut kvs k x)))) else none
          | _ => none)
        | _ => none)
      | _ => none)
    | _ => none) := Eq.trans rfl rfl
theorem ex_dupd (C : Call) (W : Nat) (a : E) (e : E) (ρ : Env) (s : Store) : exS C W (S.dupd a e) ρ s = (match evE C a ρ s with
    | some (.loc n, s1) => (match s1[n]? with
      | some (.dct true _) => (match evE C e ρ s1 with
        | some (.dic true more, s2) => (match s2[n]? with
          | some (.dct true kvs) => if (upOk kvs more && szOk (kvs.length + more.length)) = true then some (.nx ρ (s2.set n (.dct true (dMerge kvs more)))) else none
          | _ => none)
        | _ => none)
      | _ => none)
    | _ => none) := Eq.trans rfl rfl
theorem ex_expr (C : Call) (W : Nat) (e : E) (ρ : Env) (s : Store) : exS C W (S.expr e) ρ s = (match evE C e ρ s with
    | none => none
    | some (_, s1) => some (.nx ρ s1)) := Eq.trans rfl rfl
theorem ex_parG (C : Call) (W : Nat) (gs : Gs) (es : Es) (ρ : Env) (s : Store) : exS C W (S.parG gs es) ρ s = (match evEs C es ρ s with
    | none => none
    | some (rs, s1) => (match pures rs with
      | some xs => if szOk xs.length = true then (match asgGs gs xs ρ with
        | some ρ' => some (.nx ρ' s1)
        | none => none) else none
      | none => none)) := Eq.trans rfl rfl
theorem ex_pass (C : Call) (W : Nat)  (ρ : Env) (s : Store) : exS C W (S.pass) ρ s = (some (.nx ρ s)) := Eq.trans rfl rfl

theorem exs_nil (C : Call) (W : Nat) (ρ : Env) (s : Store) : exSs C W .nil ρ s = some (.nx ρ s) := Eq.trans rfl rfl
theorem exs_cons (C : Call) (W : Nat) (a : S) (r : Ss) (ρ : Env) (s : Store) : exSs C W (.cons a r) ρ s = (match exS C W a ρ s with
    | some (.nx ρ' s') => exSs C W r ρ' s'
    | o => o) := Eq.trans rfl rfl
def stepF (C : Call) (W : Nat) (g : G) (b : Ss) (x : D) (ρ : Env) (s : Store) : Option Out := match asgG g (.d x) ρ with
        | none => none
        | some ρ' => exSs C W b ρ' s
theorem ex_for_ (C : Call) (W : Nat) (g : G) (it : It) (b : Ss) (ρ : Env) (s : Store) : exS C W (.for_ g it b) ρ s = (match evIt C it ρ s with
    | none => none
    | some (J, s1) => forN J (stepF C W g b) J.n 0 ρ s1) := Eq.trans rfl rfl
def testW (C : Call) (c : E) (ρ : Env) (s : Store) : Option (Bool × Store) := match evE C c ρ s with
      | some (.d (.bool t), s1) => some (t, s1)
      | _ => none
def bodyW (C : Call) (W : Nat) (b : Ss) (ρ : Env) (s : Store) : Option Out := exSs C W b ρ s
theorem ex_whl (C : Call) (W : Nat) (c : E) (b : Ss) (ρ : Env) (s : Store) : exS C W (.whl c b) ρ s = whlN (testW C c) (bodyW C W b) W ρ s := Eq.trans rfl rfl
def stepC (C : Call) (g : G) (vs : List Nat) (hc : Bool) (c e : E) (ρ : Env) (x : D) (s2 : Store) : Option (Option D × Store) := match asgG g (.d x) (wipeE ρ vs) with
        | none => none
        | some ρ2 => match (if hc = true then evE C c ρ2 s2 else some (.d (.bool true), s2)) with
          | some (.d (.bool true), s3) => (match evE C e ρ2 s3 with
            | some (.d y, s4) => some (some y, s4)
            | _ => none)
          | some (.d (.bool false), s3) => some (none, s3)
          | _ => none
theorem ev_comp (C : Call) (g : G) (vs : List Nat) (it : It) (hc : Bool) (c e : E) (ρ : Env) (s : Store) : evE C (.comp g vs it hc c e) ρ s = (match evIt C it ρ s with
    | none => none
    | some (J, s1) => match compN J s1.length (stepC C g vs hc c e ρ) J.n 0 (s1 ++ [.lst []]) with
      | some s5 => (match cellAt s5 s1.length with
        | some xs => some (.d (.list xs), s5.take s1.length)
        | none => none)
      | none => none) := Eq.trans rfl rfl
def stepDC (C : Call) (g : G) (vs : List Nat) (k v : E) (ρ : Env) (x : D) (s2 : Store) : Option (D × D × Store) := match asgG g (.d x) (wipeE ρ vs) with
        | none => none
        | some ρ2 => match evE C k ρ2 s2 with
          | some (.d y, s3) => (match evE C v ρ2 s3 with
            | some (.d z, s4) => some (y, z, s4)
            | _ => none)
          | _ => none
theorem ev_dcomp (C : Call) (g : G) (vs : List Nat) (it : It) (k v : E) (ρ : Env) (s : Store) : evE C (.dcomp g vs it k v) ρ s = (match evIt C it ρ s with
    | none => none
    | some (J, s1) => match dcompN J s1.length (stepDC C g vs k v ρ) J.n 0 (s1 ++ [.dct true []]) with
      | some s5 => (match s5[s1.length]? with
        | some (.dct true kvs) => some (.dic true kvs, s5.take s1.length)
        | _ => none)
      | none => none) := Eq.trans rfl rfl
theorem binI_add (i j : Int) : binI .add i j = some (i + j) := Eq.trans rfl rfl
theorem binI_sub (i j : Int) : binI .sub i j = some (i - j) := Eq.trans rfl rfl
theorem binI_mulL {i j : Int} (h : smI i = true) : binI .mul i j = some (i * j) := by simp [binI, h]
theorem binI_mulR {i j : Int} (h : smI j = true) : binI .mul i j = some (i * j) := by simp [binI, h]
theorem binI_div {i j : Int} (h : 0 < j) (h2 : j < 1073741824) : binI .div i j = some (i / j) := by simp [binI, h, h2]
theorem binI_mod {i j : Int} (h : 0 < j) : binI .mod i j = some (i % j) := by simp [binI, h]
theorem bin_int (o : Bop) (i j : Int) : binD o (.int i) (.int j) = (match binI o i j with | some z => some (.int z) | none => none) := Eq.trans rfl rfl
theorem cmp_int (o : Cop) (i j : Int) : cmpD o (.int i) (.int j) = cmpI o i j := Eq.trans rfl rfl
theorem cmpI_eq (i j : Int) : cmpI .eq i j = some (decide (i = j)) := Eq.trans rfl rfl
theorem cmpI_ne (i j : Int) : cmpI .ne i j = some (!decide (i = j)) := Eq.trans rfl rfl
theorem cmpI_lt (i j : Int) : cmpI .lt i j = some (decide (i < j)) := Eq.trans rfl rfl
theorem cmpI_le (i j : Int) : cmpI .le i j = some (decide (i ≤ j)) := Eq.trans rfl rfl
theorem cmpI_gt (i j : Int) : cmpI .gt i j = some (decide (j < i)) := Eq.trans rfl rfl
theorem cmpI_ge (i j : Int) : cmpI .ge i j = some (decide (j ≤ i)) := Eq.trans rfl rfl
theorem view_d (x : D) (s : Store) : viewD (.d x) s = some x := Eq.trans rfl rfl
theorem viewS_d (x : D) (s : Store) : viewS (.d x) s = some x := Eq.trans rfl rfl
theorem viewS_scr (ns : List Int) (s : Store) : viewS (.scr ns) s = some (.list (ns.map PySem.PyData.int)) := Eq.trans rfl rfl
theorem viewS_kt (xs : List D) (s : Store) : viewS (.kt xs) s = some (.tuple xs) := Eq.trans rfl rfl
theorem globR_tup (xs : List D) : globR (.tuple xs) = .kt xs := Eq.trans rfl rfl
theorem globR_str (x : PySem.Str) : globR (.str x) = .d (.str x) := Eq.trans rfl rfl
theorem slR_d (x : D) (s : Store) (lo hi : Option Int) : slR (.d x) s lo hi = (match slD x lo hi with | some z => some (.d z) | none => none) := Eq.trans rfl rfl
theorem slR_scr (ns : List Int) (s : Store) (lo hi : Option Int) : slR (.scr ns) s lo hi = (match slD (.list (ns.map PySem.PyData.int)) lo hi with | some z => some (.d z) | none => none) := Eq.trans rfl rfl
theorem slR_kt (xs : List D) (s : Store) (lo hi : Option Int) : slR (.kt xs) s lo hi = some (.kt (cut xs lo hi)) := Eq.trans rfl rfl
theorem slR_loc {n : Nat} {s : Store} {xs : List D} {lo hi : Option Int} (h : s[n]? = some (.lst xs)) : slR (.loc n) s lo hi = some (.d (.list (cut xs lo hi))) := by simp [slR, viewS, viewD, h, slD]
theorem asg_tupK (gs : Gs) (xs : List D) (ρ : Env) : asgG (.tup gs) (.kt xs) ρ = asgGs gs xs ρ := Eq.trans rfl rfl
theorem dict_dic (t : Bool) (kvs : List (D × D)) (s : Store) : dictOf (.dic t kvs) s = some (t, kvs) := Eq.trans rfl rfl
theorem dict_loc {n : Nat} {s : Store} {t : Bool} {kvs : List (D × D)} (h : s[n]? = some (.dct t kvs)) : dictOf (.loc n) s = some (t, kvs) := by simp [dictOf, h]
theorem key_int (i : Int) : keyOk false (.int i) = true := Eq.trans rfl rfl
theorem viewS_loc_ {n : Nat} {s : Store} {xs : List D} (h : s[n]? = some (.lst xs)) : viewS (.loc n) s = some (.list xs) := by simp [viewS, viewD, h]
theorem view_loc {n : Nat} {s : Store} {xs : List D} (h : s[n]? = some (.lst xs)) : viewD (.loc n) s = some (.list xs) := by simp [viewD, h]
theorem viewS_loc {n : Nat} {s : Store} {xs : List D} (h : s[n]? = some (.lst xs)) : viewS (.loc n) s = some (.list xs) := by simp [viewS, viewD, h]
theorem cell_at {n : Nat} {s : Store} {xs : List D} (h : s[n]? = some (.lst xs)) : cellAt s n = some xs := by simp [cellAt, h]
theorem b1_len_list (xs : List D) : b1D .len (.list xs) = some (.int xs.length) := Eq.trans rfl rfl
theorem b1_len_tuple (xs : List D) : b1D .len (.tuple xs) = some (.int xs.length) := Eq.trans rfl rfl
theorem b1_int_int (i : Int) : b1D .int (.int i) = some (.int i) := Eq.trans rfl rfl
theorem b1_tuple_list (xs : List D) : b1D .tuple (.list xs) = some (.tuple xs) := Eq.trans rfl rfl
theorem b1_list_list (xs : List D) : b1D .list (.list xs) = some (.list xs) := Eq.trans rfl rfl
theorem b1_list_tuple (xs : List D) : b1D .list (.tuple xs) = some (.list xs) := Eq.trans rfl rfl
theorem ix_list (xs : List D) (i : Int) : ixD (.list xs) (.int i) = L2.atI xs i := Eq.trans rfl rfl
theorem ix_tuple (xs : List D) (i : Int) : ixD (.tuple xs) (.int i) = L2.atI xs i := Eq.trans rfl rfl
theorem asg_name (i : Nat) (r : R) (ρ : Env) : asgG (.name i) r ρ = some (ρ.set i (some r)) := Eq.trans rfl rfl
theorem asg_tupT (gs : Gs) (xs : List D) (ρ : Env) : asgG (.tup gs) (.d (.tuple xs)) ρ = asgGs gs xs ρ := Eq.trans rfl rfl
theorem asg_tupL (gs : Gs) (xs : List D) (ρ : Env) : asgG (.tup gs) (.d (.list xs)) ρ = asgGs gs xs ρ := Eq.trans rfl rfl
theorem asgs_nil (ρ : Env) : asgGs .nil [] ρ = some ρ := Eq.trans rfl rfl
theorem asgs_cons (g : G) (gs : Gs) (x : D) (xs : List D) (ρ : Env) : asgGs (.cons g gs) (x :: xs) ρ = (match asgG g (.d x) ρ with
    | some ρ' => asgGs gs xs ρ'
    | none => none) := Eq.trans rfl rfl
theorem back_rt (n : Nat) (x : D) (s : Store) : back n (some (.rt (.d x) s)) = some (.d x, s.take n) := Eq.trans rfl rfl
theorem back_nx (n : Nat) (ρ : Env) (s : Store) : back n (some (.nx ρ s)) = some (.d .none, s.take n) := Eq.trans rfl rfl
theorem st_F (C : Call) (W : Nat) (g : G) (b : Ss) (x : D) (ρ : Env) (s : Store) : stepF C W g b x ρ s = (match asgG g (.d x) ρ with
        | none => none
        | some ρ' => exSs C W b ρ' s) := Eq.trans rfl rfl
theorem te_W (C : Call) (c : E) (ρ : Env) (s : Store) : testW C c ρ s = (match evE C c ρ s with
      | some (.d (.bool t), s1) => some (t, s1)
      | _ => none) := Eq.trans rfl rfl
theorem bd_W (C : Call) (W : Nat) (b : Ss) (ρ : Env) (s : Store) : bodyW C W b ρ s = exSs C W b ρ s := Eq.trans rfl rfl
theorem st_C0 (C : Call) (g : G) (vs : List Nat) (c e : E) (ρ : Env) (x : D) (s2 : Store) : stepC C g vs false c e ρ x s2 = (match asgG g (.d x) (wipeE ρ vs) with
        | none => none
        | some ρ2 => (match evE C e ρ2 s2 with
            | some (.d y, s4) => some (some y, s4)
            | _ => none)) := Eq.trans rfl rfl
theorem st_C1 (C : Call) (g : G) (vs : List Nat) (c e : E) (ρ : Env) (x : D) (s2 : Store) : stepC C g vs true c e ρ x s2 = (match asgG g (.d x) (wipeE ρ vs) with
        | none => none
        | some ρ2 => match evE C c ρ2 s2 with
          | some (.d (.bool true), s3) => (match evE C e ρ2 s3 with
            | some (.d y, s4) => some (some y, s4)
            | _ => none)
          | some (.d (.bool false), s3) => some (none, s3)
          | _ => none) := Eq.trans rfl rfl
theorem wipe_nil (ρ : Env) : wipeE ρ [] = ρ := Eq.trans rfl rfl
theorem wipe_cons (ρ : Env) (v : Nat) (vs : List Nat) : wipeE ρ (v :: vs) = (wipeE ρ vs).set v none := Eq.trans rfl rfl
theorem sets_nil (ρ : Env) : sets ρ [] [] = some ρ := Eq.trans rfl rfl
theorem sets_cons (ρ : Env) (i : Nat) (is : List Nat) (r : R) (rs : List R) : sets ρ (i :: is) (r :: rs) = sets (ρ.set i (some r)) is rs := Eq.trans rfl rfl
theorem pures_nil : pures [] = some [] := Eq.trans rfl rfl
theorem pures_cons (x : D) (rs : List R) : pures (.d x :: rs) = (match pures rs with
    | some xs => some (x :: xs)
    | none => none) := by cases h : pures rs <;> simp [pures, pure?, h]
theorem rng_n (lo st : Int) (n : Nat) : (Items.rng lo st n).n = n := Eq.trans rfl rfl
theorem seq_n (r : R) (n : Nat) : (Items.seq r n).n = n := Eq.trans rfl rfl
theorem rng_get (lo st : Int) (n i : Nat) (s : Store) : (Items.rng lo st n).get i s = some (.int (lo + i * st)) := Eq.trans rfl rfl
theorem seq_list (xs : List D) : seqOf (.list xs) = some xs := Eq.trans rfl rfl
theorem seq_tuple (xs : List D) : seqOf (.tuple xs) = some xs := Eq.trans rfl rfl
theorem seq_getT (xs : List D) (n i : Nat) (s : Store) : (Items.seq (.d (.tuple xs)) n).get i s = xs[i]? := Eq.trans rfl rfl
theorem seq_getL (xs : List D) (n i : Nat) (s : Store) : (Items.seq (.d (.list xs)) n).get i s = xs[i]? := Eq.trans rfl rfl
theorem seq_getS (ns : List Int) (n i : Nat) (s : Store) : (Items.seq (.scr ns) n).get i s = (ns.map PySem.PyData.int)[i]? := Eq.trans rfl rfl
theorem rng_fin (lo st : Int) (n : Nat) (s : Store) : (Items.rng lo st n).fin s = true := Eq.trans rfl rfl
theorem start_eq (N : Nat) (rs : List R) : start N rs = rs.map some ++ List.replicate (N - rs.length) none := Eq.trans rfl rfl

end PC
end
section
/-! PcLaw: loops and comprehensions of the evaluator, in plain terms. -/
namespace PC
def iL (l : List Int) : List D := l.map PySem.PyData.int
theorem iL_nil : iL [] = [] := rfl
theorem iL_len (l : List Int) : (iL l).length = l.length := by simp [iL]
theorem iL_app (a b : List Int) : iL (a ++ b) = iL a ++ iL b := by simp [iL]
theorem iL_snoc (a : List Int) (b : Int) : iL (a ++ [b]) = iL a ++ [.int b] := by simp [iL]
theorem iL_one (b : Int) : iL [b] = [.int b] := rfl
theorem iL_cons (b : Int) (l : List Int) : iL (b :: l) = .int b :: iL l := rfl
theorem iL_get (l : List Int) (i : Nat) : (iL l)[i]? = l[i]?.map PySem.PyData.int := by simp [iL]
theorem iL_set (l : List Int) (i : Nat) (x : Int) : (iL l).set i (.int x) = iL (l.set i x) := by simp [iL, List.map_set]
abbrev lI (l : List Int) : D := .list (iL l)
abbrev tI (l : List Int) : D := .tuple (iL l)
theorem at_last (s : Store) (xs : List D) : cellAt (s ++ [.lst xs]) s.length = some xs := by simp [cellAt]
theorem set_last (s : Store) (xs ys : List D) : setCell (s ++ [.lst xs]) s.length ys = s ++ [.lst ys] := by simp [setCell]
/-! ### steps, by what their parts give -/
section
variable {C : Call} {W : Nat} {ρ ρ' : Env} {s s1 s2 s3 : Store}
theorem call1 {f : Nat} {a : E} {va : R} (h1 : evE C a ρ s = some (va, s1)) : evE C (.call f (.cons a .nil)) ρ s = C f [va] s1 := by
  rw [ev_call, evs_cons, h1]; rfl
theorem call2 {f : Nat} {a b : E} {va vb : R} (h1 : evE C a ρ s = some (va, s1)) (h2 : evE C b ρ s1 = some (vb, s2)) : evE C (.call f (.cons a (.cons b .nil))) ρ s = C f [va, vb] s2 := by
  rw [ev_call, evs_cons, h1]
  simp only []
  rw [evs_cons, h2]; rfl
theorem call3 {f : Nat} {a b c : E} {va vb vc : R} (h1 : evE C a ρ s = some (va, s1)) (h2 : evE C b ρ s1 = some (vb, s2)) (h3 : evE C c ρ s2 = some (vc, s3)) : evE C (.call f (.cons a (.cons b (.cons c .nil)))) ρ s = C f [va, vb, vc] s3 := by
  rw [ev_call, evs_cons, h1]
  simp only []
  rw [evs_cons, h2]
  simp only []
  rw [evs_cons, h3]; rfl
theorem ret_of {e : E} {r : R} (h : evE C e ρ s = some (r, s1)) : exS C W (.ret e) ρ s = some (.rt r s1) := by rw [ex_ret, h]
theorem asg_of {g : G} {e : E} {r : R} (h : evE C e ρ s = some (r, s1)) (h2 : asgG g r ρ = some ρ') : exS C W (.asg g e) ρ s = some (.nx ρ' s1) := by rw [ex_asg, h]; simp only []; rw [h2]
theorem thaw_of {i : Nat} {e : E} {xs : List D} (h : evE C e ρ s = some (.d (.list xs), s1)) : exS C W (.thaw i e) ρ s = some (.nx (ρ.set i (some (.loc s1.length))) (s1 ++ [.lst xs])) := by rw [ex_thaw, h]
theorem nx_of {a : S} {r : Ss} (h : exS C W a ρ s = some (.nx ρ' s1)) : exSs C W (.cons a r) ρ s = exSs C W r ρ' s1 := by rw [exs_cons, h]
theorem rt_of {a : S} {r : Ss} {v : R} (h : exS C W a ρ s = some (.rt v s1)) : exSs C W (.cons a r) ρ s = some (.rt v s1) := by rw [exs_cons, h]
theorem if_t {c : E} {t f : Ss} (h : evE C c ρ s = some (.d (.bool true), s1)) : exS C W (.if_ c t f) ρ s = exSs C W t ρ s1 := by rw [ex_if_, h]
theorem if_f {c : E} {t f : Ss} (h : evE C c ρ s = some (.d (.bool false), s1)) : exS C W (.if_ c t f) ρ s = exSs C W f ρ s1 := by rw [ex_if_, h]
theorem whl_of {c : E} {b : Ss} {o : Option Out} (h : whlN (testW C c) (bodyW C W b) W ρ s = o) : exS C W (.whl c b) ρ s = o := by rw [ex_whl, h]
theorem for_of {g : G} {it : It} {b : Ss} {J : Items} {o : Option Out} (h : evIt C it ρ s = some (J, s1)) (h2 : forN J (stepF C W g b) J.n 0 ρ s1 = o) : exS C W (.for_ g it b) ρ s = o := by rw [ex_for_, h]; exact h2
theorem b1_of {f : B1} {a : E} {r : R} {x z : D} (h : evE C a ρ s = some (r, s1)) (h2 : viewS r s1 = some x) (h3 : b1D f x = some z) : evE C (.b1 f a) ρ s = some (.d z, s1) := by rw [ev_b1, h]; simp only []; rw [h2]; simp only []; rw [h3]
theorem bin_of {o : Bop} {a b : E} {ra rb : R} {x y z : D} (h1 : evE C a ρ s = some (ra, s1)) (h2 : evE C b ρ s1 = some (rb, s2)) (h3 : viewD ra s2 = some x) (h4 : viewD rb s2 = some y) (h5 : binD o x y = some z) : evE C (.bin o a b) ρ s = some (.d z, s2) := by
  rw [ev_bin, h1]; simp only []; rw [h2]; simp only []; rw [h3, h4]; simp only []; rw [h5]
theorem cmp_of {o : Cop} {a b : E} {ra rb : R} {x y : D} {z : Bool} (h1 : evE C a ρ s = some (ra, s1)) (h2 : evE C b ρ s1 = some (rb, s2)) (h3 : viewS ra s2 = some x) (h4 : viewS rb s2 = some y) (h5 : cmpD o x y = some z) : evE C (.cmp o a b) ρ s = some (.d (.bool z), s2) := by
  rw [ev_cmp, h1]; simp only []; rw [h2]; simp only []; rw [h3, h4]; simp only []; rw [h5]
theorem ix_of {a b : E} {ra rb : R} {x y z : D} (h1 : evE C a ρ s = some (ra, s1)) (h2 : evE C b ρ s1 = some (rb, s2)) (h3 : viewS ra s2 = some x) (h4 : viewS rb s2 = some y) (h5 : ixD x y = some z) : evE C (.ix a b) ρ s = some (.d z, s2) := by
  rw [ev_ix, h1]; simp only []; rw [h2]; simp only []; rw [h3, h4]; simp only []; rw [h5]
theorem back_of {n : Nat} {x : D} {o : Option Out} (h : o = some (.rt (.d x) s)) : back n o = some (.d x, s.take n) := by rw [h]; rfl
end
/-- a comprehension whose turns leave the store as it is -/
theorem compN_pure (J : Items) (step : D → Store → Option (Option D × Store)) (items : List D) (f : D → Option D) (s : Store) (hn : J.n = items.length) (hz : items.length ≤ 1000000)
    (hget : ∀ i acc, i < items.length → J.get i (s ++ [.lst acc]) = items[i]?) (hfin : ∀ acc, J.fin (s ++ [.lst acc]) = true) (hstep : ∀ x ∈ items, ∀ acc, step x (s ++ [.lst acc]) = some (f x, s ++ [.lst acc])) :
    compN J s.length step J.n 0 (s ++ [.lst []]) = some (s ++ [.lst (items.filterMap f)]) := by
  have key : ∀ m i acc, i + m = items.length → acc.length ≤ i → compN J s.length step m i (s ++ [.lst acc]) = some (s ++ [.lst (acc ++ (items.drop i).filterMap f)]) := by
    intro m
    induction m with
    | zero =>
      intro i acc hi _
      have : items.drop i = [] := List.drop_eq_nil_of_le (by omega)
      simp [compN, hfin, this]
    | succ m ih =>
      intro i acc hi ha
      have hlt : i < items.length := by omega
      have hx : items[i]? = some items[i] := List.getElem?_eq_getElem hlt
      have hd : items.drop i = items[i] :: items.drop (i + 1) := List.drop_eq_getElem_cons hlt
      have hs := hstep items[i] (List.getElem_mem hlt) acc
      have hsz : szOk acc.length = true := Nat.ble_eq.mpr (by omega)
      unfold compN
      rw [hget i acc hlt, hx]
      simp only []
      rw [hs]
      cases hf : f items[i] with
      | none =>
        simp only []
        rw [ih (i + 1) acc (by omega) (by omega), hd, List.filterMap_cons, hf]
      | some y =>
        simp only [at_last, set_last]
        rw [if_pos hsz, ih (i + 1) (acc ++ [y]) (by omega) (by simp; omega), hd, List.filterMap_cons, hf, List.append_assoc]
        rfl
  rw [hn]
  simpa using key items.length 0 [] (by omega) (by simp)
/-- .. as the expression's value -/
theorem ev_compP {C : Call} {g : G} {vs : List Nat} {it : It} {hc : Bool} {c e : E} {ρ : Env} {s s1 : Store} {J : Items} (items : List D) (f : D → Option D) (hit : evIt C it ρ s = some (J, s1)) (hn : J.n = items.length) (hz : items.length ≤ 1000000)
    (hget : ∀ i acc, i < items.length → J.get i (s1 ++ [.lst acc]) = items[i]?) (hfin : ∀ acc, J.fin (s1 ++ [.lst acc]) = true) (hstep : ∀ x ∈ items, ∀ acc, stepC C g vs hc c e ρ x (s1 ++ [.lst acc]) = some (f x, s1 ++ [.lst acc])) :
    evE C (.comp g vs it hc c e) ρ s = some (.d (.list (items.filterMap f)), s1) := by
  rw [ev_comp, hit]
  simp only []
  rw [compN_pure J _ items f s1 hn hz hget hfin hstep]
  simp [at_last]
/-- over whole numbers, each turn gives one -/
theorem ev_compI {C : Call} {g : G} {vs : List Nat} {it : It} {hc : Bool} {c e : E} {ρ : Env} {s s1 : Store} {J : Items} (l : List Int) (f : Int → Int) (hit : evIt C it ρ s = some (J, s1)) (hn : J.n = l.length) (hz : l.length ≤ 1000000)
    (hget : ∀ i acc, i < l.length → J.get i (s1 ++ [.lst acc]) = (iL l)[i]?) (hfin : ∀ acc, J.fin (s1 ++ [.lst acc]) = true) (hstep : ∀ x ∈ l, ∀ acc, stepC C g vs hc c e ρ (.int x) (s1 ++ [.lst acc]) = some (some (.int (f x)), s1 ++ [.lst acc])) :
    evE C (.comp g vs it hc c e) ρ s = some (.d (lI (l.map f)), s1) := by
  have h := ev_compP (C := C) (g := g) (vs := vs) (it := it) (hc := hc) (c := c) (e := e) (ρ := ρ) (s := s) (s1 := s1) (J := J) (iL l) (fun x => match x with | .int i => some (.int (f i)) | _ => none) hit (by rw [iL_len]; exact hn) (by rw [iL_len]; exact hz) (by rw [iL_len]; exact hget) hfin (by
    intro x hx acc
    obtain ⟨i, hi, rfl⟩ := List.mem_map.mp (show x ∈ l.map PySem.PyData.int from hx)
    exact hstep i hi acc)
  rw [h]
  simp [iL, List.filterMap_map, Function.comp_def]
/-- .. some of them are kept -/
theorem ev_compF {C : Call} {g : G} {vs : List Nat} {it : It} {hc : Bool} {c e : E} {ρ : Env} {s s1 : Store} {J : Items} (l : List Int) (f : Int → Option D) (hit : evIt C it ρ s = some (J, s1)) (hn : J.n = l.length) (hz : l.length ≤ 1000000)
    (hget : ∀ i acc, i < l.length → J.get i (s1 ++ [.lst acc]) = (iL l)[i]?) (hfin : ∀ acc, J.fin (s1 ++ [.lst acc]) = true) (hstep : ∀ x ∈ l, ∀ acc, stepC C g vs hc c e ρ (.int x) (s1 ++ [.lst acc]) = some (f x, s1 ++ [.lst acc])) :
    evE C (.comp g vs it hc c e) ρ s = some (.d (.list (l.filterMap f)), s1) := by
  have h := ev_compP (C := C) (g := g) (vs := vs) (it := it) (hc := hc) (c := c) (e := e) (ρ := ρ) (s := s) (s1 := s1) (J := J) (iL l) (fun x => match x with | .int i => f i | _ => none) hit (by rw [iL_len]; exact hn) (by rw [iL_len]; exact hz) (by rw [iL_len]; exact hget) hfin (by
    intro x hx acc
    obtain ⟨i, hi, rfl⟩ := List.mem_map.mp (show x ∈ l.map PySem.PyData.int from hx)
    exact hstep i hi acc)
  rw [h]
  simp [iL, List.filterMap_map, Function.comp_def]
/-- the numbers of range(n) -/
abbrev rg (n : Nat) : List Int := List.map (fun i : Nat => (i : Int)) (List.range n)
theorem rg_get (n i : Nat) (S : Store) (h : i < n) : (Items.rng 0 1 n).get i S = (iL (rg n))[i]? := by
  rw [rng_get]
  simp [iL, rg, h]
/-- for, by a word of the state -/
theorem forN_inv (J : Items) (step : D → Env → Store → Option Out) (items : List D) (hn : J.n = items.length) (P : Nat → Env → Store → Prop) {ρ : Env} {s : Store} (h0 : P 0 ρ s)
    (hget : ∀ i ρ s, P i ρ s → i < items.length → J.get i s = items[i]?) (hfin : ∀ ρ s, P items.length ρ s → J.fin s = true)
    (hstep : ∀ i x ρ s, items[i]? = some x → P i ρ s → ∃ ρ' s', step x ρ s = some (.nx ρ' s') ∧ P (i + 1) ρ' s') :
    ∃ ρ' s', forN J step J.n 0 ρ s = some (.nx ρ' s') ∧ P items.length ρ' s' := by
  have key : ∀ m i ρ s, i + m = items.length → P i ρ s → ∃ ρ' s', forN J step m i ρ s = some (.nx ρ' s') ∧ P items.length ρ' s' := by
    intro m
    induction m with
    | zero =>
      intro i ρ s hi hp
      have e : i = items.length := by omega
      subst e
      exact ⟨ρ, s, by simp [forN, hfin ρ s hp], hp⟩
    | succ m ih =>
      intro i ρ s hi hp
      have hlt : i < items.length := by omega
      have hx : items[i]? = some items[i] := List.getElem?_eq_getElem hlt
      obtain ⟨ρ1, s1, h1, hp1⟩ := hstep i items[i] ρ s hx hp
      obtain ⟨ρ2, s2, h2, hp2⟩ := ih (i + 1) ρ1 s1 (by omega) hp1
      refine ⟨ρ2, s2, ?_, hp2⟩
      unfold forN
      rw [hget i ρ s hp hlt, hx]
      simp only []
      rw [h1]
      exact h2
  rw [hn]
  exact key items.length 0 ρ s (by omega) h0
/-- while, by a word and a measure -/
theorem whlN_inv (test : Env → Store → Option (Bool × Store)) (body : Env → Store → Option Out) (P : Nat → Env → Store → Prop) (Q : Env → Store → Prop)
    (hs : ∀ m ρ s, P m ρ s → (∃ s1, test ρ s = some (false, s1) ∧ Q ρ s1) ∨ (∃ s1 ρ' s' m', test ρ s = some (true, s1) ∧ body ρ s1 = some (.nx ρ' s') ∧ m' < m ∧ P m' ρ' s')) :
    ∀ W m ρ s, m < W → P m ρ s → ∃ ρ' s', whlN test body W ρ s = some (.nx ρ' s') ∧ Q ρ' s' := by
  intro W
  induction W with
  | zero => intro m ρ s h; omega
  | succ W ih =>
    intro m ρ s hm hp
    rcases hs m ρ s hp with ⟨s1, h1, hq⟩ | ⟨s1, ρ', s', m', h1, h2, hm', hp'⟩
    · exact ⟨ρ, s1, by simp [whlN, h1], hq⟩
    · obtain ⟨ρ2, s2, h3, hq⟩ := ih m' ρ' s' (by omega) hp'
      exact ⟨ρ2, s2, by simp [whlN, h1, h2, h3], hq⟩
end PC
end
section
namespace PC
/-! lists of whole numbers without zeros at their end -/
def strip : List Int → List Int
  | [] => []
  | a :: l => match strip l with
    | [] => if a = 0 then [] else [a]
    | b :: r => a :: b :: r
theorem strip_snoc0 : ∀ l : List Int, strip (l ++ [0]) = strip l
  | [] => by simp [strip]
  | a :: l => by simp [strip, strip_snoc0 l]
theorem strip_snoc {a : Int} (h : a ≠ 0) : ∀ l : List Int, strip (l ++ [a]) = l ++ [a]
  | [] => by simp [strip, h]
  | b :: l => by
    simp only [List.cons_append, strip, strip_snoc h l]
    cases l <;> rfl
def trim (p : Int) (l : List Int) : List Int := strip (l.map fun n => n % p)
theorem view_last (S : Store) (xs : List D) : viewD (.loc S.length) (S ++ [.lst xs]) = some (.list xs) := by simp [viewD]
theorem viewS_last (S : Store) (xs : List D) : viewS (.loc S.length) (S ++ [.lst xs]) = some (.list xs) := by simp [viewS, viewD]
theorem atI_last {α : Type} (xs : List α) (x : α) : L2.atI (xs ++ [x]) (-1) = some x := by
  have h1 : ¬ (0 : Int) ≤ -1 := by omega
  have h2 : -(((xs ++ [x]).length : Nat) : Int) ≤ -1 := by simp; omega
  have h3 : (-1 + (((xs ++ [x]).length : Nat) : Int)).toNat = xs.length := by simp; omega
  simp only [L2.atI, L2.ixN, h1, h2, h3, if_true, if_false, Option.bind_some]
  simp
theorem atI_nat {α : Type} {xs : List α} {i : Nat} {x : α} (h : xs[i]? = some x) : L2.atI xs (i : Int) = some x := by
  have hl : i < xs.length := (List.getElem?_eq_some_iff.mp h).1
  have h1 : (0 : Int) ≤ i := by omega
  have h2 : (i : Int) < (xs.length : Nat) := by omega
  simp only [L2.atI, L2.ixN, h1, h2, if_true, Option.bind_some, Int.toNat_natCast, h]
theorem ixN_nat {n i : Nat} (h : i < n) : L2.ixN n (i : Int) = some i := by
  have h1 : (0 : Int) ≤ i := by omega
  have h2 : (i : Int) < (n : Nat) := by omega
  simp only [L2.ixN, h1, h2, if_true, Int.toNat_natCast]
theorem take_app (S T : Store) : (S ++ T).take S.length = S := by simp
theorem seq_get {r : R} {n i : Nat} {s : Store} {d : D} {xs : List D} (h : viewS r s = some d) (h2 : seqOf d = some xs) : (Items.seq r n).get i s = xs[i]? := by simp [Items.get, h, h2]
theorem seq_fin {r : R} {n : Nat} {s : Store} {d : D} {xs : List D} (h : viewS r s = some d) (h2 : seqOf d = some xs) (hn : xs.length ≤ n) : (Items.seq r n).fin s = true := by simp [Items.fin, h, h2, Nat.ble_eq, hn]
end PC
end
section
/-! PcLaw2: more steps of the evaluator; dicts in plain terms. -/
namespace PC
section
variable {C : Call} {W : Nat} {ρ ρ' : Env} {s s1 s2 s3 : Store}
theorem szk {n : Nat} (h : n < 1000000) : szOk n = true := Nat.ble_eq.mpr (by omega)
theorem ext_of {a e : E} {n : Nat} {xs0 xs ys : List D} (h1 : evE C a ρ s = some (.loc n, s1)) (h0 : cellAt s1 n = some xs0) (h2 : evE C e ρ s1 = some (.d (.list ys), s2)) (h3 : cellAt s2 n = some xs) (h4 : xs.length + ys.length < 1000000) : exS C W (.ext a e) ρ s = some (.nx ρ (setCell s2 n (xs ++ ys))) := by
  rw [ex_ext, h1]; simp only []; rw [h0]; simp only []; rw [h2]; simp only []; rw [h3]; simp only []; rw [if_pos (szk h4)]
theorem app_of {a e : E} {n : Nat} {xs0 xs : List D} {y : D} (h1 : evE C a ρ s = some (.loc n, s1)) (h0 : cellAt s1 n = some xs0) (h2 : evE C e ρ s1 = some (.d y, s2)) (h3 : cellAt s2 n = some xs) (h4 : xs.length < 1000000) : exS C W (.app a e) ρ s = some (.nx ρ (setCell s2 n (xs ++ [y]))) := by
  rw [ex_app, h1]; simp only []; rw [h0]; simp only []; rw [h2]; simp only []; rw [h3]; simp only []; rw [if_pos (szk h4)]
theorem dget_of {a b c : E} {ra : R} {q : Bool × List (D × D)} {k z : D} {t : Bool} {kvs : List (D × D)} (h1 : evE C a ρ s = some (ra, s1)) (h0 : dictOf ra s1 = some q) (h2 : evE C b ρ s1 = some (.d k, s2)) (h3 : evE C c ρ s2 = some (.d z, s3)) (h4 : dictOf ra s3 = some (t, kvs)) (h5 : keyOk t k = true) :
    evE C (.dget a b c) ρ s = some (.d ((dFind kvs k).getD z), s3) := by
  rw [ev_dget, h1]; simp only []; rw [h0]; simp only []; rw [h2]; simp only []; rw [h3]; simp only []; rw [h4]; simp only []; rw [if_pos h5]
theorem dix_of {a b : E} {ra : R} {k z : D} {t : Bool} {kvs : List (D × D)} (h1 : evE C a ρ s = some (ra, s1)) (h2 : evE C b ρ s1 = some (.d k, s2)) (h4 : dictOf ra s2 = some (t, kvs)) (h5 : keyOk t k = true) (h6 : dFind kvs k = some z) :
    evE C (.dix a b) ρ s = some (.d z, s2) := by
  rw [ev_dix, h1]; simp only []; rw [h2]; simp only []; rw [h4]; simp only []; rw [if_pos h5, h6]
theorem din_of {n : Bool} {a b : E} {rb : R} {k : D} {t : Bool} {kvs : List (D × D)} (h1 : evE C a ρ s = some (.d k, s1)) (h2 : evE C b ρ s1 = some (rb, s2)) (h4 : dictOf rb s2 = some (t, kvs)) (h5 : keyOk t k = true) :
    evE C (.din n a b) ρ s = some (.d (.bool (if n = true then !(dFind kvs k).isSome else (dFind kvs k).isSome)), s2) := by
  rw [ev_din, h1]; simp only []; rw [h2]; simp only []; rw [h4]; simp only []; rw [if_pos h5]
theorem dset_of {a b e : E} {n : Nat} {x k : D} {t : Bool} {kvs : List (D × D)} (h1 : evE C e ρ s = some (.d x, s1)) (h2 : evE C a ρ s1 = some (.loc n, s2)) (h3 : evE C b ρ s2 = some (.d k, s3)) (h4 : s3[n]? = some (.dct t kvs)) (h5 : keyOk t k = true) (h6 : kvs.length < 1000000) :
    exS C W (.dset a b e) ρ s = some (.nx ρ (s3.set n (.dct t (dPut kvs k x)))) := by
  rw [ex_dset, h1]; simp only []; rw [h2]; simp only []; rw [h3]; simp only []; rw [h4]; simp only []; rw [h5, szk h6]; rfl
theorem ite_t {c a b : E} {r : Option (R × Store)} (h : evE C c ρ s = some (.d (.bool true), s1)) (h2 : evE C a ρ s1 = r) : evE C (.ite c a b) ρ s = r := by rw [ev_ite, h]; exact h2
theorem ite_f {c a b : E} {r : Option (R × Store)} (h : evE C c ρ s = some (.d (.bool false), s1)) (h2 : evE C b ρ s1 = r) : evE C (.ite c a b) ρ s = r := by rw [ev_ite, h]; exact h2
theorem par2_of {i j : Nat} {a b : E} {ra rb : R} (h1 : evE C a ρ s = some (ra, s1)) (h2 : evE C b ρ s1 = some (rb, s2)) : exS C W (.par [i, j] (.cons a (.cons b .nil))) ρ s = some (.nx ((ρ.set i (some ra)).set j (some rb)) s2) := by
  rw [ex_par, evs_cons, h1]; simp only []; rw [evs_cons, h2]; simp only [evs_nil, sets_cons, sets_nil]
theorem back_loc {n i : Nat} {xs : List D} {o : Option Out} (h : o = some (.rt (.loc i) s)) (hi : n ≤ i) (hc : s[i]? = some (.lst xs)) : back n o = some (.d (.list xs), s.take n) := by
  rw [h]; simp only [back]; rw [if_neg (by omega), hc]
theorem back_dct {n i : Nat} {t : Bool} {kvs : List (D × D)} {o : Option Out} (h : o = some (.rt (.loc i) s)) (hi : n ≤ i) (hc : s[i]? = some (.dct t kvs)) : back n o = some (.dic t kvs, s.take n) := by
  rw [h]; simp only [back]; rw [if_neg (by omega), hc]
theorem var_of {i : Nat} {r : R} (h : ρ[i]? = some (some r)) : evE C (.var i) ρ s = some (r, s) := by rw [ev_var, h]
end
/-- a comprehension over whole numbers, each turn gives a value -/
theorem ev_compL {C : Call} {g : G} {vs : List Nat} {it : It} {hc : Bool} {c e : E} {ρ : Env} {s s1 : Store} {J : Items} (l : List Int) (f : Int → D) (hit : evIt C it ρ s = some (J, s1)) (hn : J.n = l.length) (hz : l.length ≤ 1000000)
    (hget : ∀ i acc, i < l.length → J.get i (s1 ++ [.lst acc]) = (iL l)[i]?) (hfin : ∀ acc, J.fin (s1 ++ [.lst acc]) = true) (hstep : ∀ x ∈ l, ∀ acc, stepC C g vs hc c e ρ (.int x) (s1 ++ [.lst acc]) = some (some (f x), s1 ++ [.lst acc])) :
    evE C (.comp g vs it hc c e) ρ s = some (.d (.list (l.map f)), s1) := by
  have h := ev_compF (C := C) (g := g) (vs := vs) (it := it) (hc := hc) (c := c) (e := e) (ρ := ρ) (s := s) (s1 := s1) (J := J) l (fun x => some (f x)) hit hn hz hget hfin hstep
  rw [h]
  have e1 : l.filterMap (fun x => some (f x)) = l.map f := by
    rw [← List.filterMap_eq_map]; rfl
  rw [e1]
theorem dct_last (S : Store) (t : Bool) (kvs : List (D × D)) : dictOf (.loc S.length) (S ++ [.dct t kvs]) = some (t, kvs) := by simp [dictOf]
theorem dctAt_last (S : Store) (c : Cell) : (S ++ [c])[S.length]? = some c := by simp
theorem dctSet_last (S : Store) (c c' : Cell) : (S ++ [c]).set S.length c' = S ++ [c'] := by simp
/-! ### looking up -/
theorem dFind_app (u d v : D) : ∀ kvs : List (D × D), dFind (kvs ++ [(u, d)]) v = match dFind kvs v with
    | some z => some z
    | none => if sameD u v = true then some d else none
  | [] => by simp [dFind]
  | (k, z) :: r => by
    rw [List.cons_append]
    unfold dFind
    by_cases h : sameD k v = true
    · rw [if_pos h, if_pos h]
    · rw [if_neg h, if_neg h, dFind_app u d v r]
theorem dFind_rep0 {u v : D} (d : D) (h : sameD u v = false) : ∀ kvs : List (D × D), dFind (dRep kvs u d) v = dFind kvs v
  | [] => rfl
  | (k, z) :: r => by
    unfold dRep
    by_cases hk : sameD k u = true
    · rw [if_pos hk]
      have e := sameD_eq hk
      subst e
      unfold dFind
      rw [if_neg (by rw [h]; decide), if_neg (by rw [h]; decide), dFind_rep0 d h r]
    · rw [if_neg hk]
      unfold dFind
      by_cases hv : sameD k v = true
      · rw [if_pos hv, if_pos hv]
      · rw [if_neg hv, if_neg hv, dFind_rep0 d h r]
theorem dFind_rep1 {u : D} (d : D) : ∀ {kvs : List (D × D)} {z : D}, dFind kvs u = some z → dFind (dRep kvs u d) u = some d
  | [], z, h => by cases h
  | (k, z') :: r, z, h => by
    unfold dRep
    by_cases hk : sameD k u = true
    · rw [if_pos hk]
      unfold dFind
      rw [if_pos hk]
    · rw [if_neg hk]
      unfold dFind at h ⊢
      rw [if_neg hk] at h ⊢
      exact dFind_rep1 d h
theorem dFind_put (kvs : List (D × D)) {u v : D} (hu : sameD u u = true) (d : D) : dFind (dPut kvs u d) v = if sameD u v = true then some d else dFind kvs v := by
  unfold dPut
  by_cases h : sameD u v = true
  · have e := sameD_eq h
    subst e
    rw [if_pos h]
    cases hf : dFind kvs u with
    | none => simp only []; rw [dFind_app, hf]; simp only []; rw [if_pos h]
    | some z => simp only []; exact dFind_rep1 d hf
  · rw [if_neg h]
    have h' : sameD u v = false := by simpa using h
    cases hf : dFind kvs u with
    | none =>
      simp only []
      rw [dFind_app]
      cases dFind kvs v with
      | none => simp only []; rw [if_neg h]
      | some z => rfl
    | some z => simp only []; exact dFind_rep0 d h' kvs
theorem dRep_len (u d : D) : ∀ kvs : List (D × D), (dRep kvs u d).length = kvs.length
  | [] => rfl
  | (k, z) :: r => by
    unfold dRep
    split <;> rw [List.length_cons, List.length_cons, dRep_len u d r]
theorem dPut_len (kvs : List (D × D)) (u d : D) : (dPut kvs u d).length ≤ kvs.length + 1 := by
  unfold dPut
  split
  · rw [dRep_len]; omega
  · simp
theorem sameD_int (i j : Int) : sameD (.int i) (.int j) = decide (i = j) := by unfold sameD; rfl
theorem same_iL : ∀ l m : List Int, sameDs (iL l) (iL m) = decide (l = m)
  | [], [] => by simp [iL, sameDs]
  | [], b :: m => by simp [iL, sameDs]
  | a :: l, [] => by simp [iL, sameDs]
  | a :: l, b :: m => by
    rw [iL_cons, iL_cons, sameDs, sameD_int, same_iL l m]
    by_cases h : a = b <;> by_cases h2 : l = m <;> simp [h, h2]
theorem same_tI (l m : List Int) : sameD (tI l) (tI m) = decide (l = m) := by
  show sameD (.tuple _) (.tuple _) = _
  unfold sameD
  exact same_iL l m
theorem key_tI : ∀ l : List Int, (iL l).all key1 = true
  | [] => rfl
  | a :: l => by rw [iL_cons, List.all_cons, key_tI l]; rfl
theorem keyT_tI (l : List Int) : keyOk true (tI l) = true := key_tI l
end PC
end
section
namespace LAW
open PySem PySem.Spec PyProof.Rows L2 PC
def d0 : Def := ⟨"is_whole", 1, ["value"], (.cons (.ret (.and (.isi (.var 0) .int) (.not (.isi (.var 0) .bool))))
    .nil), none⟩
def d1 : Def := ⟨"are_whole", 2, ["value", "many", "item"], (.cons (.ret (.and (.isi (.var 0) .tuple) (.and (.cmp .eq (.b1 .len (.var 0)) (.var 1)) (.b1 .all (.comp (.name 2) [2] (.seq (.var 0)) false (.bl true) (.call 0 (.cons (.var 2) .nil)))))))
    .nil), none⟩
def d2 : Def := ⟨"inverse_of", 2, ["number", "p", "found", "power"], (.cons (.asg (.name 2) (.int 1))
    (.cons (.asg (.name 3) (.bin .sub (.var 1) (.int 2)))
    (.cons (.aug 0 .mod (.var 1))
    (.cons (.whl (.cmp .gt (.var 3) (.int 0)) (.cons (.if_ (.cmp .eq (.bin .mod (.var 3) (.int 2)) (.int 1)) (.cons (.asg (.name 2) (.bin .mod (.bin .mul (.var 2) (.var 0)) (.var 1)))
    .nil) .nil)
    (.cons (.asg (.name 0) (.bin .mod (.bin .mul (.var 0) (.var 0)) (.var 1)))
    (.cons (.aug 3 .div (.int 2))
    .nil))))
    (.cons (.ret (.var 2))
    .nil))))), none⟩
def d3 : Def := ⟨"right_side", 2, ["curve", "x", "p", "a", "b"], (.cons (.asg (.tup (.cons (.name 2) (.cons (.name 3) (.cons (.name 4) .nil)))) (.var 0))
    (.cons (.ret (.bin .mod (.bin .add (.bin .add (.bin .mul (.bin .mul (.var 1) (.var 1)) (.var 1)) (.bin .mul (.var 3) (.var 1))) (.var 4)) (.var 2)))
    .nil)), none⟩
def d4 : Def := ⟨"is_point", 2, ["curve", "value", "p"], (.cons (.if_ (.or (.not (.isi (.var 1) .tuple)) (.cmp .eq (.b1 .len (.var 1)) (.int 0))) (.cons (.ret (.isi (.var 1) .tuple))
    .nil) .nil)
    (.cons (.asg (.name 2) (.ix (.var 0) (.int 0)))
    (.cons (.if_ (.or (.not (.call 1 (.cons (.var 1) (.cons (.int 2) .nil)))) (.or (.not (.chain .le .lt (.int 0) (.ix (.var 1) (.int 0)) (.var 2))) (.not (.chain .le .lt (.int 0) (.ix (.var 1) (.int 1)) (.var 2))))) (.cons (.ret (.bl false))
    .nil) .nil)
    (.cons (.ret (.cmp .eq (.bin .mod (.bin .mul (.ix (.var 1) (.int 1)) (.ix (.var 1) (.int 1))) (.var 2)) (.call 3 (.cons (.var 0) (.cons (.ix (.var 1) (.int 0)) .nil)))))
    .nil)))), none⟩
def d5 : Def := ⟨"roots_by_square", 1, ["p", "found", "y"], (.cons (.dnew 1 false)
    (.cons (.for_ (.name 2) (.rng1 (.var 0)) (.cons (.dset (.var 1) (.bin .mod (.bin .mul (.var 2) (.var 2)) (.var 0)) (.bin .add (.dget (.var 1) (.bin .mod (.bin .mul (.var 2) (.var 2)) (.var 0)) (.lst .nil)) (.lst (.cons (.var 2) .nil))))
    .nil))
    (.cons (.ret (.var 1))
    .nil))), none⟩
def d6 : Def := ⟨"points_of", 1, ["curve", "roots", "found", "x", "y"], (.cons (.asg (.name 1) (.call 5 (.cons (.ix (.var 0) (.int 0)) .nil)))
    (.cons (.thaw 2 (.lst (.cons (.tup .nil) .nil)))
    (.cons (.for_ (.name 3) (.rng1 (.ix (.var 0) (.int 0))) (.cons (.ext (.var 2) (.comp (.name 4) [4] (.seq (.dget (.var 1) (.call 3 (.cons (.var 0) (.cons (.var 3) .nil))) (.lst .nil))) false (.bl true) (.tup (.cons (.var 3) (.cons (.var 4) .nil)))))
    .nil))
    (.cons (.ret (.var 2))
    .nil)))), none⟩
def d7 : Def := ⟨"count_of", 1, ["curve"], (.cons (.ret (.b1 .len (.call 6 (.cons (.var 0) .nil))))
    .nil), none⟩
def d8 : Def := ⟨"trace_of", 1, ["curve"], (.cons (.ret (.bin .sub (.bin .add (.ix (.var 0) (.int 0)) (.int 1)) (.call 7 (.cons (.var 0) .nil))))
    .nil), none⟩
def d9 : Def := ⟨"need_points", 2, ["curve", "points", "point"], (.cons (.for_ (.name 2) (.seq (.var 1)) (.cons (.if_ (.not (.call 4 (.cons (.var 0) (.cons (.var 2) .nil)))) (.cons .dead
    .nil) .nil)
    .nil))
    .nil), none⟩
def d10 : Def := ⟨"turned", 2, ["curve", "point"], (.cons (.ret (.ite (.cmp .eq (.b1 .len (.var 1)) (.int 0)) (.var 1) (.tup (.cons (.ix (.var 1) (.int 0)) (.cons (.bin .mod (.neg (.ix (.var 1) (.int 1))) (.ix (.var 0) (.int 0))) .nil)))))
    .nil), none⟩
def d11 : Def := ⟨"added", 3, ["curve", "one", "two", "there", "p", "a", "_", "slope", "x", "y", "z", "w"], (.cons (.if_ (.or (.cmp .eq (.b1 .len (.var 1)) (.int 0)) (.cmp .eq (.b1 .len (.var 2)) (.int 0))) (.cons (.ret (.bin .add (.var 1) (.var 2)))
    .nil) .nil)
    (.cons (.if_ (.cmp .eq (.var 2) (.call 10 (.cons (.var 0) (.cons (.var 1) .nil)))) (.cons (.ret (.tup .nil))
    .nil) .nil)
    (.cons (.asg (.tup (.cons (.name 4) (.cons (.name 5) (.cons (.name 6) .nil)))) (.var 0))
    (.cons (.parG (.cons (.tup (.cons (.name 8) (.cons (.name 9) .nil))) (.cons (.tup (.cons (.name 10) (.cons (.name 11) .nil))) .nil)) (.cons (.var 1) (.cons (.var 2) .nil)))
    (.cons (.if_ (.cmp .eq (.var 1) (.var 2)) (.cons (.asg (.name 7) (.bin .mul (.bin .add (.bin .mul (.bin .mul (.int 3) (.var 8)) (.var 8)) (.var 5)) (.call 2 (.cons (.bin .mul (.int 2) (.var 9)) (.cons (.var 4) .nil)))))
    .nil) (.cons (.asg (.name 7) (.bin .mul (.bin .sub (.var 11) (.var 9)) (.call 2 (.cons (.bin .sub (.var 10) (.var 8)) (.cons (.var 4) .nil)))))
    .nil))
    (.cons (.asg (.name 3) (.bin .mod (.bin .sub (.bin .sub (.bin .mul (.var 7) (.var 7)) (.var 8)) (.var 10)) (.var 4)))
    (.cons (.ret (.tup (.cons (.var 3) (.cons (.bin .mod (.bin .sub (.bin .mul (.var 7) (.bin .sub (.var 8) (.var 3))) (.var 9)) (.var 4)) .nil))))
    .nil))))))), none⟩
def d12 : Def := ⟨"sum_of", 3, ["curve", "one", "two"], (.cons (.expr (.call 9 (.cons (.var 0) (.cons (.tup (.cons (.var 1) (.cons (.var 2) .nil))) .nil))))
    (.cons (.ret (.call 11 (.cons (.var 0) (.cons (.var 1) (.cons (.var 2) .nil)))))
    .nil)), none⟩
def d13 : Def := ⟨"moved", 2, ["curve", "u", "p", "a", "b"], (.cons (.asg (.tup (.cons (.name 2) (.cons (.name 3) (.cons (.name 4) .nil)))) (.var 0))
    (.cons (.ret (.tup (.cons (.var 2) (.cons (.bin .mod (.bin .mul (.bin .mul (.bin .mul (.bin .mul (.var 3) (.var 1)) (.var 1)) (.var 1)) (.var 1)) (.var 2)) (.cons (.bin .mod (.bin .mul (.bin .mul (.bin .mul (.bin .mul (.bin .mul (.bin .mul (.var 4) (.var 1)) (.var 1)) (.var 1)) (.var 1)) (.var 1)) (.var 1)) (.var 2)) .nil)))))
    .nil)), none⟩
def d14 : Def := ⟨"moved_point", 3, ["curve", "u", "point", "p"], (.cons (.if_ (.cmp .eq (.b1 .len (.var 2)) (.int 0)) (.cons (.ret (.tup .nil))
    .nil) .nil)
    (.cons (.asg (.name 3) (.ix (.var 0) (.int 0)))
    (.cons (.ret (.tup (.cons (.bin .mod (.bin .mul (.bin .mul (.ix (.var 2) (.int 0)) (.var 1)) (.var 1)) (.var 3)) (.cons (.bin .mod (.bin .mul (.bin .mul (.bin .mul (.ix (.var 2) (.int 1)) (.var 1)) (.var 1)) (.var 1)) (.var 3)) .nil))))
    .nil))), none⟩
def d15 : Def := ⟨"movers_of", 2, ["first", "second", "u"], (.cons (.ret (.comp (.name 2) [2] (.rng2 (.int 1) (.ix (.var 0) (.int 0))) true (.cmp .eq (.call 13 (.cons (.var 0) (.cons (.var 2) .nil))) (.var 1)) (.var 2)))
    .nil), none⟩
def d16 : Def := ⟨"home_of_curve", 1, ["curve", "u"], (.cons (.ret (.b1 .smin (.comp (.name 1) [1] (.rng2 (.int 1) (.ix (.var 0) (.int 0))) false (.bl true) (.call 13 (.cons (.var 0) (.cons (.var 1) .nil))))))
    .nil), none⟩
def d17 : Def := ⟨"kinds_of_curves", 1, ["p", "found", "known", "a", "b", "curve", "u"], (.cons (.thaw 1 (.lst .nil))
    (.cons (.dnew 2 true)
    (.cons (.for_ (.name 3) (.rng1 (.var 0)) (.cons (.for_ (.name 4) (.rng1 (.var 0)) (.cons (.asg (.name 5) (.tup (.cons (.var 0) (.cons (.var 3) (.cons (.var 4) .nil)))))
    (.cons (.if_ (.and (.cmp .ne (.bin .mod (.bin .add (.bin .mul (.bin .mul (.bin .mul (.int 4) (.var 3)) (.var 3)) (.var 3)) (.bin .mul (.bin .mul (.int 27) (.var 4)) (.var 4))) (.var 0)) (.int 0)) (.din true (.var 5) (.var 2))) (.cons (.dupd (.var 2) (.dcomp (.name 6) [6] (.rng2 (.int 1) (.var 0)) (.call 13 (.cons (.var 5) (.cons (.var 6) .nil))) (.bl true)))
    (.cons (.app (.var 1) (.var 5))
    .nil)) .nil)
    .nil)))
    .nil))
    (.cons (.ret (.var 1))
    .nil)))), none⟩
def d18 : Def := ⟨"mark_of", 1, ["curve", "cube", "p", "a", "b"], (.cons (.asg (.tup (.cons (.name 2) (.cons (.name 3) (.cons (.name 4) .nil)))) (.var 0))
    (.cons (.asg (.name 1) (.bin .mul (.bin .mul (.bin .mul (.int 4) (.var 3)) (.var 3)) (.var 3)))
    (.cons (.ret (.bin .mod (.bin .mul (.bin .mul (.int 1728) (.var 1)) (.call 2 (.cons (.bin .add (.var 1) (.bin .mul (.bin .mul (.int 27) (.var 4)) (.var 4))) (.cons (.var 2) .nil)))) (.var 2)))
    .nil))), none⟩
def d19 : Def := ⟨"twin_of", 1, ["curve", "squares", "d", "p", "a", "b", "number"], (.cons (.asg (.tup (.cons (.name 3) (.cons (.name 4) (.cons (.name 5) .nil)))) (.var 0))
    (.cons (.asg (.name 1) (.call 5 (.cons (.var 3) .nil)))
    (.cons (.asg (.name 2) (.ix (.comp (.name 6) [6] (.rng1 (.var 3)) true (.din true (.var 6) (.var 1)) (.var 6)) (.int 0)))
    (.cons (.ret (.tup (.cons (.var 3) (.cons (.bin .mod (.bin .mul (.bin .mul (.var 4) (.var 2)) (.var 2)) (.var 3)) (.cons (.bin .mod (.bin .mul (.bin .mul (.bin .mul (.var 5) (.var 2)) (.var 2)) (.var 2)) (.var 3)) .nil)))))
    .nil)))), none⟩
def d20 : Def := ⟨"_law_same", 2, ["actual", "due", "k"], (.cons (.if_ (.or (.isi (.var 1) .tuple) (.isi (.var 1) .list)) (.cons (.if_ (.or (.cmp .ne (.isi (.var 1) .tuple) (.isi (.var 0) .tuple)) (.or (.cmp .ne (.isi (.var 1) .list) (.isi (.var 0) .list)) (.cmp .ne (.b1 .len (.var 0)) (.b1 .len (.var 1))))) (.cons (.ret (.bl false))
    .nil) .nil)
    (.cons (.ret (.cmp .eq (.b1 .len (.comp (.name 2) [2] (.rng1 (.b1 .len (.var 1))) true (.not (.call 20 (.cons (.ix (.var 0) (.var 2)) (.cons (.ix (.var 1) (.var 2)) .nil)))) (.var 2))) (.int 0)))
    .nil)) .nil)
    (.cons (.if_ (.cmp .isn (.var 1) .non) (.cons (.ret (.cmp .isn (.var 0) .non))
    .nil) .nil)
    (.cons (.if_ (.or (.isi (.var 1) .bool) (.isi (.var 0) .bool)) (.cons (.ret (.and (.isi (.var 1) .bool) (.and (.isi (.var 0) .bool) (.cmp .eq (.var 0) (.var 1)))))
    .nil) .nil)
    (.cons (.if_ (.isi (.var 1) .int) (.cons (.ret (.and (.isi (.var 0) .int) (.cmp .eq (.var 0) (.var 1))))
    .nil) .nil)
    (.cons (.ret (.and (.isi (.var 0) .str) (.cmp .eq (.var 0) (.var 1))))
    .nil))))), none⟩
def d21 : Def := ⟨"_law_pool", 1, ["script", "salt", "cell"], (.cons (.asg (.name 1) (.int 7))
    (.cons (.for_ (.name 2) (.seq (.shi (.var 0) (.int 63))) (.cons (.asg (.name 1) (.bin .mod (.b1 .int (.bin .add (.bin .mul (.var 1) (.int 31)) (.var 2))) (.int 1000003)))
    .nil))
    .nil)), some (.lst (.cons (.b1 .list (.var 0)) (.cons (.int 0) (.cons (.int 0) (.cons (.int 0) (.cons (.var 1) .nil))))))⟩
def d22 : Def := ⟨"_law_spread", 1, ["cell", "mixed", "total", "k"], (.cons (.asg (.name 1) (.bin .mod (.b1 .int (.var 0)) (.int 2147483647)))
    (.cons (.asg (.name 2) (.int 1))
    (.cons (.for_ (.name 3) (.rng1 (.int 4)) (.cons (.asg (.name 1) (.bin .mod (.b1 .int (.bin .add (.bin .add (.bin .mul (.var 1) (.int 48271)) (.int 12345)) (.var 3))) (.int 2147483647)))
    (.cons (.asg (.name 2) (.bin .add (.bin .mul (.var 2) (.int 2147483647)) (.var 1)))
    .nil)))
    (.cons (.ret (.var 2))
    .nil)))), none⟩
def d23 : Def := ⟨"_law_draw", 2, ["pool", "many", "value", "cell", "mixed"], (.cons (.if_ (.and (.cmp .le (.ix (.var 0) (.int 2)) (.int 0)) (.cmp .lt (.ix (.var 0) (.int 1)) (.b1 .len (.ix (.var 0) (.int 0))))) (.cons (.asg (.name 3) (.ix (.ix (.var 0) (.int 0)) (.ix (.var 0) (.int 1))))
    (.cons (.seti (.var 0) (.int 1) (.bin .add (.ix (.var 0) (.int 1)) (.int 1)))
    (.cons (.seti (.var 0) (.int 2) (.var 3))
    (.cons (.if_ (.cmp .lt (.var 3) (.int 1000000000000000000)) (.cons (.seti (.var 0) (.int 2) (.call 22 (.cons (.var 3) .nil)))
    .nil) .nil)
    .nil)))) .nil)
    (.cons (.seti (.var 0) (.int 3) (.bin .add (.ix (.var 0) (.int 3)) (.int 1)))
    (.cons (.if_ (.cmp .le (.ix (.var 0) (.int 2)) (.int 0)) (.cons (.asg (.name 4) (.bin .mod (.b1 .int (.bin .add (.bin .add (.bin .mul (.ix (.var 0) (.int 4)) (.int 48271)) (.bin .mul (.ix (.var 0) (.int 3)) (.int 69621))) (.int 1))) (.int 2147483647)))
    (.cons (.asg (.name 4) (.bin .mod (.b1 .int (.bin .add (.bin .mul (.var 4) (.int 16807)) (.ix (.var 0) (.int 3)))) (.int 2147483629)))
    (.cons (.ret (.bin .mod (.bin .div (.var 4) (.int 5)) (.var 1)))
    .nil))) .nil)
    (.cons (.asg (.name 2) (.bin .mod (.b1 .int (.ix (.var 0) (.int 2))) (.var 1)))
    (.cons (.seti (.var 0) (.int 2) (.bin .div (.ix (.var 0) (.int 2)) (.var 1)))
    (.cons (.ret (.var 2))
    .nil)))))), none⟩
def d24 : Def := ⟨"_law_pick", 2, ["pool", "items"], (.cons (.ret (.ix (.var 1) (.call 23 (.cons (.var 0) (.cons (.b1 .len (.var 1)) .nil)))))
    .nil), none⟩
def d25 : Def := ⟨"_law_symbol", 2, ["n", "p", "rest", "k"], (.cons (.asg (.name 2) (.bin .mod (.b1 .int (.var 0)) (.var 1)))
    (.cons (.if_ (.cmp .eq (.var 2) (.int 0)) (.cons (.ret (.int 0))
    .nil) .nil)
    (.cons (.ret (.ite (.cmp .gt (.b1 .len (.comp (.name 3) [3] (.rng2 (.int 1) (.var 1)) true (.cmp .eq (.bin .mod (.b1 .int (.bin .mul (.var 3) (.var 3))) (.var 1)) (.var 2)) (.var 3))) (.int 0)) (.int 1) (.neg (.int 1))))
    .nil))), none⟩
def d26 : Def := ⟨"_law_prime", 2, ["pool", "most", "p"], (.cons (.ret (.call 24 (.cons (.var 0) (.cons (.comp (.name 2) [2] (.seq (.tup (.cons (.int 5) (.cons (.int 7) (.cons (.int 11) (.cons (.int 13) (.cons (.int 17) (.cons (.int 19) (.cons (.int 23) (.cons (.int 29) (.cons (.int 31) (.cons (.int 37) (.cons (.int 41) (.cons (.int 43) (.cons (.int 47) (.cons (.int 53) (.cons (.int 59) (.cons (.int 61) .nil)))))))))))))))))) true (.cmp .le (.var 2) (.var 1)) (.var 2)) .nil))))
    .nil), none⟩
def d27 : Def := ⟨"_law_curve", 2, ["pool", "most", "p", "kind", "a", "b"], (.cons (.asg (.name 2) (.call 26 (.cons (.var 0) (.cons (.var 1) .nil))))
    (.cons (.par [4, 5] (.cons (.call 23 (.cons (.var 0) (.cons (.var 2) .nil))) (.cons (.call 23 (.cons (.var 0) (.cons (.var 2) .nil))) .nil)))
    (.cons (.asg (.name 3) (.call 23 (.cons (.var 0) (.cons (.int 8) .nil))))
    (.cons (.asg (.tup (.cons (.name 4) (.cons (.name 5) .nil))) (.ite (.cmp .eq (.var 3) (.int 0)) (.tup (.cons (.int 0) (.cons (.var 5) .nil))) (.ite (.cmp .eq (.var 3) (.int 1)) (.tup (.cons (.var 4) (.cons (.int 0) .nil))) (.tup (.cons (.var 4) (.cons (.var 5) .nil))))))
    (.cons (.whl (.cmp .eq (.bin .mod (.b1 .int (.bin .add (.bin .mul (.bin .mul (.bin .mul (.int 4) (.var 4)) (.var 4)) (.var 4)) (.bin .mul (.bin .mul (.int 27) (.var 5)) (.var 5)))) (.var 2)) (.int 0)) (.cons (.asg (.tup (.cons (.name 4) (.cons (.name 5) .nil))) (.ite (.cmp .gt (.var 3) (.int 1)) (.tup (.cons (.bin .mod (.b1 .int (.bin .add (.var 4) (.int 1))) (.var 2)) (.cons (.bin .mod (.b1 .int (.bin .add (.var 5) (.int 2))) (.var 2)) .nil))) (.tup (.cons (.bin .mod (.b1 .int (.bin .add (.var 4) (.ite (.cmp .eq (.var 3) (.int 1)) (.int 1) (.int 0)))) (.var 2)) (.cons (.bin .mod (.b1 .int (.bin .add (.var 5) (.ite (.cmp .eq (.var 3) (.int 0)) (.int 1) (.int 0)))) (.var 2)) .nil)))))
    .nil))
    (.cons (.ret (.tup (.cons (.var 2) (.cons (.var 4) (.cons (.var 5) .nil)))))
    .nil)))))), none⟩
def d28 : Def := ⟨"_law_over", 2, ["n", "p", "k"], (.cons (.ret (.ix (.comp (.name 2) [2] (.rng2 (.int 1) (.var 1)) true (.cmp .eq (.bin .mod (.b1 .int (.bin .mul (.var 2) (.var 0))) (.var 1)) (.int 1)) (.var 2)) (.int 0)))
    .nil), none⟩
def d29 : Def := ⟨"_law_add", 3, ["curve", "one", "two", "x", "p", "a", "b", "s"], (.cons (.asg (.tup (.cons (.name 4) (.cons (.name 5) (.cons (.name 6) .nil)))) (.var 0))
    (.cons (.if_ (.cmp .eq (.var 1) (.tup .nil)) (.cons (.ret (.var 2))
    .nil) .nil)
    (.cons (.if_ (.cmp .eq (.var 2) (.tup .nil)) (.cons (.ret (.var 1))
    .nil) .nil)
    (.cons (.if_ (.and (.cmp .eq (.ix (.var 1) (.int 0)) (.ix (.var 2) (.int 0))) (.cmp .eq (.bin .mod (.b1 .int (.bin .add (.ix (.var 1) (.int 1)) (.ix (.var 2) (.int 1)))) (.var 4)) (.int 0))) (.cons (.ret (.tup .nil))
    .nil) .nil)
    (.cons (.if_ (.cmp .eq (.var 1) (.var 2)) (.cons (.asg (.name 7) (.bin .mul (.bin .add (.bin .mul (.bin .mul (.int 3) (.ix (.var 1) (.int 0))) (.ix (.var 1) (.int 0))) (.var 5)) (.call 28 (.cons (.bin .mul (.int 2) (.ix (.var 1) (.int 1))) (.cons (.var 4) .nil)))))
    .nil) (.cons (.asg (.name 7) (.bin .mul (.bin .sub (.ix (.var 2) (.int 1)) (.ix (.var 1) (.int 1))) (.call 28 (.cons (.bin .sub (.ix (.var 2) (.int 0)) (.ix (.var 1) (.int 0))) (.cons (.var 4) .nil)))))
    .nil))
    (.cons (.asg (.name 3) (.bin .mod (.b1 .int (.bin .sub (.bin .sub (.bin .mul (.var 7) (.var 7)) (.ix (.var 1) (.int 0))) (.ix (.var 2) (.int 0)))) (.var 4)))
    (.cons (.ret (.tup (.cons (.var 3) (.cons (.bin .mod (.b1 .int (.bin .sub (.bin .mul (.var 7) (.bin .sub (.ix (.var 1) (.int 0)) (.var 3))) (.ix (.var 1) (.int 1)))) (.var 4)) .nil))))
    .nil))))))), none⟩
def d30 : Def := ⟨"_law_move", 2, ["curve", "u", "p", "a", "b"], (.cons (.asg (.tup (.cons (.name 2) (.cons (.name 3) (.cons (.name 4) .nil)))) (.var 0))
    (.cons (.ret (.tup (.cons (.var 2) (.cons (.bin .mod (.b1 .int (.bin .mul (.var 3) (.bin .pow (.var 1) (.int 4)))) (.var 2)) (.cons (.bin .mod (.b1 .int (.bin .mul (.var 4) (.bin .pow (.var 1) (.int 6)))) (.var 2)) .nil)))))
    .nil)), none⟩
def d31 : Def := ⟨"_law_kind", 1, ["curve", "u"], (.cons (.ret (.ix (.b1 .sorted (.comp (.name 1) [1] (.rng2 (.int 1) (.ix (.var 0) (.int 0))) false (.bl true) (.call 30 (.cons (.var 0) (.cons (.var 1) .nil))))) (.int 0)))
    .nil), none⟩
def d32 : Def := ⟨"_law_all_kinds", 1, ["p", "found", "a", "b"], (.cons (.dnew 1 true)
    (.cons (.for_ (.name 2) (.rng1 (.var 0)) (.cons (.for_ (.name 3) (.rng1 (.var 0)) (.cons (.if_ (.cmp .ne (.bin .mod (.b1 .int (.bin .add (.bin .mul (.bin .mul (.bin .mul (.int 4) (.var 2)) (.var 2)) (.var 2)) (.bin .mul (.bin .mul (.int 27) (.var 3)) (.var 3)))) (.var 0)) (.int 0)) (.cons (.dset (.var 1) (.call 31 (.cons (.tup (.cons (.var 0) (.cons (.var 2) (.cons (.var 3) .nil)))) .nil)) (.bl true))
    .nil) .nil)
    .nil))
    .nil))
    (.cons (.ret (.b1 .sorted (.dkeys (.var 1))))
    .nil))), none⟩
def d33 : Def := ⟨"law", 1, ["script", "pool", "curve", "u", "there", "other", "goal", "points", "led", "twin", "d", "mark", "q", "kinds", "total", "kind", "p", "a", "b", "one", "two", "point", "k", "v"], (.cons (.thaw 1 (.call 21 (.cons (.var 0) .nil)))
    (.cons (.asg (.name 2) (.call 27 (.cons (.var 1) (.cons (.int 61) .nil))))
    (.cons (.asg (.tup (.cons (.name 16) (.cons (.name 17) (.cons (.name 18) .nil)))) (.var 2))
    (.cons (.asg (.name 3) (.bin .add (.int 1) (.call 23 (.cons (.var 1) (.cons (.bin .sub (.var 16) (.int 1)) .nil)))))
    (.cons (.asg (.name 4) (.call 30 (.cons (.var 2) (.cons (.var 3) .nil))))
    (.cons (.if_ (.not (.call 20 (.cons (.lst (.cons (.call 13 (.cons (.var 2) (.cons (.var 3) .nil))) (.cons (.call 16 (.cons (.var 2) .nil)) (.cons (.call 16 (.cons (.var 4) .nil)) .nil)))) (.cons (.lst (.cons (.var 4) (.cons (.call 31 (.cons (.var 2) .nil)) (.cons (.call 31 (.cons (.var 2) .nil)) .nil)))) .nil)))) (.cons (.ret (.bl false))
    .nil) .nil)
    (.cons (.asg (.name 5) (.call 27 (.cons (.var 1) (.cons (.int 61) .nil))))
    (.cons (.asg (.name 5) (.tup (.cons (.var 16) (.cons (.bin .mod (.b1 .int (.ix (.var 5) (.int 1))) (.var 16)) (.cons (.bin .mod (.b1 .int (.ix (.var 5) (.int 2))) (.var 16)) .nil)))))
    (.cons (.for_ (.name 6) (.seq (.tup (.cons (.var 4) (.cons (.var 2) (.cons (.var 5) .nil))))) (.cons (.if_ (.not (.call 20 (.cons (.call 15 (.cons (.var 2) (.cons (.var 6) .nil))) (.cons (.comp (.name 23) [23] (.rng2 (.int 1) (.var 16)) true (.cmp .eq (.call 30 (.cons (.var 2) (.cons (.var 23) .nil))) (.var 6)) (.var 23)) .nil)))) (.cons (.ret (.bl false))
    .nil) .nil)
    .nil))
    (.cons (.asg (.name 7) (.call 6 (.cons (.var 2) .nil)))
    (.cons (.par [19, 20] (.cons (.call 24 (.cons (.var 1) (.cons (.var 7) .nil))) (.cons (.call 24 (.cons (.var 1) (.cons (.var 7) .nil))) .nil)))
    (.cons (.asg (.name 8) (.comp (.name 21) [21] (.seq (.tup (.cons (.var 19) (.cons (.var 20) (.cons (.call 29 (.cons (.var 2) (.cons (.var 19) (.cons (.var 20) .nil)))) .nil))))) false (.bl true) (.call 14 (.cons (.var 2) (.cons (.var 3) (.cons (.var 21) .nil))))))
    (.cons (.if_ (.or (.cmp .ne (.call 12 (.cons (.var 4) (.cons (.ix (.var 8) (.int 0)) (.cons (.ix (.var 8) (.int 1)) .nil)))) (.ix (.var 8) (.int 2))) (.cmp .ne (.b1 .sorted (.comp (.name 21) [21] (.seq (.var 7)) false (.bl true) (.call 14 (.cons (.var 2) (.cons (.var 3) (.cons (.var 21) .nil)))))) (.call 6 (.cons (.var 4) .nil)))) (.cons (.ret (.bl false))
    .nil) .nil)
    (.cons (.asg (.name 9) (.call 19 (.cons (.var 2) .nil)))
    (.cons (.asg (.name 10) (.ix (.comp (.name 22) [22] (.rng1 (.var 16)) true (.cmp .eq (.call 25 (.cons (.var 22) (.cons (.var 16) .nil))) (.neg (.int 1))) (.var 22)) (.int 0)))
    (.cons (.if_ (.or (.cmp .ne (.var 9) (.tup (.cons (.var 16) (.cons (.bin .mod (.b1 .int (.bin .mul (.bin .mul (.var 17) (.var 10)) (.var 10))) (.var 16)) (.cons (.bin .mod (.b1 .int (.bin .mul (.bin .mul (.bin .mul (.var 18) (.var 10)) (.var 10)) (.var 10))) (.var 16)) .nil))))) (.cmp .ne (.call 8 (.cons (.var 9) .nil)) (.bin .sub (.int 0) (.call 8 (.cons (.var 2) .nil))))) (.cons (.ret (.bl false))
    .nil) .nil)
    (.cons (.asg (.name 11) (.call 18 (.cons (.var 2) .nil)))
    (.cons (.if_ (.or (.cmp .ne (.bin .mod (.b1 .int (.bin .sub (.bin .mul (.var 11) (.bin .add (.bin .mul (.bin .mul (.bin .mul (.int 4) (.var 17)) (.var 17)) (.var 17)) (.bin .mul (.bin .mul (.int 27) (.var 18)) (.var 18)))) (.bin .mul (.bin .mul (.bin .mul (.bin .mul (.int 1728) (.int 4)) (.var 17)) (.var 17)) (.var 17)))) (.var 16)) (.int 0)) (.or (.cmp .ne (.call 18 (.cons (.var 9) .nil)) (.var 11)) (.or (.cmp .lt (.var 11) (.int 0)) (.cmp .ge (.var 11) (.var 16))))) (.cons (.ret (.bl false))
    .nil) .nil)
    (.cons (.asg (.name 12) (.call 26 (.cons (.var 1) (.cons (.int 23) .nil))))
    (.cons (.asg (.name 13) (.call 17 (.cons (.var 12) .nil)))
    (.cons (.if_ (.cmp .ne (.var 13) (.call 32 (.cons (.var 12) .nil))) (.cons (.ret (.bl false))
    .nil) .nil)
    (.cons (.asg (.name 14) (.b1 .sum (.comp (.name 15) [15] (.seq (.var 13)) false (.bl true) (.bin .div (.int 60) (.b1 .len (.call 15 (.cons (.var 15) (.cons (.var 15) .nil))))))))
    (.cons (.if_ (.cmp .ne (.var 14) (.bin .mul (.int 60) (.var 12))) (.cons (.ret (.bl false))
    .nil) .nil)
    (.cons (.asg (.name 15) (.call 24 (.cons (.var 1) (.cons (.var 13) .nil))))
    (.cons (.ret (.cmp .eq (.b1 .len (.comp (.name 19) [19] (.seq (.var 13)) true (.cmp .eq (.call 18 (.cons (.var 19) .nil)) (.call 18 (.cons (.var 15) .nil))) (.var 19))) (.b1 .len (.call 15 (.cons (.var 15) (.cons (.var 15) .nil))))))
    .nil))))))))))))))))))))))))), none⟩
def T : Tab := ⟨[d0, d1, d2, d3, d4, d5, d6, d7, d8, d9, d10, d11, d12, d13, d14, d15, d16, d17, d18, d19, d20, d21, d22, d23, d24, d25, d26, d27, d28, d29, d30, d31, d32, d33], []⟩
def C (k : Nat) : Call := callD T.defs 1000000 k
theorem c0 (k : Nat) (rs : List R) (S : Store) : C (k+1) 0 rs S = if rs.length = 1 then back S.length (exSs (C k) 1000000 d0.body (start d0.names.length rs) S) else none := rfl
theorem c1 (k : Nat) (rs : List R) (S : Store) : C (k+1) 1 rs S = if rs.length = 2 then back S.length (exSs (C k) 1000000 d1.body (start d1.names.length rs) S) else none := rfl
theorem c2 (k : Nat) (rs : List R) (S : Store) : C (k+1) 2 rs S = if rs.length = 2 then back S.length (exSs (C k) 1000000 d2.body (start d2.names.length rs) S) else none := rfl
theorem c3 (k : Nat) (rs : List R) (S : Store) : C (k+1) 3 rs S = if rs.length = 2 then back S.length (exSs (C k) 1000000 d3.body (start d3.names.length rs) S) else none := rfl
theorem c4 (k : Nat) (rs : List R) (S : Store) : C (k+1) 4 rs S = if rs.length = 2 then back S.length (exSs (C k) 1000000 d4.body (start d4.names.length rs) S) else none := rfl
theorem c5 (k : Nat) (rs : List R) (S : Store) : C (k+1) 5 rs S = if rs.length = 1 then back S.length (exSs (C k) 1000000 d5.body (start d5.names.length rs) S) else none := rfl
theorem c6 (k : Nat) (rs : List R) (S : Store) : C (k+1) 6 rs S = if rs.length = 1 then back S.length (exSs (C k) 1000000 d6.body (start d6.names.length rs) S) else none := rfl
theorem c7 (k : Nat) (rs : List R) (S : Store) : C (k+1) 7 rs S = if rs.length = 1 then back S.length (exSs (C k) 1000000 d7.body (start d7.names.length rs) S) else none := rfl
theorem c8 (k : Nat) (rs : List R) (S : Store) : C (k+1) 8 rs S = if rs.length = 1 then back S.length (exSs (C k) 1000000 d8.body (start d8.names.length rs) S) else none := rfl
theorem c9 (k : Nat) (rs : List R) (S : Store) : C (k+1) 9 rs S = if rs.length = 2 then back S.length (exSs (C k) 1000000 d9.body (start d9.names.length rs) S) else none := rfl
theorem c10 (k : Nat) (rs : List R) (S : Store) : C (k+1) 10 rs S = if rs.length = 2 then back S.length (exSs (C k) 1000000 d10.body (start d10.names.length rs) S) else none := rfl
theorem c11 (k : Nat) (rs : List R) (S : Store) : C (k+1) 11 rs S = if rs.length = 3 then back S.length (exSs (C k) 1000000 d11.body (start d11.names.length rs) S) else none := rfl
theorem c12 (k : Nat) (rs : List R) (S : Store) : C (k+1) 12 rs S = if rs.length = 3 then back S.length (exSs (C k) 1000000 d12.body (start d12.names.length rs) S) else none := rfl
theorem c13 (k : Nat) (rs : List R) (S : Store) : C (k+1) 13 rs S = if rs.length = 2 then back S.length (exSs (C k) 1000000 d13.body (start d13.names.length rs) S) else none := rfl
theorem c14 (k : Nat) (rs : List R) (S : Store) : C (k+1) 14 rs S = if rs.length = 3 then back S.length (exSs (C k) 1000000 d14.body (start d14.names.length rs) S) else none := rfl
theorem c15 (k : Nat) (rs : List R) (S : Store) : C (k+1) 15 rs S = if rs.length = 2 then back S.length (exSs (C k) 1000000 d15.body (start d15.names.length rs) S) else none := rfl
theorem c16 (k : Nat) (rs : List R) (S : Store) : C (k+1) 16 rs S = if rs.length = 1 then back S.length (exSs (C k) 1000000 d16.body (start d16.names.length rs) S) else none := rfl
theorem c17 (k : Nat) (rs : List R) (S : Store) : C (k+1) 17 rs S = if rs.length = 1 then back S.length (exSs (C k) 1000000 d17.body (start d17.names.length rs) S) else none := rfl
theorem c18 (k : Nat) (rs : List R) (S : Store) : C (k+1) 18 rs S = if rs.length = 1 then back S.length (exSs (C k) 1000000 d18.body (start d18.names.length rs) S) else none := rfl
theorem c19 (k : Nat) (rs : List R) (S : Store) : C (k+1) 19 rs S = if rs.length = 1 then back S.length (exSs (C k) 1000000 d19.body (start d19.names.length rs) S) else none := rfl
theorem c20 (k : Nat) (rs : List R) (S : Store) : C (k+1) 20 rs S = if rs.length = 2 then back S.length (exSs (C k) 1000000 d20.body (start d20.names.length rs) S) else none := rfl
theorem c21 (k : Nat) (rs : List R) (S : Store) : C (k+1) 21 rs S = if rs.length = 1 then backN S.length (C k) (d21.fin.getD .non) (exSs (C k) 1000000 d21.body (start d21.names.length rs) S) else none := rfl
theorem c22 (k : Nat) (rs : List R) (S : Store) : C (k+1) 22 rs S = if rs.length = 1 then back S.length (exSs (C k) 1000000 d22.body (start d22.names.length rs) S) else none := rfl
theorem c23 (k : Nat) (rs : List R) (S : Store) : C (k+1) 23 rs S = if rs.length = 2 then back S.length (exSs (C k) 1000000 d23.body (start d23.names.length rs) S) else none := rfl
theorem c24 (k : Nat) (rs : List R) (S : Store) : C (k+1) 24 rs S = if rs.length = 2 then back S.length (exSs (C k) 1000000 d24.body (start d24.names.length rs) S) else none := rfl
theorem c25 (k : Nat) (rs : List R) (S : Store) : C (k+1) 25 rs S = if rs.length = 2 then back S.length (exSs (C k) 1000000 d25.body (start d25.names.length rs) S) else none := rfl
theorem c26 (k : Nat) (rs : List R) (S : Store) : C (k+1) 26 rs S = if rs.length = 2 then back S.length (exSs (C k) 1000000 d26.body (start d26.names.length rs) S) else none := rfl
theorem c27 (k : Nat) (rs : List R) (S : Store) : C (k+1) 27 rs S = if rs.length = 2 then back S.length (exSs (C k) 1000000 d27.body (start d27.names.length rs) S) else none := rfl
theorem c28 (k : Nat) (rs : List R) (S : Store) : C (k+1) 28 rs S = if rs.length = 2 then back S.length (exSs (C k) 1000000 d28.body (start d28.names.length rs) S) else none := rfl
theorem c29 (k : Nat) (rs : List R) (S : Store) : C (k+1) 29 rs S = if rs.length = 3 then back S.length (exSs (C k) 1000000 d29.body (start d29.names.length rs) S) else none := rfl
theorem c30 (k : Nat) (rs : List R) (S : Store) : C (k+1) 30 rs S = if rs.length = 2 then back S.length (exSs (C k) 1000000 d30.body (start d30.names.length rs) S) else none := rfl
theorem c31 (k : Nat) (rs : List R) (S : Store) : C (k+1) 31 rs S = if rs.length = 1 then back S.length (exSs (C k) 1000000 d31.body (start d31.names.length rs) S) else none := rfl
theorem c32 (k : Nat) (rs : List R) (S : Store) : C (k+1) 32 rs S = if rs.length = 1 then back S.length (exSs (C k) 1000000 d32.body (start d32.names.length rs) S) else none := rfl
theorem c33 (k : Nat) (rs : List R) (S : Store) : C (k+1) 33 rs S = if rs.length = 1 then back S.length (exSs (C k) 1000000 d33.body (start d33.names.length rs) S) else none := rfl
end LAW
end
section
namespace LAW
open PC
/-- a value that reads as this list, whatever is added behind the store -/
def Rd (r : R) (S : Store) (d : D) : Prop := ∀ T, viewS r (S ++ T) = some d
theorem Rd.d (d : D) (S : Store) : Rd (.d d) S d := fun _ => rfl
theorem Rd.loc {n : Nat} {S : Store} {xs : List D} (h : S[n]? = some (.lst xs)) : Rd (.loc n) S (.list xs) := fun T => by
  have hl : n < S.length := (List.getElem?_eq_some_iff.mp h).1
  exact viewS_loc (by rw [List.getElem?_append_left hl]; exact h)
theorem smI_of {x : Int} (h0 : 0 ≤ x) (h1 : x < 1000000) : smI x = true := by
  unfold smI
  exact decide_eq_true (by omega)
def primes : List Int := [5, 7, 11, 13, 17, 19, 23, 29, 31, 37, 41, 43, 47, 53, 59, 61]
theorem pr_bd : ∀ p ∈ primes, 4 < p ∧ p < 62 := by decide
theorem rg_len (n : Nat) : (rg n).length = n := by simp [rg]
theorem rg_mem {n : Nat} {x : Int} (h : x ∈ rg n) : ∃ i : Nat, i < n ∧ x = i := by
  obtain ⟨i, hi, rfl⟩ := List.mem_map.mp h
  exact ⟨i, List.mem_range.mp hi, rfl⟩
theorem rngOk_nat {n : Nat} (h : n < 1000000) : rngOk (n : Int) = true := by
  unfold rngOk
  rw [Bool.and_eq_true]
  exact ⟨decide_eq_true (by omega), decide_eq_true (by omega)⟩
/-! ### equality of lists of numbers -/
theorem lay_iL : ∀ l : List Int, PySem.PyData.canLayAll0 (iL l) = true
  | [] => by simp [iL, PySem.PyData.canLayAll0]
  | a :: l => by rw [iL_cons, PySem.PyData.canLayAll0, PySem.PyData.canLay0, lay_iL l]; rfl
theorem dep_iL : ∀ l : List Int, PySem.PyData.depthAll (iL l) = 0
  | [] => by simp [iL, PySem.PyData.depthAll]
  | a :: l => by rw [iL_cons, PySem.PyData.depthAll, PySem.PyData.depth, dep_iL l]; rfl
theorem eqv_iL : ∀ l m : List Int, PySem.PyData.eqvAll (iL l) (iL m) = decide (l = m)
  | [], [] => by simp [iL, PySem.PyData.eqvAll]
  | [], b :: m => by simp [iL, PySem.PyData.eqvAll]
  | a :: l, [] => by simp [iL, PySem.PyData.eqvAll]
  | a :: l, b :: m => by
    rw [iL_cons, iL_cons, PySem.PyData.eqvAll, PySem.PyData.eqv, eqv_iL l m]
    by_cases h : a = b <;> by_cases h2 : l = m <;> simp [h, h2]
theorem shaped_tI (l : List Int) : PySem.SeqAt.shaped (tI l) = true := by
  simp [PySem.SeqAt.shaped, PySem.PyData.canLay0, PySem.PyData.depth, lay_iL, dep_iL]
theorem shaped_lI (l : List Int) : PySem.SeqAt.shaped (lI l) = true := by
  simp [PySem.SeqAt.shaped, PySem.PyData.canLay0, PySem.PyData.depth, lay_iL, dep_iL]
theorem eq_tI (l m : List Int) : cmpD .eq (tI l) (tI m) = some (decide (l = m)) := by
  show eqD (tI l) (tI m) = _
  unfold eqD
  rw [shaped_tI, shaped_tI, ← eqv_iL]
  simp [PySem.PyData.eqv]
theorem ne_tI (l m : List Int) : cmpD .ne (tI l) (tI m) = some (!decide (l = m)) := by
  show neg? (eqD (tI l) (tI m)) = _
  have : eqD (tI l) (tI m) = some (decide (l = m)) := eq_tI l m
  rw [this]; rfl
theorem ne_lI (l m : List Int) : cmpD .ne (lI l) (lI m) = some (!decide (l = m)) := by
  show neg? (eqD (lI l) (lI m)) = _
  have : eqD (lI l) (lI m) = some (decide (l = m)) := by
    unfold eqD
    rw [shaped_lI, shaped_lI, ← eqv_iL]
    simp [PySem.PyData.eqv]
  rw [this]; rfl
theorem nil_tI : (.tuple [] : D) = tI [] := rfl
end LAW
end
section
namespace LAW
open PC
/-! ### the pool of draws -/
def pool (cells : List Int) (pos cur cnt salt : Int) : List D := [.list (cells.map PySem.PyData.int), .int pos, .int cur, .int cnt, .int salt]
def PoolAt (P : List D) : Prop := ∃ cells pos cur cnt salt, 0 ≤ pos ∧ P = pool cells pos cur cnt salt
theorem view0 (xs : List D) (X : Store) : viewD (.loc 0) (.lst xs :: X) = some (.list xs) := rfl
theorem view0S (xs : List D) (X : Store) : viewS (.loc 0) (.lst xs :: X) = some (.list xs) := rfl
theorem cell0 (xs : List D) (X : Store) : cellAt (.lst xs :: X) 0 = some xs := rfl
theorem set0 (a : Cell) (xs : List D) (X : Store) : setCell (a :: X) 0 xs = .lst xs :: X := rfl
def HSpread (Cl : Call) : Prop := ∀ (c : Int) (S : Store), ∃ v, Cl 22 [.d (.int c)] S = some (.d (.int v), S)
theorem hSpread (k : Nat) : HSpread (C (k+1)) := fun c S => by
  rw [c22]
  simp (decide := true) [d22, forN, ev_var, ev_glob, ev_int, ev_bl, ev_non, ev_str, ev_bin, ev_neg, ev_not, ev_and, ev_or, ev_cmp, ev_chain, ev_ite, ev_ix, ev_slo, ev_shi, ev_rev, ev_tup, ev_lst, ev_b1, ev_b2, ev_isi, ev_call, ev_lcnt, ev_lidx, ev_dget, ev_dix, ev_din, ev_dkeys, evs_nil, evs_cons, evi_rng1, evi_rng2, evi_rng3, evi_seq, evi_zip, ex_asg, ex_thaw, ex_par, ex_aug, ex_seti, ex_augi, ex_if_, ex_ret, ex_app, ex_ext, ex_pop, ex_dnew, ex_dset, ex_dupd, ex_expr, ex_parG, ex_pass, exs_nil, exs_cons, ex_for_, ex_whl, ev_comp, binI_add, binI_sub, binI_mulL, binI_mulR, binI_div, binI_mod, bin_int, cmp_int, cmpI_eq, cmpI_ne, cmpI_lt, cmpI_le, cmpI_gt, cmpI_ge, view_d, viewS_d, viewS_scr, b1_len_list, b1_len_tuple, b1_int_int, b1_tuple_list, b1_list_list, b1_list_tuple, ix_list, ix_tuple, asg_name, asg_tupT, asg_tupL, asg_tupK, viewS_kt, globR_tup, globR_str, slR_d, slR_scr, slR_kt, dict_dic, key_int, asgs_nil, asgs_cons, back_rt, back_nx, st_F, te_W, bd_W, st_C0, st_C1, wipe_nil, wipe_cons, sets_nil, sets_cons, pures_nil, pures_cons, rng_n, seq_n, rng_get, seq_list, seq_tuple, seq_getT, seq_getL, seq_getS, rng_fin, start_eq, iL_len, iL_snoc, iL_nil]
def HDraw (Cl : Call) : Prop := ∀ (P : List D) (X : Store) (many : Int), PoolAt P → 0 < many → many < 1073741824 → ∃ v P', PoolAt P' ∧ 0 ≤ v ∧ v < many ∧ Cl 23 [.loc 0, .d (.int many)] (.lst P :: X) = some (.d (.int v), .lst P' :: X)
theorem draw_ok {Cl : Call} (hS : HSpread Cl) (cells : List Int) (pos cur cnt salt many : Int) (X : Store) (hp : 0 ≤ pos) (hm : 0 < many) (hm2 : many < 1073741824) : ∃ v pos' cur' cnt', 0 ≤ pos' ∧ 0 ≤ v ∧ v < many ∧
    back (.lst (pool cells pos cur cnt salt) :: X : Store).length (exSs Cl 1000000 d23.body (start d23.names.length [.loc 0, .d (.int many)]) (.lst (pool cells pos cur cnt salt) :: X)) = some (.d (.int v), .lst (pool cells pos' cur' cnt' salt) :: X) := by
  have e1 : ∀ z : Int, 0 ≤ z % many ∧ z % many < many := fun z => ⟨Int.emod_nonneg _ (by omega), Int.emod_lt_of_pos _ hm⟩
  by_cases h1 : cur ≤ 0
  · by_cases h2 : pos < cells.length
    · have hb : pos.toNat < cells.length := by omega
      obtain ⟨c, hc2⟩ : ∃ c, cells[pos.toNat]'hb = c := ⟨_, rfl⟩
      have hc : cells[pos.toNat]? = some c := by rw [List.getElem?_eq_getElem hb, hc2]
      by_cases h3 : c < 1000000000000000000
      · obtain ⟨w, hw⟩ := hS c (.lst (pool cells (pos+1) c cnt salt) :: X)
        unfold pool at hw
        by_cases h4 : w ≤ 0
        · simp (decide := true) [d23, ev_var, ev_glob, ev_int, ev_bl, ev_non, ev_str, ev_bin, ev_neg, ev_not, ev_and, ev_or, ev_cmp, ev_chain, ev_ite, ev_ix, ev_slo, ev_shi, ev_rev, ev_tup, ev_lst, ev_b1, ev_b2, ev_isi, ev_call, ev_lcnt, ev_lidx, ev_dget, ev_dix, ev_din, ev_dkeys, evs_nil, evs_cons, evi_rng1, evi_rng2, evi_rng3, evi_seq, evi_zip, ex_asg, ex_thaw, ex_par, ex_aug, ex_seti, ex_augi, ex_if_, ex_ret, ex_app, ex_ext, ex_pop, ex_dnew, ex_dset, ex_dupd, ex_expr, ex_parG, ex_pass, exs_nil, exs_cons, ex_for_, ex_whl, ev_comp, binI_add, binI_sub, binI_mulL, binI_mulR, binI_div, binI_mod, bin_int, cmp_int, cmpI_eq, cmpI_ne, cmpI_lt, cmpI_le, cmpI_gt, cmpI_ge, view_d, viewS_d, viewS_scr, b1_len_list, b1_len_tuple, b1_int_int, b1_tuple_list, b1_list_list, b1_list_tuple, ix_list, ix_tuple, asg_name, asg_tupT, asg_tupL, asg_tupK, viewS_kt, globR_tup, globR_str, slR_d, slR_scr, slR_kt, dict_dic, key_int, asgs_nil, asgs_cons, back_rt, back_nx, st_F, te_W, bd_W, st_C0, st_C1, wipe_nil, wipe_cons, sets_nil, sets_cons, pures_nil, pures_cons, rng_n, seq_n, rng_get, seq_list, seq_tuple, seq_getT, seq_getL, seq_getS, rng_fin, start_eq, iL_len, iL_snoc, iL_nil, view0, view0S, cell0, set0, pool, L2.atI, L2.ixN, h1, h2, hp, hc, hc2, hb, h3, h4, hw, hm, hm2, e1]
          first | exact ⟨_, _, by omega, (e1 _).1, (e1 _).2, rfl, rfl⟩ | exact ⟨_, _, by omega, (e1 _).1, (e1 _).2, _, rfl, rfl, rfl⟩ | exact ⟨_, _, _, by omega, (e1 _).1, (e1 _).2, rfl, rfl, rfl⟩ | trace_state
        · simp (decide := true) [d23, ev_var, ev_glob, ev_int, ev_bl, ev_non, ev_str, ev_bin, ev_neg, ev_not, ev_and, ev_or, ev_cmp, ev_chain, ev_ite, ev_ix, ev_slo, ev_shi, ev_rev, ev_tup, ev_lst, ev_b1, ev_b2, ev_isi, ev_call, ev_lcnt, ev_lidx, ev_dget, ev_dix, ev_din, ev_dkeys, evs_nil, evs_cons, evi_rng1, evi_rng2, evi_rng3, evi_seq, evi_zip, ex_asg, ex_thaw, ex_par, ex_aug, ex_seti, ex_augi, ex_if_, ex_ret, ex_app, ex_ext, ex_pop, ex_dnew, ex_dset, ex_dupd, ex_expr, ex_parG, ex_pass, exs_nil, exs_cons, ex_for_, ex_whl, ev_comp, binI_add, binI_sub, binI_mulL, binI_mulR, binI_div, binI_mod, bin_int, cmp_int, cmpI_eq, cmpI_ne, cmpI_lt, cmpI_le, cmpI_gt, cmpI_ge, view_d, viewS_d, viewS_scr, b1_len_list, b1_len_tuple, b1_int_int, b1_tuple_list, b1_list_list, b1_list_tuple, ix_list, ix_tuple, asg_name, asg_tupT, asg_tupL, asg_tupK, viewS_kt, globR_tup, globR_str, slR_d, slR_scr, slR_kt, dict_dic, key_int, asgs_nil, asgs_cons, back_rt, back_nx, st_F, te_W, bd_W, st_C0, st_C1, wipe_nil, wipe_cons, sets_nil, sets_cons, pures_nil, pures_cons, rng_n, seq_n, rng_get, seq_list, seq_tuple, seq_getT, seq_getL, seq_getS, rng_fin, start_eq, iL_len, iL_snoc, iL_nil, view0, view0S, cell0, set0, pool, L2.atI, L2.ixN, h1, h2, hp, hc, hc2, hb, h3, h4, hw, hm, hm2, e1]
          first | exact ⟨_, _, by omega, (e1 _).1, (e1 _).2, rfl, rfl⟩ | exact ⟨_, _, by omega, (e1 _).1, (e1 _).2, _, rfl, rfl, rfl⟩ | exact ⟨_, _, _, by omega, (e1 _).1, (e1 _).2, rfl, rfl, rfl⟩ | trace_state
      · have h4 : ¬ c ≤ 0 := by omega
        simp (decide := true) [d23, ev_var, ev_glob, ev_int, ev_bl, ev_non, ev_str, ev_bin, ev_neg, ev_not, ev_and, ev_or, ev_cmp, ev_chain, ev_ite, ev_ix, ev_slo, ev_shi, ev_rev, ev_tup, ev_lst, ev_b1, ev_b2, ev_isi, ev_call, ev_lcnt, ev_lidx, ev_dget, ev_dix, ev_din, ev_dkeys, evs_nil, evs_cons, evi_rng1, evi_rng2, evi_rng3, evi_seq, evi_zip, ex_asg, ex_thaw, ex_par, ex_aug, ex_seti, ex_augi, ex_if_, ex_ret, ex_app, ex_ext, ex_pop, ex_dnew, ex_dset, ex_dupd, ex_expr, ex_parG, ex_pass, exs_nil, exs_cons, ex_for_, ex_whl, ev_comp, binI_add, binI_sub, binI_mulL, binI_mulR, binI_div, binI_mod, bin_int, cmp_int, cmpI_eq, cmpI_ne, cmpI_lt, cmpI_le, cmpI_gt, cmpI_ge, view_d, viewS_d, viewS_scr, b1_len_list, b1_len_tuple, b1_int_int, b1_tuple_list, b1_list_list, b1_list_tuple, ix_list, ix_tuple, asg_name, asg_tupT, asg_tupL, asg_tupK, viewS_kt, globR_tup, globR_str, slR_d, slR_scr, slR_kt, dict_dic, key_int, asgs_nil, asgs_cons, back_rt, back_nx, st_F, te_W, bd_W, st_C0, st_C1, wipe_nil, wipe_cons, sets_nil, sets_cons, pures_nil, pures_cons, rng_n, seq_n, rng_get, seq_list, seq_tuple, seq_getT, seq_getL, seq_getS, rng_fin, start_eq, iL_len, iL_snoc, iL_nil, view0, view0S, cell0, set0, pool, L2.atI, L2.ixN, h1, h2, hp, hc, hc2, hb, h3, h4, hm, hm2, e1]
        first | exact ⟨_, _, by omega, (e1 _).1, (e1 _).2, rfl, rfl⟩ | exact ⟨_, _, by omega, (e1 _).1, (e1 _).2, _, rfl, rfl, rfl⟩ | exact ⟨_, _, _, by omega, (e1 _).1, (e1 _).2, rfl, rfl, rfl⟩ | trace_state
    · simp (decide := true) [d23, ev_var, ev_glob, ev_int, ev_bl, ev_non, ev_str, ev_bin, ev_neg, ev_not, ev_and, ev_or, ev_cmp, ev_chain, ev_ite, ev_ix, ev_slo, ev_shi, ev_rev, ev_tup, ev_lst, ev_b1, ev_b2, ev_isi, ev_call, ev_lcnt, ev_lidx, ev_dget, ev_dix, ev_din, ev_dkeys, evs_nil, evs_cons, evi_rng1, evi_rng2, evi_rng3, evi_seq, evi_zip, ex_asg, ex_thaw, ex_par, ex_aug, ex_seti, ex_augi, ex_if_, ex_ret, ex_app, ex_ext, ex_pop, ex_dnew, ex_dset, ex_dupd, ex_expr, ex_parG, ex_pass, exs_nil, exs_cons, ex_for_, ex_whl, ev_comp, binI_add, binI_sub, binI_mulL, binI_mulR, binI_div, binI_mod, bin_int, cmp_int, cmpI_eq, cmpI_ne, cmpI_lt, cmpI_le, cmpI_gt, cmpI_ge, view_d, viewS_d, viewS_scr, b1_len_list, b1_len_tuple, b1_int_int, b1_tuple_list, b1_list_list, b1_list_tuple, ix_list, ix_tuple, asg_name, asg_tupT, asg_tupL, asg_tupK, viewS_kt, globR_tup, globR_str, slR_d, slR_scr, slR_kt, dict_dic, key_int, asgs_nil, asgs_cons, back_rt, back_nx, st_F, te_W, bd_W, st_C0, st_C1, wipe_nil, wipe_cons, sets_nil, sets_cons, pures_nil, pures_cons, rng_n, seq_n, rng_get, seq_list, seq_tuple, seq_getT, seq_getL, seq_getS, rng_fin, start_eq, iL_len, iL_snoc, iL_nil, view0, view0S, cell0, set0, pool, L2.atI, L2.ixN, h1, h2, hp, hm, hm2, e1]
      first | exact ⟨_, _, by omega, (e1 _).1, (e1 _).2, rfl, rfl⟩ | exact ⟨_, _, by omega, (e1 _).1, (e1 _).2, _, rfl, rfl, rfl⟩ | exact ⟨_, _, _, by omega, (e1 _).1, (e1 _).2, rfl, rfl, rfl⟩ | trace_state
  · simp (decide := true) [d23, ev_var, ev_glob, ev_int, ev_bl, ev_non, ev_str, ev_bin, ev_neg, ev_not, ev_and, ev_or, ev_cmp, ev_chain, ev_ite, ev_ix, ev_slo, ev_shi, ev_rev, ev_tup, ev_lst, ev_b1, ev_b2, ev_isi, ev_call, ev_lcnt, ev_lidx, ev_dget, ev_dix, ev_din, ev_dkeys, evs_nil, evs_cons, evi_rng1, evi_rng2, evi_rng3, evi_seq, evi_zip, ex_asg, ex_thaw, ex_par, ex_aug, ex_seti, ex_augi, ex_if_, ex_ret, ex_app, ex_ext, ex_pop, ex_dnew, ex_dset, ex_dupd, ex_expr, ex_parG, ex_pass, exs_nil, exs_cons, ex_for_, ex_whl, ev_comp, binI_add, binI_sub, binI_mulL, binI_mulR, binI_div, binI_mod, bin_int, cmp_int, cmpI_eq, cmpI_ne, cmpI_lt, cmpI_le, cmpI_gt, cmpI_ge, view_d, viewS_d, viewS_scr, b1_len_list, b1_len_tuple, b1_int_int, b1_tuple_list, b1_list_list, b1_list_tuple, ix_list, ix_tuple, asg_name, asg_tupT, asg_tupL, asg_tupK, viewS_kt, globR_tup, globR_str, slR_d, slR_scr, slR_kt, dict_dic, key_int, asgs_nil, asgs_cons, back_rt, back_nx, st_F, te_W, bd_W, st_C0, st_C1, wipe_nil, wipe_cons, sets_nil, sets_cons, pures_nil, pures_cons, rng_n, seq_n, rng_get, seq_list, seq_tuple, seq_getT, seq_getL, seq_getS, rng_fin, start_eq, iL_len, iL_snoc, iL_nil, view0, view0S, cell0, set0, pool, L2.atI, L2.ixN, h1, hp, hm, hm2, e1]
    first | exact ⟨_, _, by omega, (e1 _).1, (e1 _).2, rfl, rfl⟩ | exact ⟨_, _, by omega, (e1 _).1, (e1 _).2, _, rfl, rfl, rfl⟩ | exact ⟨_, _, _, by omega, (e1 _).1, (e1 _).2, rfl, rfl, rfl⟩ | trace_state
theorem hDraw (k : Nat) : HDraw (C (k+2)) := fun P X many hP hm hm2 => by
  obtain ⟨cells, pos, cur, cnt, salt, hp, rfl⟩ := hP
  obtain ⟨v, pos', cur', cnt', h1, h2, h3, h4⟩ := draw_ok (hSpread k) cells pos cur cnt salt many X hp hm hm2
  refine ⟨v, pool cells pos' cur' cnt' salt, ⟨_, _, _, _, _, h1, rfl⟩, h2, h3, ?_⟩
  rw [c23]
  exact h4
def HPool (Cl : Call) : Prop := ∀ (ns : List Int) (S : Store), ns.length ≤ 63 → ∃ P, PoolAt P ∧ Cl 21 [.scr ns] S = some (.d (.list P), S)
theorem pool_ok {Cl : Call} (ns : List Int) (S : Store) (hl : ns.length ≤ 63) : ∃ P, PoolAt P ∧ backN S.length Cl (d21.fin.getD .non) (exSs Cl 1000000 d21.body (start d21.names.length [.scr ns]) S) = some (.d (.list P), S) := by
  obtain ⟨l, hcut⟩ : ∃ l, cut (ns.map PySem.PyData.int) none (some 63) = iL l := ⟨(ns.drop _).take _, by unfold cut iL; rw [← List.map_drop, ← List.map_take]⟩
  obtain ⟨ρ', s', h1, y, z, rfl, rfl⟩ := forN_inv (.seq (.d (lI l)) l.length) (stepF Cl 1000000 (.name 2) (.cons (.asg (.name 1) (.bin .mod (.b1 .int (.bin .add (.bin .mul (.var 1) (.int 31)) (.var 2))) (.int 1000003))) .nil)) (iL l) (by rw [iL_len]; rfl)
    (fun i ρ s => ∃ y z, ρ = [some (.scr ns), some (.d (.int y)), z] ∧ s = S) (ρ := [some (.scr ns), some (.d (.int 7)), none]) (s := S) ⟨7, none, rfl, rfl⟩ (fun _ _ _ _ _ => rfl) (fun _ _ _ => seq_fin rfl rfl (Nat.le_of_eq (iL_len l)))
    (by
      rintro i x ρ s hx ⟨y, z, rfl, rfl⟩
      obtain ⟨c, hc⟩ : ∃ c, x = .int c := by
        rw [iL_get] at hx
        cases h : l[i]? with
        | none => rw [h] at hx; cases hx
        | some c => rw [h] at hx; exact ⟨c, (Option.some.inj hx).symm⟩
      subst hc
      refine ⟨[some (.scr ns), some (.d (.int ((y * 31 + c) % 1000003))), some (.d (.int c))], s, ?_, _, _, rfl, rfl⟩
      simp (decide := true) [ev_var, ev_glob, ev_int, ev_bl, ev_non, ev_str, ev_bin, ev_neg, ev_not, ev_and, ev_or, ev_cmp, ev_chain, ev_ite, ev_ix, ev_slo, ev_shi, ev_rev, ev_tup, ev_lst, ev_b1, ev_b2, ev_isi, ev_call, ev_lcnt, ev_lidx, ev_dget, ev_dix, ev_din, ev_dkeys, evs_nil, evs_cons, evi_rng1, evi_rng2, evi_rng3, evi_seq, evi_zip, ex_asg, ex_thaw, ex_par, ex_aug, ex_seti, ex_augi, ex_if_, ex_ret, ex_app, ex_ext, ex_pop, ex_dnew, ex_dset, ex_dupd, ex_expr, ex_parG, ex_pass, exs_nil, exs_cons, ex_for_, ex_whl, ev_comp, binI_add, binI_sub, binI_mulL, binI_mulR, binI_div, binI_mod, bin_int, cmp_int, cmpI_eq, cmpI_ne, cmpI_lt, cmpI_le, cmpI_gt, cmpI_ge, view_d, viewS_d, viewS_scr, b1_len_list, b1_len_tuple, b1_int_int, b1_tuple_list, b1_list_list, b1_list_tuple, ix_list, ix_tuple, asg_name, asg_tupT, asg_tupL, asg_tupK, viewS_kt, globR_tup, globR_str, slR_d, slR_scr, slR_kt, dict_dic, key_int, asgs_nil, asgs_cons, back_rt, back_nx, st_F, te_W, bd_W, st_C0, st_C1, wipe_nil, wipe_cons, sets_nil, sets_cons, pures_nil, pures_cons, rng_n, seq_n, rng_get, seq_list, seq_tuple, seq_getT, seq_getL, seq_getS, rng_fin, start_eq, iL_len, iL_snoc, iL_nil])
  refine ⟨pool ns 0 0 0 y, ⟨_, _, _, _, _, Int.le_refl _, rfl⟩, ?_⟩
  have e1 : exSs Cl 1000000 d21.body (start d21.names.length [.scr ns]) s' = some (.nx [some (.scr ns), some (.d (.int y)), z] s') := by
    refine (nx_of (asg_of (r := .d (.int 7)) (s1 := s') (ρ' := [some (.scr ns), some (.d (.int 7)), none]) ?_ rfl)).trans ((nx_of (for_of (J := .seq (.d (lI l)) l.length) (s1 := s') ?_ h1)).trans (exs_nil _ _ _ _))
    · simp [ev_var, ev_glob, ev_int, ev_bl, ev_non, ev_str, ev_bin, ev_neg, ev_not, ev_and, ev_or, ev_cmp, ev_chain, ev_ite, ev_ix, ev_slo, ev_shi, ev_rev, ev_tup, ev_lst, ev_b1, ev_b2, ev_isi, ev_call, ev_lcnt, ev_lidx, ev_dget, ev_dix, ev_din, ev_dkeys, evs_nil, evs_cons, evi_rng1, evi_rng2, evi_rng3, evi_seq, evi_zip, ex_asg, ex_thaw, ex_par, ex_aug, ex_seti, ex_augi, ex_if_, ex_ret, ex_app, ex_ext, ex_pop, ex_dnew, ex_dset, ex_dupd, ex_expr, ex_parG, ex_pass, exs_nil, exs_cons, ex_for_, ex_whl, ev_comp, binI_add, binI_sub, binI_mulL, binI_mulR, binI_div, binI_mod, bin_int, cmp_int, cmpI_eq, cmpI_ne, cmpI_lt, cmpI_le, cmpI_gt, cmpI_ge, view_d, viewS_d, viewS_scr, b1_len_list, b1_len_tuple, b1_int_int, b1_tuple_list, b1_list_list, b1_list_tuple, ix_list, ix_tuple, asg_name, asg_tupT, asg_tupL, asg_tupK, viewS_kt, globR_tup, globR_str, slR_d, slR_scr, slR_kt, dict_dic, key_int, asgs_nil, asgs_cons, back_rt, back_nx, st_F, te_W, bd_W, st_C0, st_C1, wipe_nil, wipe_cons, sets_nil, sets_cons, pures_nil, pures_cons, rng_n, seq_n, rng_get, seq_list, seq_tuple, seq_getT, seq_getL, seq_getS, rng_fin, start_eq, iL_len, iL_snoc, iL_nil]
    · simp [ev_var, ev_glob, ev_int, ev_bl, ev_non, ev_str, ev_bin, ev_neg, ev_not, ev_and, ev_or, ev_cmp, ev_chain, ev_ite, ev_ix, ev_slo, ev_shi, ev_rev, ev_tup, ev_lst, ev_b1, ev_b2, ev_isi, ev_call, ev_lcnt, ev_lidx, ev_dget, ev_dix, ev_din, ev_dkeys, evs_nil, evs_cons, evi_rng1, evi_rng2, evi_rng3, evi_seq, evi_zip, ex_asg, ex_thaw, ex_par, ex_aug, ex_seti, ex_augi, ex_if_, ex_ret, ex_app, ex_ext, ex_pop, ex_dnew, ex_dset, ex_dupd, ex_expr, ex_parG, ex_pass, exs_nil, exs_cons, ex_for_, ex_whl, ev_comp, binI_add, binI_sub, binI_mulL, binI_mulR, binI_div, binI_mod, bin_int, cmp_int, cmpI_eq, cmpI_ne, cmpI_lt, cmpI_le, cmpI_gt, cmpI_ge, view_d, viewS_d, viewS_scr, b1_len_list, b1_len_tuple, b1_int_int, b1_tuple_list, b1_list_list, b1_list_tuple, ix_list, ix_tuple, asg_name, asg_tupT, asg_tupL, asg_tupK, viewS_kt, globR_tup, globR_str, slR_d, slR_scr, slR_kt, dict_dic, key_int, asgs_nil, asgs_cons, back_rt, back_nx, st_F, te_W, bd_W, st_C0, st_C1, wipe_nil, wipe_cons, sets_nil, sets_cons, pures_nil, pures_cons, rng_n, seq_n, rng_get, seq_list, seq_tuple, seq_getT, seq_getL, seq_getS, rng_fin, start_eq, iL_len, iL_snoc, iL_nil, slD, hcut]
  have h5 : szOk 5 = true := rfl
  rw [e1]
  simp [backN, d21, ev_var, ev_glob, ev_int, ev_bl, ev_non, ev_str, ev_bin, ev_neg, ev_not, ev_and, ev_or, ev_cmp, ev_chain, ev_ite, ev_ix, ev_slo, ev_shi, ev_rev, ev_tup, ev_lst, ev_b1, ev_b2, ev_isi, ev_call, ev_lcnt, ev_lidx, ev_dget, ev_dix, ev_din, ev_dkeys, evs_nil, evs_cons, evi_rng1, evi_rng2, evi_rng3, evi_seq, evi_zip, ex_asg, ex_thaw, ex_par, ex_aug, ex_seti, ex_augi, ex_if_, ex_ret, ex_app, ex_ext, ex_pop, ex_dnew, ex_dset, ex_dupd, ex_expr, ex_parG, ex_pass, exs_nil, exs_cons, ex_for_, ex_whl, ev_comp, binI_add, binI_sub, binI_mulL, binI_mulR, binI_div, binI_mod, bin_int, cmp_int, cmpI_eq, cmpI_ne, cmpI_lt, cmpI_le, cmpI_gt, cmpI_ge, view_d, viewS_d, viewS_scr, b1_len_list, b1_len_tuple, b1_int_int, b1_tuple_list, b1_list_list, b1_list_tuple, ix_list, ix_tuple, asg_name, asg_tupT, asg_tupL, asg_tupK, viewS_kt, globR_tup, globR_str, slR_d, slR_scr, slR_kt, dict_dic, key_int, asgs_nil, asgs_cons, back_rt, back_nx, st_F, te_W, bd_W, st_C0, st_C1, wipe_nil, wipe_cons, sets_nil, sets_cons, pures_nil, pures_cons, rng_n, seq_n, rng_get, seq_list, seq_tuple, seq_getT, seq_getL, seq_getS, rng_fin, start_eq, iL_len, iL_snoc, iL_nil, h5, pool]
theorem hPool (k : Nat) : HPool (C (k+1)) := fun ns S hl => by
  obtain ⟨P, h1, h2⟩ := pool_ok (Cl := C k) ns S hl
  refine ⟨P, h1, ?_⟩
  rw [c21]
  exact h2
/-! ### the prime -/
theorem pick_ok {Cl : Call} (hD : HDraw Cl) (P : List D) (X : Store) (l : List Int) (hP : PoolAt P) (hl : l ≠ []) (hl2 : l.length < 1000) : ∃ x P', PoolAt P' ∧ x ∈ l ∧
    back (.lst P :: X : Store).length (exSs Cl 1000000 d24.body (start d24.names.length [.loc 0, .d (lI l)]) (.lst P :: X)) = some (.d (.int x), .lst P' :: X) := by
  have hl0 : 0 < l.length := List.length_pos_iff.mpr hl
  obtain ⟨v, P', h1, h2, h3, h4⟩ := hD P X l.length hP (by omega) (by omega)
  have hv : v.toNat < l.length := by omega
  refine ⟨l[v.toNat], P', h1, List.getElem_mem hv, ?_⟩
  have e1 := (call2 (C := Cl) (f := 23) (a := .var 0) (b := .b1 .len (.var 1)) (ρ := [some (.loc 0), some (.d (lI l))]) (s := .lst P :: X) (s1 := .lst P :: X) (s2 := .lst P :: X) (va := .loc 0) (vb := .d (.int l.length)) (by simp [ev_var]) (by simp [ev_var, ev_glob, ev_int, ev_bl, ev_non, ev_str, ev_bin, ev_neg, ev_not, ev_and, ev_or, ev_cmp, ev_chain, ev_ite, ev_ix, ev_slo, ev_shi, ev_rev, ev_tup, ev_lst, ev_b1, ev_b2, ev_isi, ev_call, ev_lcnt, ev_lidx, ev_dget, ev_dix, ev_din, ev_dkeys, evs_nil, evs_cons, evi_rng1, evi_rng2, evi_rng3, evi_seq, evi_zip, ex_asg, ex_thaw, ex_par, ex_aug, ex_seti, ex_augi, ex_if_, ex_ret, ex_app, ex_ext, ex_pop, ex_dnew, ex_dset, ex_dupd, ex_expr, ex_parG, ex_pass, exs_nil, exs_cons, ex_for_, ex_whl, ev_comp, binI_add, binI_sub, binI_mulL, binI_mulR, binI_div, binI_mod, bin_int, cmp_int, cmpI_eq, cmpI_ne, cmpI_lt, cmpI_le, cmpI_gt, cmpI_ge, view_d, viewS_d, viewS_scr, b1_len_list, b1_len_tuple, b1_int_int, b1_tuple_list, b1_list_list, b1_list_tuple, ix_list, ix_tuple, asg_name, asg_tupT, asg_tupL, asg_tupK, viewS_kt, globR_tup, globR_str, slR_d, slR_scr, slR_kt, dict_dic, key_int, asgs_nil, asgs_cons, back_rt, back_nx, st_F, te_W, bd_W, st_C0, st_C1, wipe_nil, wipe_cons, sets_nil, sets_cons, pures_nil, pures_cons, rng_n, seq_n, rng_get, seq_list, seq_tuple, seq_getT, seq_getL, seq_getS, rng_fin, start_eq, iL_len, iL_snoc, iL_nil])).trans h4
  have e2 : L2.atI (iL l) v = some (.int l[v.toNat]) := by
    have e : v = (v.toNat : Nat) := by omega
    have := atI_nat (xs := iL l) (i := v.toNat) (x := .int l[v.toNat]) (by rw [iL_get, List.getElem?_eq_getElem hv]; rfl)
    rwa [← e] at this
  refine (back_of (rt_of (ret_of (ix_of (a := .var 1) (ra := .d (lI l)) (s1 := .lst P :: X) (s2 := .lst P' :: X) (by simp [ev_var]) e1 rfl rfl e2)))).trans ?_
  simp
def HPick (Cl : Call) : Prop := ∀ (P : List D) (X : Store) (l : List Int), PoolAt P → l ≠ [] → l.length < 1000 → ∃ x P', PoolAt P' ∧ x ∈ l ∧ Cl 24 [.loc 0, .d (lI l)] (.lst P :: X) = some (.d (.int x), .lst P' :: X)
theorem hPick (k : Nat) : HPick (C (k+3)) := fun P X l hP hl hl2 => by
  obtain ⟨x, P', h1, h2, h3⟩ := pick_ok (hDraw k) P X l hP hl hl2
  refine ⟨x, P', h1, h2, ?_⟩
  rw [c24]
  exact h3
def HPrime (Cl : Call) : Prop := ∀ (P : List D) (X : Store) (most : Int), PoolAt P → 5 ≤ most → ∃ p P', PoolAt P' ∧ p ∈ primes ∧ p ≤ most ∧ Cl 26 [.loc 0, .d (.int most)] (.lst P :: X) = some (.d (.int p), .lst P' :: X)
theorem prime_ok {Cl : Call} (hK : HPick Cl) (P : List D) (X : Store) (most : Int) (hP : PoolAt P) (hm : 5 ≤ most) : ∃ p P', PoolAt P' ∧ p ∈ primes ∧ p ≤ most ∧
    back (.lst P :: X : Store).length (exSs Cl 1000000 d26.body (start d26.names.length [.loc 0, .d (.int most)]) (.lst P :: X)) = some (.d (.int p), .lst P' :: X) := by
  obtain ⟨p, P', h1, h2, h3⟩ := hK P X (primes.filter (fun x => decide (x ≤ most))) hP (fun e => by
    have h5 : (5 : Int) ∈ primes.filter (fun x => decide (x ≤ most)) := List.mem_filter.mpr ⟨by decide, decide_eq_true hm⟩
    rw [e] at h5
    cases h5) (Nat.lt_of_le_of_lt (List.length_filter_le _ _) (by decide))
  obtain ⟨h2, h2'⟩ := List.mem_filter.mp h2
  refine ⟨p, P', h1, h2, of_decide_eq_true h2', ?_⟩
  have h16 : szOk 16 = true := rfl
  have e0 : primes.filterMap (fun x => if x ≤ most then some (PySem.PyData.int x) else none) = iL (primes.filter (fun x => decide (x ≤ most))) := by
    generalize primes = l
    induction l with
    | nil => rfl
    | cons a l ih =>
      rw [List.filterMap_cons, List.filter_cons]
      by_cases h : a ≤ most
      · simp only [h, if_true, decide_true, iL_cons, ih]
      · simp only [h, if_false, decide_false, ih]
        rfl
  have e1 := ev_compF (C := Cl) (g := .name 2) (vs := [2]) (it := (.seq (.tup (.cons (.int 5) (.cons (.int 7) (.cons (.int 11) (.cons (.int 13) (.cons (.int 17) (.cons (.int 19) (.cons (.int 23) (.cons (.int 29) (.cons (.int 31) (.cons (.int 37) (.cons (.int 41) (.cons (.int 43) (.cons (.int 47) (.cons (.int 53) (.cons (.int 59) (.cons (.int 61) .nil))))))))))))))))))) (hc := true) (c := .cmp .le (.var 2) (.var 1)) (e := .var 2) (ρ := [some (.loc 0), some (.d (.int most)), none]) (s := .lst P :: X) (s1 := .lst P :: X) (J := .seq (.d (tI primes)) 16) primes (fun x => if x ≤ most then some (PySem.PyData.int x) else none) (by simp [ev_var, ev_glob, ev_int, ev_bl, ev_non, ev_str, ev_bin, ev_neg, ev_not, ev_and, ev_or, ev_cmp, ev_chain, ev_ite, ev_ix, ev_slo, ev_shi, ev_rev, ev_tup, ev_lst, ev_b1, ev_b2, ev_isi, ev_call, ev_lcnt, ev_lidx, ev_dget, ev_dix, ev_din, ev_dkeys, evs_nil, evs_cons, evi_rng1, evi_rng2, evi_rng3, evi_seq, evi_zip, ex_asg, ex_thaw, ex_par, ex_aug, ex_seti, ex_augi, ex_if_, ex_ret, ex_app, ex_ext, ex_pop, ex_dnew, ex_dset, ex_dupd, ex_expr, ex_parG, ex_pass, exs_nil, exs_cons, ex_for_, ex_whl, ev_comp, binI_add, binI_sub, binI_mulL, binI_mulR, binI_div, binI_mod, bin_int, cmp_int, cmpI_eq, cmpI_ne, cmpI_lt, cmpI_le, cmpI_gt, cmpI_ge, view_d, viewS_d, viewS_scr, b1_len_list, b1_len_tuple, b1_int_int, b1_tuple_list, b1_list_list, b1_list_tuple, ix_list, ix_tuple, asg_name, asg_tupT, asg_tupL, asg_tupK, viewS_kt, globR_tup, globR_str, slR_d, slR_scr, slR_kt, dict_dic, key_int, asgs_nil, asgs_cons, back_rt, back_nx, st_F, te_W, bd_W, st_C0, st_C1, wipe_nil, wipe_cons, sets_nil, sets_cons, pures_nil, pures_cons, rng_n, seq_n, rng_get, seq_list, seq_tuple, seq_getT, seq_getL, seq_getS, rng_fin, start_eq, iL_len, iL_snoc, iL_nil, h16]; rfl) rfl (by decide) (fun i acc hi => rfl) (fun acc => rfl) (fun x hx acc => by
    by_cases h : x ≤ most
    · simp [ev_var, ev_glob, ev_int, ev_bl, ev_non, ev_str, ev_bin, ev_neg, ev_not, ev_and, ev_or, ev_cmp, ev_chain, ev_ite, ev_ix, ev_slo, ev_shi, ev_rev, ev_tup, ev_lst, ev_b1, ev_b2, ev_isi, ev_call, ev_lcnt, ev_lidx, ev_dget, ev_dix, ev_din, ev_dkeys, evs_nil, evs_cons, evi_rng1, evi_rng2, evi_rng3, evi_seq, evi_zip, ex_asg, ex_thaw, ex_par, ex_aug, ex_seti, ex_augi, ex_if_, ex_ret, ex_app, ex_ext, ex_pop, ex_dnew, ex_dset, ex_dupd, ex_expr, ex_parG, ex_pass, exs_nil, exs_cons, ex_for_, ex_whl, ev_comp, binI_add, binI_sub, binI_mulL, binI_mulR, binI_div, binI_mod, bin_int, cmp_int, cmpI_eq, cmpI_ne, cmpI_lt, cmpI_le, cmpI_gt, cmpI_ge, view_d, viewS_d, viewS_scr, b1_len_list, b1_len_tuple, b1_int_int, b1_tuple_list, b1_list_list, b1_list_tuple, ix_list, ix_tuple, asg_name, asg_tupT, asg_tupL, asg_tupK, viewS_kt, globR_tup, globR_str, slR_d, slR_scr, slR_kt, dict_dic, key_int, asgs_nil, asgs_cons, back_rt, back_nx, st_F, te_W, bd_W, st_C0, st_C1, wipe_nil, wipe_cons, sets_nil, sets_cons, pures_nil, pures_cons, rng_n, seq_n, rng_get, seq_list, seq_tuple, seq_getT, seq_getL, seq_getS, rng_fin, start_eq, iL_len, iL_snoc, iL_nil, h]
    · simp [ev_var, ev_glob, ev_int, ev_bl, ev_non, ev_str, ev_bin, ev_neg, ev_not, ev_and, ev_or, ev_cmp, ev_chain, ev_ite, ev_ix, ev_slo, ev_shi, ev_rev, ev_tup, ev_lst, ev_b1, ev_b2, ev_isi, ev_call, ev_lcnt, ev_lidx, ev_dget, ev_dix, ev_din, ev_dkeys, evs_nil, evs_cons, evi_rng1, evi_rng2, evi_rng3, evi_seq, evi_zip, ex_asg, ex_thaw, ex_par, ex_aug, ex_seti, ex_augi, ex_if_, ex_ret, ex_app, ex_ext, ex_pop, ex_dnew, ex_dset, ex_dupd, ex_expr, ex_parG, ex_pass, exs_nil, exs_cons, ex_for_, ex_whl, ev_comp, binI_add, binI_sub, binI_mulL, binI_mulR, binI_div, binI_mod, bin_int, cmp_int, cmpI_eq, cmpI_ne, cmpI_lt, cmpI_le, cmpI_gt, cmpI_ge, view_d, viewS_d, viewS_scr, b1_len_list, b1_len_tuple, b1_int_int, b1_tuple_list, b1_list_list, b1_list_tuple, ix_list, ix_tuple, asg_name, asg_tupT, asg_tupL, asg_tupK, viewS_kt, globR_tup, globR_str, slR_d, slR_scr, slR_kt, dict_dic, key_int, asgs_nil, asgs_cons, back_rt, back_nx, st_F, te_W, bd_W, st_C0, st_C1, wipe_nil, wipe_cons, sets_nil, sets_cons, pures_nil, pures_cons, rng_n, seq_n, rng_get, seq_list, seq_tuple, seq_getT, seq_getL, seq_getS, rng_fin, start_eq, iL_len, iL_snoc, iL_nil, h])
  rw [e0] at e1
  have e2 := (call2 (C := Cl) (f := 24) (a := .var 0) (ρ := [some (.loc 0), some (.d (.int most)), none]) (s := .lst P :: X) (s1 := .lst P :: X) (va := .loc 0) (by simp [ev_var]) e1).trans h3
  refine (back_of (rt_of (ret_of e2))).trans ?_
  simp
theorem hPrime (k : Nat) : HPrime (C (k+4)) := fun P X most hP hm => by
  obtain ⟨p, P', h1, h2, h2', h3⟩ := prime_ok (hPick k) P X most hP hm
  refine ⟨p, P', h1, h2, h2', ?_⟩
  rw [c26]
  exact h3
end LAW
end
section
namespace LAW
open PC
/-! ### the same -/
def Shp : Nat → D → Prop
  | 0, d => ∃ i, d = .int i
  | n + 1, d => (∃ i, d = .int i) ∨ ∃ xs, (d = .tuple xs ∨ d = .list xs) ∧ xs.length < 1000 ∧ ∀ x ∈ xs, Shp n x
def HSame (Cl : Call) (n : Nat) : Prop := ∀ (d : D) (S : Store), Shp n d → Cl 20 [.d d, .d d] S = some (.d (.bool true), S)
theorem ne_bool (b : Bool) : cmpD .ne (.bool b) (.bool b) = some false := by cases b <;> rfl
theorem isn_int (i : Int) : cmpD .isn (.int i) .none = some false := rfl
theorem same_int {Cl : Call} (i : Int) (S : Store) : back S.length (exSs Cl 1000000 d20.body (start d20.names.length [.d (.int i), .d (.int i)]) S) = some (.d (.bool true), S) := by
  simp [d20, ev_var, ev_glob, ev_int, ev_bl, ev_non, ev_str, ev_bin, ev_neg, ev_not, ev_and, ev_or, ev_cmp, ev_chain, ev_ite, ev_ix, ev_slo, ev_shi, ev_rev, ev_tup, ev_lst, ev_b1, ev_b2, ev_isi, ev_call, ev_lcnt, ev_lidx, ev_dget, ev_dix, ev_din, ev_dkeys, evs_nil, evs_cons, evi_rng1, evi_rng2, evi_rng3, evi_seq, evi_zip, ex_asg, ex_thaw, ex_par, ex_aug, ex_seti, ex_augi, ex_if_, ex_ret, ex_app, ex_ext, ex_pop, ex_dnew, ex_dset, ex_dupd, ex_expr, ex_parG, ex_pass, exs_nil, exs_cons, ex_for_, ex_whl, ev_comp, binI_add, binI_sub, binI_mulL, binI_mulR, binI_div, binI_mod, bin_int, cmp_int, cmpI_eq, cmpI_ne, cmpI_lt, cmpI_le, cmpI_gt, cmpI_ge, view_d, viewS_d, viewS_scr, b1_len_list, b1_len_tuple, b1_int_int, b1_tuple_list, b1_list_list, b1_list_tuple, ix_list, ix_tuple, asg_name, asg_tupT, asg_tupL, asg_tupK, viewS_kt, globR_tup, globR_str, slR_d, slR_scr, slR_kt, dict_dic, key_int, asgs_nil, asgs_cons, back_rt, back_nx, st_F, te_W, bd_W, st_C0, st_C1, wipe_nil, wipe_cons, sets_nil, sets_cons, pures_nil, pures_cons, rng_n, seq_n, rng_get, seq_list, seq_tuple, seq_getT, seq_getL, seq_getS, rng_fin, start_eq, iL_len, iL_snoc, iL_nil, isD, isn_int]
theorem same_comp {Cl : Call} {n : Nat} (h : HSame Cl n) (d : D) (xs : List D) (hd : d = .tuple xs ∨ d = .list xs) (hz : xs.length < 1000) (hx : ∀ x ∈ xs, Shp n x) (S : Store) :
    evE Cl (.comp (.name 2) [2] (.rng1 (.b1 .len (.var 1))) true (.not (.call 20 (.cons (.ix (.var 0) (.var 2)) (.cons (.ix (.var 1) (.var 2)) .nil)))) (.var 2)) [some (.d d), some (.d d), none] S = some (.d (.list []), S) := by
  have hL := rngOk_nat (n := xs.length) (by omega)
  have e1 := ev_compF (C := Cl) (g := .name 2) (vs := [2]) (it := .rng1 (.b1 .len (.var 1))) (hc := true) (c := .not (.call 20 (.cons (.ix (.var 0) (.var 2)) (.cons (.ix (.var 1) (.var 2)) .nil)))) (e := .var 2) (ρ := [some (.d d), some (.d d), none]) (s := S) (s1 := S) (J := .rng 0 1 xs.length) (rg xs.length) (fun _ => none) (by
      rcases hd with rfl | rfl
      · simp [ev_var, ev_glob, ev_int, ev_bl, ev_non, ev_str, ev_bin, ev_neg, ev_not, ev_and, ev_or, ev_cmp, ev_chain, ev_ite, ev_ix, ev_slo, ev_shi, ev_rev, ev_tup, ev_lst, ev_b1, ev_b2, ev_isi, ev_call, ev_lcnt, ev_lidx, ev_dget, ev_dix, ev_din, ev_dkeys, evs_nil, evs_cons, evi_rng1, evi_rng2, evi_rng3, evi_seq, evi_zip, ex_asg, ex_thaw, ex_par, ex_aug, ex_seti, ex_augi, ex_if_, ex_ret, ex_app, ex_ext, ex_pop, ex_dnew, ex_dset, ex_dupd, ex_expr, ex_parG, ex_pass, exs_nil, exs_cons, ex_for_, ex_whl, ev_comp, binI_add, binI_sub, binI_mulL, binI_mulR, binI_div, binI_mod, bin_int, cmp_int, cmpI_eq, cmpI_ne, cmpI_lt, cmpI_le, cmpI_gt, cmpI_ge, view_d, viewS_d, viewS_scr, b1_len_list, b1_len_tuple, b1_int_int, b1_tuple_list, b1_list_list, b1_list_tuple, ix_list, ix_tuple, asg_name, asg_tupT, asg_tupL, asg_tupK, viewS_kt, globR_tup, globR_str, slR_d, slR_scr, slR_kt, dict_dic, key_int, asgs_nil, asgs_cons, back_rt, back_nx, st_F, te_W, bd_W, st_C0, st_C1, wipe_nil, wipe_cons, sets_nil, sets_cons, pures_nil, pures_cons, rng_n, seq_n, rng_get, seq_list, seq_tuple, seq_getT, seq_getL, seq_getS, rng_fin, start_eq, iL_len, iL_snoc, iL_nil, hL]
      · simp [ev_var, ev_glob, ev_int, ev_bl, ev_non, ev_str, ev_bin, ev_neg, ev_not, ev_and, ev_or, ev_cmp, ev_chain, ev_ite, ev_ix, ev_slo, ev_shi, ev_rev, ev_tup, ev_lst, ev_b1, ev_b2, ev_isi, ev_call, ev_lcnt, ev_lidx, ev_dget, ev_dix, ev_din, ev_dkeys, evs_nil, evs_cons, evi_rng1, evi_rng2, evi_rng3, evi_seq, evi_zip, ex_asg, ex_thaw, ex_par, ex_aug, ex_seti, ex_augi, ex_if_, ex_ret, ex_app, ex_ext, ex_pop, ex_dnew, ex_dset, ex_dupd, ex_expr, ex_parG, ex_pass, exs_nil, exs_cons, ex_for_, ex_whl, ev_comp, binI_add, binI_sub, binI_mulL, binI_mulR, binI_div, binI_mod, bin_int, cmp_int, cmpI_eq, cmpI_ne, cmpI_lt, cmpI_le, cmpI_gt, cmpI_ge, view_d, viewS_d, viewS_scr, b1_len_list, b1_len_tuple, b1_int_int, b1_tuple_list, b1_list_list, b1_list_tuple, ix_list, ix_tuple, asg_name, asg_tupT, asg_tupL, asg_tupK, viewS_kt, globR_tup, globR_str, slR_d, slR_scr, slR_kt, dict_dic, key_int, asgs_nil, asgs_cons, back_rt, back_nx, st_F, te_W, bd_W, st_C0, st_C1, wipe_nil, wipe_cons, sets_nil, sets_cons, pures_nil, pures_cons, rng_n, seq_n, rng_get, seq_list, seq_tuple, seq_getT, seq_getL, seq_getS, rng_fin, start_eq, iL_len, iL_snoc, iL_nil, hL]) (rg_len _).symm (by rw [rg_len]; omega) (fun i acc hi => rg_get _ _ _ (by rwa [rg_len] at hi)) (fun acc => rfl) (fun y hy acc => by
      obtain ⟨i, hi, rfl⟩ := rg_mem hy
      have e2 : L2.atI xs (i : Int) = some xs[i] := atI_nat (List.getElem?_eq_getElem hi)
      have e3 := h xs[i] (S ++ [.lst acc]) (hx _ (List.getElem_mem hi))
      have e4 : ixD d (.int (i : Int)) = some xs[i] := by rcases hd with rfl | rfl <;> exact e2
      have e5 := (call2 (C := Cl) (f := 20) (a := .ix (.var 0) (.var 2)) (b := .ix (.var 1) (.var 2)) (ρ := [some (.d d), some (.d d), some (.d (.int (i : Int)))]) (s := S ++ [.lst acc]) (s1 := S ++ [.lst acc]) (s2 := S ++ [.lst acc]) (va := .d xs[i]) (vb := .d xs[i]) (by simp [ev_var, ev_glob, ev_int, ev_bl, ev_non, ev_str, ev_bin, ev_neg, ev_not, ev_and, ev_or, ev_cmp, ev_chain, ev_ite, ev_ix, ev_slo, ev_shi, ev_rev, ev_tup, ev_lst, ev_b1, ev_b2, ev_isi, ev_call, ev_lcnt, ev_lidx, ev_dget, ev_dix, ev_din, ev_dkeys, evs_nil, evs_cons, evi_rng1, evi_rng2, evi_rng3, evi_seq, evi_zip, ex_asg, ex_thaw, ex_par, ex_aug, ex_seti, ex_augi, ex_if_, ex_ret, ex_app, ex_ext, ex_pop, ex_dnew, ex_dset, ex_dupd, ex_expr, ex_parG, ex_pass, exs_nil, exs_cons, ex_for_, ex_whl, ev_comp, binI_add, binI_sub, binI_mulL, binI_mulR, binI_div, binI_mod, bin_int, cmp_int, cmpI_eq, cmpI_ne, cmpI_lt, cmpI_le, cmpI_gt, cmpI_ge, view_d, viewS_d, viewS_scr, b1_len_list, b1_len_tuple, b1_int_int, b1_tuple_list, b1_list_list, b1_list_tuple, ix_list, ix_tuple, asg_name, asg_tupT, asg_tupL, asg_tupK, viewS_kt, globR_tup, globR_str, slR_d, slR_scr, slR_kt, dict_dic, key_int, asgs_nil, asgs_cons, back_rt, back_nx, st_F, te_W, bd_W, st_C0, st_C1, wipe_nil, wipe_cons, sets_nil, sets_cons, pures_nil, pures_cons, rng_n, seq_n, rng_get, seq_list, seq_tuple, seq_getT, seq_getL, seq_getS, rng_fin, start_eq, iL_len, iL_snoc, iL_nil, e4]) (by simp [ev_var, ev_glob, ev_int, ev_bl, ev_non, ev_str, ev_bin, ev_neg, ev_not, ev_and, ev_or, ev_cmp, ev_chain, ev_ite, ev_ix, ev_slo, ev_shi, ev_rev, ev_tup, ev_lst, ev_b1, ev_b2, ev_isi, ev_call, ev_lcnt, ev_lidx, ev_dget, ev_dix, ev_din, ev_dkeys, evs_nil, evs_cons, evi_rng1, evi_rng2, evi_rng3, evi_seq, evi_zip, ex_asg, ex_thaw, ex_par, ex_aug, ex_seti, ex_augi, ex_if_, ex_ret, ex_app, ex_ext, ex_pop, ex_dnew, ex_dset, ex_dupd, ex_expr, ex_parG, ex_pass, exs_nil, exs_cons, ex_for_, ex_whl, ev_comp, binI_add, binI_sub, binI_mulL, binI_mulR, binI_div, binI_mod, bin_int, cmp_int, cmpI_eq, cmpI_ne, cmpI_lt, cmpI_le, cmpI_gt, cmpI_ge, view_d, viewS_d, viewS_scr, b1_len_list, b1_len_tuple, b1_int_int, b1_tuple_list, b1_list_list, b1_list_tuple, ix_list, ix_tuple, asg_name, asg_tupT, asg_tupL, asg_tupK, viewS_kt, globR_tup, globR_str, slR_d, slR_scr, slR_kt, dict_dic, key_int, asgs_nil, asgs_cons, back_rt, back_nx, st_F, te_W, bd_W, st_C0, st_C1, wipe_nil, wipe_cons, sets_nil, sets_cons, pures_nil, pures_cons, rng_n, seq_n, rng_get, seq_list, seq_tuple, seq_getT, seq_getL, seq_getS, rng_fin, start_eq, iL_len, iL_snoc, iL_nil, e4])).trans e3
      have e6 : evE Cl (.not (.call 20 (.cons (.ix (.var 0) (.var 2)) (.cons (.ix (.var 1) (.var 2)) .nil)))) [some (.d d), some (.d d), some (.d (.int (i : Int)))] (S ++ [.lst acc]) = some (.d (.bool false), S ++ [.lst acc]) := by
        rw [ev_not, e5]
        rfl
      rw [st_C1, asg_name]
      simp only [wipe_cons, wipe_nil, List.set]
      rw [e6])
  rw [e1]
  simp
theorem same_seq {Cl : Call} {n : Nat} (h : HSame Cl n) (d : D) (xs : List D) (hd : d = .tuple xs ∨ d = .list xs) (hz : xs.length < 1000) (hx : ∀ x ∈ xs, Shp n x) (S : Store) :
    back S.length (exSs Cl 1000000 d20.body (start d20.names.length [.d d, .d d]) S) = some (.d (.bool true), S) := by
  have e1 := same_comp h d xs hd hz hx S
  have e2 : evE Cl (.cmp .eq (.b1 .len (.comp (.name 2) [2] (.rng1 (.b1 .len (.var 1))) true (.not (.call 20 (.cons (.ix (.var 0) (.var 2)) (.cons (.ix (.var 1) (.var 2)) .nil)))) (.var 2))) (.int 0)) [some (.d d), some (.d d), none] S = some (.d (.bool true), S) :=
    cmp_of (s1 := S) (ra := .d (.int 0)) (rb := .d (.int 0)) (b1_of e1 rfl rfl) (by simp [ev_var, ev_glob, ev_int, ev_bl, ev_non, ev_str, ev_bin, ev_neg, ev_not, ev_and, ev_or, ev_cmp, ev_chain, ev_ite, ev_ix, ev_slo, ev_shi, ev_rev, ev_tup, ev_lst, ev_b1, ev_b2, ev_isi, ev_call, ev_lcnt, ev_lidx, ev_dget, ev_dix, ev_din, ev_dkeys, evs_nil, evs_cons, evi_rng1, evi_rng2, evi_rng3, evi_seq, evi_zip, ex_asg, ex_thaw, ex_par, ex_aug, ex_seti, ex_augi, ex_if_, ex_ret, ex_app, ex_ext, ex_pop, ex_dnew, ex_dset, ex_dupd, ex_expr, ex_parG, ex_pass, exs_nil, exs_cons, ex_for_, ex_whl, ev_comp, binI_add, binI_sub, binI_mulL, binI_mulR, binI_div, binI_mod, bin_int, cmp_int, cmpI_eq, cmpI_ne, cmpI_lt, cmpI_le, cmpI_gt, cmpI_ge, view_d, viewS_d, viewS_scr, b1_len_list, b1_len_tuple, b1_int_int, b1_tuple_list, b1_list_list, b1_list_tuple, ix_list, ix_tuple, asg_name, asg_tupT, asg_tupL, asg_tupK, viewS_kt, globR_tup, globR_str, slR_d, slR_scr, slR_kt, dict_dic, key_int, asgs_nil, asgs_cons, back_rt, back_nx, st_F, te_W, bd_W, st_C0, st_C1, wipe_nil, wipe_cons, sets_nil, sets_cons, pures_nil, pures_cons, rng_n, seq_n, rng_get, seq_list, seq_tuple, seq_getT, seq_getL, seq_getS, rng_fin, start_eq, iL_len, iL_snoc, iL_nil]) rfl rfl rfl
  have e3 : evE Cl (.or (.isi (.var 1) .tuple) (.isi (.var 1) .list)) [some (.d d), some (.d d), none] S = some (.d (.bool true), S) := by
    rcases hd with rfl | rfl <;> simp [ev_var, ev_glob, ev_int, ev_bl, ev_non, ev_str, ev_bin, ev_neg, ev_not, ev_and, ev_or, ev_cmp, ev_chain, ev_ite, ev_ix, ev_slo, ev_shi, ev_rev, ev_tup, ev_lst, ev_b1, ev_b2, ev_isi, ev_call, ev_lcnt, ev_lidx, ev_dget, ev_dix, ev_din, ev_dkeys, evs_nil, evs_cons, evi_rng1, evi_rng2, evi_rng3, evi_seq, evi_zip, ex_asg, ex_thaw, ex_par, ex_aug, ex_seti, ex_augi, ex_if_, ex_ret, ex_app, ex_ext, ex_pop, ex_dnew, ex_dset, ex_dupd, ex_expr, ex_parG, ex_pass, exs_nil, exs_cons, ex_for_, ex_whl, ev_comp, binI_add, binI_sub, binI_mulL, binI_mulR, binI_div, binI_mod, bin_int, cmp_int, cmpI_eq, cmpI_ne, cmpI_lt, cmpI_le, cmpI_gt, cmpI_ge, view_d, viewS_d, viewS_scr, b1_len_list, b1_len_tuple, b1_int_int, b1_tuple_list, b1_list_list, b1_list_tuple, ix_list, ix_tuple, asg_name, asg_tupT, asg_tupL, asg_tupK, viewS_kt, globR_tup, globR_str, slR_d, slR_scr, slR_kt, dict_dic, key_int, asgs_nil, asgs_cons, back_rt, back_nx, st_F, te_W, bd_W, st_C0, st_C1, wipe_nil, wipe_cons, sets_nil, sets_cons, pures_nil, pures_cons, rng_n, seq_n, rng_get, seq_list, seq_tuple, seq_getT, seq_getL, seq_getS, rng_fin, start_eq, iL_len, iL_snoc, iL_nil, isD]
  have e4 : evE Cl (.or (.cmp .ne (.isi (.var 1) .tuple) (.isi (.var 0) .tuple)) (.or (.cmp .ne (.isi (.var 1) .list) (.isi (.var 0) .list)) (.cmp .ne (.b1 .len (.var 0)) (.b1 .len (.var 1))))) [some (.d d), some (.d d), none] S = some (.d (.bool false), S) := by
    rcases hd with rfl | rfl <;> simp [ev_var, ev_glob, ev_int, ev_bl, ev_non, ev_str, ev_bin, ev_neg, ev_not, ev_and, ev_or, ev_cmp, ev_chain, ev_ite, ev_ix, ev_slo, ev_shi, ev_rev, ev_tup, ev_lst, ev_b1, ev_b2, ev_isi, ev_call, ev_lcnt, ev_lidx, ev_dget, ev_dix, ev_din, ev_dkeys, evs_nil, evs_cons, evi_rng1, evi_rng2, evi_rng3, evi_seq, evi_zip, ex_asg, ex_thaw, ex_par, ex_aug, ex_seti, ex_augi, ex_if_, ex_ret, ex_app, ex_ext, ex_pop, ex_dnew, ex_dset, ex_dupd, ex_expr, ex_parG, ex_pass, exs_nil, exs_cons, ex_for_, ex_whl, ev_comp, binI_add, binI_sub, binI_mulL, binI_mulR, binI_div, binI_mod, bin_int, cmp_int, cmpI_eq, cmpI_ne, cmpI_lt, cmpI_le, cmpI_gt, cmpI_ge, view_d, viewS_d, viewS_scr, b1_len_list, b1_len_tuple, b1_int_int, b1_tuple_list, b1_list_list, b1_list_tuple, ix_list, ix_tuple, asg_name, asg_tupT, asg_tupL, asg_tupK, viewS_kt, globR_tup, globR_str, slR_d, slR_scr, slR_kt, dict_dic, key_int, asgs_nil, asgs_cons, back_rt, back_nx, st_F, te_W, bd_W, st_C0, st_C1, wipe_nil, wipe_cons, sets_nil, sets_cons, pures_nil, pures_cons, rng_n, seq_n, rng_get, seq_list, seq_tuple, seq_getT, seq_getL, seq_getS, rng_fin, start_eq, iL_len, iL_snoc, iL_nil, isD, ne_bool]
  refine (back_of (rt_of ((if_t e3).trans ((nx_of ((if_f e4).trans (exs_nil _ _ _ _))).trans (rt_of (ret_of e2)))))).trans ?_
  simp
theorem hSame0 (k : Nat) : HSame (C (k+1)) 0 := fun d S ⟨i, hi⟩ => by
  subst hi
  rw [c20]
  exact same_int (Cl := C k) i S
theorem hSameS (k n : Nat) (h : HSame (C (k+1)) n) : HSame (C (k+2)) (n+1) := fun d S hd => by
  rw [c20]
  rcases hd with ⟨i, rfl⟩ | ⟨xs, hd, hz, hx⟩
  · exact same_int (Cl := C (k+1)) i S
  · exact same_seq h d xs hd hz hx S
theorem shp_int (i : Int) : Shp 0 (.int i) := ⟨i, rfl⟩
theorem shp_tI (l : List Int) (h : l.length < 1000) : Shp 1 (tI l) := .inr ⟨iL l, .inl rfl, by rw [iL_len]; exact h, fun x hx => by
  obtain ⟨i, _, rfl⟩ := List.mem_map.mp (show x ∈ l.map PySem.PyData.int from hx)
  exact ⟨i, rfl⟩⟩
/-! ### a comprehension that draws -/
theorem ev_compD {Cl : Call} {g : G} {vs : List Nat} {it : It} {e : E} {ρ : Env} {P0 P : List D} {X : Store} {n : Nat} (Good : D → Prop) (hit : evIt Cl it ρ (.lst P0 :: X) = some (.rng 0 1 n, .lst P :: X)) (hP : PoolAt P) (hn : n < 1000000)
    (hstep : ∀ (i : Nat) (Q : List D) (acc : List D), i < n → PoolAt Q → ∃ y Q', PoolAt Q' ∧ Good y ∧ stepC Cl g vs false (.bl true) e ρ (.int (i : Nat)) (.lst Q :: X ++ [.lst acc]) = some (some y, .lst Q' :: X ++ [.lst acc])) :
    ∃ ys P', PoolAt P' ∧ ys.length = n ∧ (∀ y ∈ ys, Good y) ∧ evE Cl (.comp g vs it false (.bl true) e) ρ (.lst P0 :: X) = some (.d (.list ys), .lst P' :: X) := by
  have key : ∀ m i Q acc, i + m = n → PoolAt Q → acc.length ≤ i → (∀ y ∈ acc, Good y) → ∃ ys Q', PoolAt Q' ∧ ys.length = acc.length + m ∧ (∀ y ∈ ys, Good y) ∧
      compN (.rng 0 1 n) (.lst P :: X : Store).length (stepC Cl g vs false (.bl true) e ρ) m i (.lst Q :: X ++ [.lst acc]) = some (.lst Q' :: X ++ [.lst ys]) := by
    intro m
    induction m with
    | zero => intro i Q acc hi hQ _ hg; exact ⟨acc, Q, hQ, rfl, hg, rfl⟩
    | succ m ih =>
      intro i Q acc hi hQ ha hg
      obtain ⟨y, Q', k1, k2, k3⟩ := hstep i Q acc (by omega) hQ
      obtain ⟨ys, Q2, j1, j2, j3, j4⟩ := ih (i + 1) Q' (acc ++ [y]) (by omega) k1 (by simp; omega) (fun z hz => by
        rcases List.mem_append.mp hz with h | h
        · exact hg z h
        · rw [List.mem_singleton.mp h]; exact k2)
      refine ⟨ys, Q2, j1, by rw [j2]; simp; omega, j3, ?_⟩
      have hsz : szOk acc.length = true := Nat.ble_eq.mpr (by omega)
      have e0 : (Items.rng 0 1 n).get i (.lst Q :: X ++ [.lst acc]) = some (.int (i : Nat)) := by rw [rng_get]; simp
      unfold compN
      rw [e0]
      simp only []
      rw [k3]
      have hl : (.lst P :: X : Store).length = (.lst Q' :: X : Store).length := rfl
      simp only []
      rw [hl, at_last]
      simp only []
      rw [if_pos hsz, set_last]
      exact j4
  obtain ⟨ys, Q', h1, h2, h3, h4⟩ := key n 0 P [] (by omega) hP (Nat.le_refl _) (fun y hy => by cases hy)
  refine ⟨ys, Q', h1, by simpa using h2, h3, ?_⟩
  rw [ev_comp, hit]
  simp only [rng_n]
  rw [h4]
  have hl : (.lst P :: X : Store).length = (.lst Q' :: X : Store).length := rfl
  simp only []
  rw [hl, at_last]
  simp
end LAW
end
section
namespace LAW
open PC
/-! ### curves -/
def rsd (p a b x : Int) : Int := (x * x * x + a * x + b) % p
def HRight (Cl : Call) : Prop := ∀ (p a b x : Int) (S : Store), 0 < p → smI x = true → Cl 3 [.d (tI [p, a, b]), .d (.int x)] S = some (.d (.int (rsd p a b x)), S)
theorem hRight (k : Nat) : HRight (C (k+1)) := fun p a b x S hp hx => by
  rw [c3]
  simp [d3, ev_var, ev_glob, ev_int, ev_bl, ev_non, ev_str, ev_bin, ev_neg, ev_not, ev_and, ev_or, ev_cmp, ev_chain, ev_ite, ev_ix, ev_slo, ev_shi, ev_rev, ev_tup, ev_lst, ev_b1, ev_b2, ev_isi, ev_call, ev_lcnt, ev_lidx, ev_dget, ev_dix, ev_din, ev_dkeys, evs_nil, evs_cons, evi_rng1, evi_rng2, evi_rng3, evi_seq, evi_zip, ex_asg, ex_thaw, ex_par, ex_aug, ex_seti, ex_augi, ex_if_, ex_ret, ex_app, ex_ext, ex_pop, ex_dnew, ex_dset, ex_dupd, ex_expr, ex_parG, ex_pass, exs_nil, exs_cons, ex_for_, ex_whl, ev_comp, binI_add, binI_sub, binI_mulL, binI_mulR, binI_div, binI_mod, bin_int, cmp_int, cmpI_eq, cmpI_ne, cmpI_lt, cmpI_le, cmpI_gt, cmpI_ge, view_d, viewS_d, viewS_scr, b1_len_list, b1_len_tuple, b1_int_int, b1_tuple_list, b1_list_list, b1_list_tuple, ix_list, ix_tuple, asg_name, asg_tupT, asg_tupL, asg_tupK, viewS_kt, globR_tup, globR_str, slR_d, slR_scr, slR_kt, dict_dic, key_int, asgs_nil, asgs_cons, back_rt, back_nx, st_F, te_W, bd_W, st_C0, st_C1, wipe_nil, wipe_cons, sets_nil, sets_cons, pures_nil, pures_cons, rng_n, seq_n, rng_get, seq_list, seq_tuple, seq_getT, seq_getL, seq_getS, rng_fin, start_eq, iL_len, iL_snoc, iL_nil, iL_cons, hp, hx, rsd]
/-- the numbers whose squares leave v -/
def rt (p : Int) (n : Nat) (v : Int) : List Int := (rg n).filter fun y => decide (y * y % p = v)
theorem rg_succ (n : Nat) : rg (n + 1) = rg n ++ [(n : Int)] := by simp [rg, List.range_succ]
theorem rt_succ (p : Int) (n : Nat) (v : Int) : rt p (n + 1) v = if (n : Int) * n % p = v then rt p n v ++ [(n : Int)] else rt p n v := by
  unfold rt
  rw [rg_succ, List.filter_append]
  by_cases h : (n : Int) * n % p = v
  · rw [if_pos h]; simp [h]
  · rw [if_neg h]; simp [h]
theorem rt_len (p : Int) (n : Nat) (v : Int) : (rt p n v).length ≤ n := Nat.le_trans (List.length_filter_le _ _) (by rw [rg_len]; exact Nat.le_refl _)
def Roots (p : Int) (n : Nat) (kvs : List (D × D)) : Prop := ∀ v : Int, dFind kvs (.int v) = if rt p n v = [] then none else some (lI (rt p n v))
theorem roots_put {p : Int} {n : Nat} {kvs : List (D × D)} (h : Roots p n kvs) : Roots p (n + 1) (dPut kvs (.int ((n : Int) * n % p)) (lI (rt p n ((n : Int) * n % p) ++ [(n : Int)]))) := fun v => by
  rw [dFind_put _ (by rw [sameD_int]; simp), sameD_int, rt_succ]
  by_cases e : (n : Int) * n % p = v
  · simp [e]
  · simp [e, h v]
def HRoots (Cl : Call) : Prop := ∀ (p : Int) (S : Store), 0 < p → p < 1000 → ∃ kvs, Roots p p.toNat kvs ∧ Cl 5 [.d (.int p)] S = some (.dic false kvs, S)
theorem binD_ll (xs ys : List D) (h : xs.length + ys.length < 1000000) : binD .add (.list xs) (.list ys) = some (.list (xs ++ ys)) := by
  simp only [binD, szk h, if_true]
theorem binI_m {x y : Int} (h : smI x = true) : binI .mul x y = some (x * y) := by simp [binI, h]
theorem roots_ok {Cl : Call} (p : Int) (S : Store) (hp : 0 < p) (hp2 : p < 1000) : ∃ kvs, Roots p p.toNat kvs ∧ back S.length (exSs Cl 1000000 d5.body (start d5.names.length [.d (.int p)]) S) = some (.dic false kvs, S) := by
  obtain ⟨n, rfl⟩ : ∃ n : Nat, p = n := ⟨p.toNat, by omega⟩
  have hr := rngOk_nat (n := n) (by omega)
  obtain ⟨ρ', s', h1, kvs, y, hR, hl, rfl, rfl⟩ := forN_inv (.rng 0 1 n) (stepF Cl 1000000 (.name 2) (.cons (.dset (.var 1) (.bin .mod (.bin .mul (.var 2) (.var 2)) (.var 0)) (.bin .add (.dget (.var 1) (.bin .mod (.bin .mul (.var 2) (.var 2)) (.var 0)) (.lst .nil)) (.lst (.cons (.var 2) .nil)))) .nil)) (iL (rg n)) (by rw [iL_len, rg_len]; rfl)
    (fun i ρ s => ∃ kvs y, Roots n i kvs ∧ kvs.length ≤ i ∧ ρ = [some (.d (.int n)), some (.loc S.length), y] ∧ s = S ++ [.dct false kvs]) (ρ := [some (.d (.int n)), some (.loc S.length), none]) (s := S ++ [.dct false []])
    ⟨[], none, fun v => by simp [dFind, rt, rg], Nat.le_refl _, rfl, rfl⟩ (fun i ρ s _ hi => rg_get _ _ _ (by rwa [iL_len, rg_len] at hi)) (fun _ _ _ => rfl)
    (by
      rintro i x ρ s hx ⟨kvs, y, hR, hl, rfl, rfl⟩
      have hi : i < n := by
        have := (List.getElem?_eq_some_iff.mp hx).1
        rwa [iL_len, rg_len] at this
      have hx' : x = .int (i : Int) := by
        rw [iL_get] at hx
        have : (rg n)[i]? = some (i : Int) := by simp [rg, hi]
        rw [this] at hx
        exact (Option.some.inj hx).symm
      subst hx'
      have sm : smI (i : Int) = true := smI_of (by omega) (by omega)
      have hk : ∀ T : Store, evE Cl (.bin .mod (.bin .mul (.var 2) (.var 2)) (.var 0)) [some (.d (.int n)), some (.loc S.length), some (.d (.int (i : Int)))] T = some (.d (.int ((i : Int) * i % n)), T) := fun T => by
        have hn : (0 : Int) < n := by omega
        simp [ev_bin, ev_var, view_d, bin_int, binI_m sm, binI_mod hn]
      have hq : ∀ T : Store, evE Cl (.lst (.cons (.var 2) .nil)) [some (.d (.int n)), some (.loc S.length), some (.d (.int (i : Int)))] T = some (.d (.list [.int (i : Int)]), T) := fun T => by simp [ev_var, ev_glob, ev_int, ev_bl, ev_non, ev_str, ev_bin, ev_neg, ev_not, ev_and, ev_or, ev_cmp, ev_chain, ev_ite, ev_ix, ev_slo, ev_shi, ev_rev, ev_tup, ev_lst, ev_b1, ev_b2, ev_isi, ev_call, ev_lcnt, ev_lidx, ev_dget, ev_dix, ev_din, ev_dkeys, evs_nil, evs_cons, evi_rng1, evi_rng2, evi_rng3, evi_seq, evi_zip, ex_asg, ex_thaw, ex_par, ex_aug, ex_seti, ex_augi, ex_if_, ex_ret, ex_app, ex_ext, ex_pop, ex_dnew, ex_dset, ex_dupd, ex_expr, ex_parG, ex_pass, exs_nil, exs_cons, ex_for_, ex_whl, ev_comp, binI_add, binI_sub, binI_mulL, binI_mulR, binI_div, binI_mod, bin_int, cmp_int, cmpI_eq, cmpI_ne, cmpI_lt, cmpI_le, cmpI_gt, cmpI_ge, view_d, viewS_d, viewS_scr, b1_len_list, b1_len_tuple, b1_int_int, b1_tuple_list, b1_list_list, b1_list_tuple, ix_list, ix_tuple, asg_name, asg_tupT, asg_tupL, asg_tupK, viewS_kt, globR_tup, globR_str, slR_d, slR_scr, slR_kt, dict_dic, key_int, asgs_nil, asgs_cons, back_rt, back_nx, st_F, te_W, bd_W, st_C0, st_C1, wipe_nil, wipe_cons, sets_nil, sets_cons, pures_nil, pures_cons, rng_n, seq_n, rng_get, seq_list, seq_tuple, seq_getT, seq_getL, seq_getS, rng_fin, start_eq, iL_len, iL_snoc, iL_nil, szk]
      have hg : ∀ T, dictOf (.loc S.length) T = some (false, kvs) → evE Cl (.dget (.var 1) (.bin .mod (.bin .mul (.var 2) (.var 2)) (.var 0)) (.lst .nil)) [some (.d (.int n)), some (.loc S.length), some (.d (.int (i : Int)))] T = some (.d (lI (rt n i ((i : Int) * i % n))), T) := fun T hT => by
        refine (dget_of (ra := .loc S.length) (s1 := T) (by simp [ev_var]) hT (hk T) (z := .list []) (s3 := T) (by simp [ev_var, ev_glob, ev_int, ev_bl, ev_non, ev_str, ev_bin, ev_neg, ev_not, ev_and, ev_or, ev_cmp, ev_chain, ev_ite, ev_ix, ev_slo, ev_shi, ev_rev, ev_tup, ev_lst, ev_b1, ev_b2, ev_isi, ev_call, ev_lcnt, ev_lidx, ev_dget, ev_dix, ev_din, ev_dkeys, evs_nil, evs_cons, evi_rng1, evi_rng2, evi_rng3, evi_seq, evi_zip, ex_asg, ex_thaw, ex_par, ex_aug, ex_seti, ex_augi, ex_if_, ex_ret, ex_app, ex_ext, ex_pop, ex_dnew, ex_dset, ex_dupd, ex_expr, ex_parG, ex_pass, exs_nil, exs_cons, ex_for_, ex_whl, ev_comp, binI_add, binI_sub, binI_mulL, binI_mulR, binI_div, binI_mod, bin_int, cmp_int, cmpI_eq, cmpI_ne, cmpI_lt, cmpI_le, cmpI_gt, cmpI_ge, view_d, viewS_d, viewS_scr, b1_len_list, b1_len_tuple, b1_int_int, b1_tuple_list, b1_list_list, b1_list_tuple, ix_list, ix_tuple, asg_name, asg_tupT, asg_tupL, asg_tupK, viewS_kt, globR_tup, globR_str, slR_d, slR_scr, slR_kt, dict_dic, key_int, asgs_nil, asgs_cons, back_rt, back_nx, st_F, te_W, bd_W, st_C0, st_C1, wipe_nil, wipe_cons, sets_nil, sets_cons, pures_nil, pures_cons, rng_n, seq_n, rng_get, seq_list, seq_tuple, seq_getT, seq_getL, seq_getS, rng_fin, start_eq, iL_len, iL_snoc, iL_nil, szk]) hT (key_int _)).trans ?_
        rw [hR]
        by_cases e : rt n i ((i : Int) * i % n) = []
        · rw [if_pos e, e]; rfl
        · rw [if_neg e]; rfl
      refine ⟨_, _, ?_, dPut kvs (.int ((i : Int) * i % n)) (lI (rt n i ((i : Int) * i % n) ++ [(i : Int)])), some (.d (.int (i : Int))), roots_put hR, Nat.le_trans (dPut_len _ _ _) (by omega), rfl, rfl⟩
      rw [st_F, asg_name]
      simp only [List.set]
      refine (nx_of (dset_of (n := S.length) (x := lI (rt n i ((i : Int) * i % n) ++ [(i : Int)])) (s1 := S ++ [.dct false kvs]) ?_ (s2 := S ++ [.dct false kvs]) (by simp [ev_var]) (hk _) (dctAt_last _ _) (key_int _) (by omega))).trans ?_
      · refine bin_of (s1 := S ++ [.dct false kvs]) (hg _ (dct_last _ _ _)) (rb := .d (.list [.int (i : Int)])) (s2 := S ++ [.dct false kvs]) (hq _) (view_d _ _) (view_d _ _) ?_
        have := rt_len n i ((i : Int) * i % n)
        rw [binD_ll _ _ (by rw [iL_len]; simp; omega), ← iL_snoc]
      · rw [exs_nil, dctSet_last])
  rw [iL_len, rg_len] at hR hl
  refine ⟨kvs, hR, ?_⟩
  rw [d5]
  refine (back_dct (s := S ++ [.dct false kvs]) (i := S.length) ?_ (Nat.le_refl _) (dctAt_last _ _)).trans (by rw [take_app])
  refine (nx_of (ρ' := [some (.d (.int n)), some (.loc S.length), none]) (s1 := S ++ [.dct false []]) ?_).trans ((nx_of (for_of (J := .rng 0 1 n) (s1 := S ++ [.dct false []]) ?_ h1)).trans (rt_of (ret_of (by simp [ev_var]))))
  · simp [ex_dnew, start_eq]
  · simp [ev_var, ev_glob, ev_int, ev_bl, ev_non, ev_str, ev_bin, ev_neg, ev_not, ev_and, ev_or, ev_cmp, ev_chain, ev_ite, ev_ix, ev_slo, ev_shi, ev_rev, ev_tup, ev_lst, ev_b1, ev_b2, ev_isi, ev_call, ev_lcnt, ev_lidx, ev_dget, ev_dix, ev_din, ev_dkeys, evs_nil, evs_cons, evi_rng1, evi_rng2, evi_rng3, evi_seq, evi_zip, ex_asg, ex_thaw, ex_par, ex_aug, ex_seti, ex_augi, ex_if_, ex_ret, ex_app, ex_ext, ex_pop, ex_dnew, ex_dset, ex_dupd, ex_expr, ex_parG, ex_pass, exs_nil, exs_cons, ex_for_, ex_whl, ev_comp, binI_add, binI_sub, binI_mulL, binI_mulR, binI_div, binI_mod, bin_int, cmp_int, cmpI_eq, cmpI_ne, cmpI_lt, cmpI_le, cmpI_gt, cmpI_ge, view_d, viewS_d, viewS_scr, b1_len_list, b1_len_tuple, b1_int_int, b1_tuple_list, b1_list_list, b1_list_tuple, ix_list, ix_tuple, asg_name, asg_tupT, asg_tupL, asg_tupK, viewS_kt, globR_tup, globR_str, slR_d, slR_scr, slR_kt, dict_dic, key_int, asgs_nil, asgs_cons, back_rt, back_nx, st_F, te_W, bd_W, st_C0, st_C1, wipe_nil, wipe_cons, sets_nil, sets_cons, pures_nil, pures_cons, rng_n, seq_n, rng_get, seq_list, seq_tuple, seq_getT, seq_getL, seq_getS, rng_fin, start_eq, iL_len, iL_snoc, iL_nil, hr]
theorem hRoots (k : Nat) : HRoots (C (k+1)) := fun p S hp hp2 => by
  obtain ⟨kvs, h1, h2⟩ := roots_ok (Cl := C k) p S hp hp2
  refine ⟨kvs, h1, ?_⟩
  rw [c5]
  exact h2
/-! ### points -/
def ptsX (p a b x : Int) : List D := (rt p p.toNat (rsd p a b x)).map fun y => tI [x, y]
def ptsN (p a b : Int) (n : Nat) : List D := .tuple [] :: (rg n).flatMap (ptsX p a b)
def pts (p a b : Int) : List D := ptsN p a b p.toNat
theorem ptsN_succ (p a b : Int) (n : Nat) : ptsN p a b (n + 1) = ptsN p a b n ++ ptsX p a b n := by
  unfold ptsN
  rw [rg_succ, List.flatMap_append]
  simp
theorem ptsX_len (p a b x : Int) : (ptsX p a b x).length ≤ p.toNat := by
  unfold ptsX
  rw [List.length_map]
  exact rt_len _ _ _
theorem ptsN_len (p a b : Int) : ∀ n : Nat, (ptsN p a b n).length ≤ 1 + n * p.toNat
  | 0 => by simp [ptsN, rg]
  | n + 1 => by
    rw [ptsN_succ, List.length_append, Nat.succ_mul]
    have := ptsN_len p a b n
    have := ptsX_len p a b n
    omega
def HPoints (Cl : Call) : Prop := ∀ (p a b : Int) (S : Store), 0 < p → p < 100 → Cl 6 [.d (tI [p, a, b])] S = some (.d (.list (pts p a b)), S)
theorem points_ok {Cl : Call} (hR : HRoots Cl) (hS : HRight Cl) (p a b : Int) (S : Store) (hp : 0 < p) (hp2 : p < 100) : back S.length (exSs Cl 1000000 d6.body (start d6.names.length [.d (tI [p, a, b])]) S) = some (.d (.list (pts p a b)), S) := by
  obtain ⟨kvs, h1, h2⟩ := hR p S hp (by omega)
  have e0 : ∀ (x y z : Option R) (T : Store), evE Cl (.ix (.var 0) (.int 0)) [some (.d (tI [p, a, b])), x, y, z] T = some (.d (.int p), T) := fun x y z T => by simp [ev_var, ev_glob, ev_int, ev_bl, ev_non, ev_str, ev_bin, ev_neg, ev_not, ev_and, ev_or, ev_cmp, ev_chain, ev_ite, ev_ix, ev_slo, ev_shi, ev_rev, ev_tup, ev_lst, ev_b1, ev_b2, ev_isi, ev_call, ev_lcnt, ev_lidx, ev_dget, ev_dix, ev_din, ev_dkeys, evs_nil, evs_cons, evi_rng1, evi_rng2, evi_rng3, evi_seq, evi_zip, ex_asg, ex_thaw, ex_par, ex_aug, ex_seti, ex_augi, ex_if_, ex_ret, ex_app, ex_ext, ex_pop, ex_dnew, ex_dset, ex_dupd, ex_expr, ex_parG, ex_pass, exs_nil, exs_cons, ex_for_, ex_whl, ev_comp, binI_add, binI_sub, binI_mulL, binI_mulR, binI_div, binI_mod, bin_int, cmp_int, cmpI_eq, cmpI_ne, cmpI_lt, cmpI_le, cmpI_gt, cmpI_ge, view_d, viewS_d, viewS_scr, b1_len_list, b1_len_tuple, b1_int_int, b1_tuple_list, b1_list_list, b1_list_tuple, ix_list, ix_tuple, asg_name, asg_tupT, asg_tupL, asg_tupK, viewS_kt, globR_tup, globR_str, slR_d, slR_scr, slR_kt, dict_dic, key_int, asgs_nil, asgs_cons, back_rt, back_nx, st_F, te_W, bd_W, st_C0, st_C1, wipe_nil, wipe_cons, sets_nil, sets_cons, pures_nil, pures_cons, rng_n, seq_n, rng_get, seq_list, seq_tuple, seq_getT, seq_getL, seq_getS, rng_fin, start_eq, iL_len, iL_snoc, iL_nil, iL_cons, L2.atI, L2.ixN]
  have e0' : ∀ (x y z u : Option R) (T : Store), evE Cl (.ix (.var 0) (.int 0)) [some (.d (tI [p, a, b])), x, y, z, u] T = some (.d (.int p), T) := fun x y z u T => by simp [ev_var, ev_glob, ev_int, ev_bl, ev_non, ev_str, ev_bin, ev_neg, ev_not, ev_and, ev_or, ev_cmp, ev_chain, ev_ite, ev_ix, ev_slo, ev_shi, ev_rev, ev_tup, ev_lst, ev_b1, ev_b2, ev_isi, ev_call, ev_lcnt, ev_lidx, ev_dget, ev_dix, ev_din, ev_dkeys, evs_nil, evs_cons, evi_rng1, evi_rng2, evi_rng3, evi_seq, evi_zip, ex_asg, ex_thaw, ex_par, ex_aug, ex_seti, ex_augi, ex_if_, ex_ret, ex_app, ex_ext, ex_pop, ex_dnew, ex_dset, ex_dupd, ex_expr, ex_parG, ex_pass, exs_nil, exs_cons, ex_for_, ex_whl, ev_comp, binI_add, binI_sub, binI_mulL, binI_mulR, binI_div, binI_mod, bin_int, cmp_int, cmpI_eq, cmpI_ne, cmpI_lt, cmpI_le, cmpI_gt, cmpI_ge, view_d, viewS_d, viewS_scr, b1_len_list, b1_len_tuple, b1_int_int, b1_tuple_list, b1_list_list, b1_list_tuple, ix_list, ix_tuple, asg_name, asg_tupT, asg_tupL, asg_tupK, viewS_kt, globR_tup, globR_str, slR_d, slR_scr, slR_kt, dict_dic, key_int, asgs_nil, asgs_cons, back_rt, back_nx, st_F, te_W, bd_W, st_C0, st_C1, wipe_nil, wipe_cons, sets_nil, sets_cons, pures_nil, pures_cons, rng_n, seq_n, rng_get, seq_list, seq_tuple, seq_getT, seq_getL, seq_getS, rng_fin, start_eq, iL_len, iL_snoc, iL_nil, iL_cons, L2.atI, L2.ixN]
  have hr : rngOk p = true := by
    have := rngOk_nat (n := p.toNat) (by omega)
    have e : ((p.toNat : Nat) : Int) = p := by omega
    rwa [e] at this
  have step : ∀ (i : Nat) (T : Store) (y : Option R), i < 100 → evE Cl (.comp (.name 4) [4] (.seq (.dget (.var 1) (.call 3 (.cons (.var 0) (.cons (.var 3) .nil))) (.lst .nil))) false (.bl true) (.tup (.cons (.var 3) (.cons (.var 4) .nil)))) [some (.d (tI [p, a, b])), some (.dic false kvs), some (.loc S.length), some (.d (.int (i : Int))), y] T = some (.d (.list (ptsX p a b i)), T) := fun i T y hi => by
    have sm : smI (i : Int) = true := smI_of (by omega) (by omega)
    have hl := rt_len p p.toNat (rsd p a b i)
    have hg : evE Cl (.dget (.var 1) (.call 3 (.cons (.var 0) (.cons (.var 3) .nil))) (.lst .nil)) [some (.d (tI [p, a, b])), some (.dic false kvs), some (.loc S.length), some (.d (.int (i : Int))), y] T = some (.d (lI (rt p p.toNat (rsd p a b i))), T) := by
      refine (dget_of (ra := .dic false kvs) (s1 := T) (by simp [ev_var]) (dict_dic _ _ _) ((call2 (s1 := T) (s2 := T) (va := .d (tI [p, a, b])) (vb := .d (.int i)) (by simp [ev_var]) (by simp [ev_var])).trans (hS p a b i T hp sm)) (z := .list []) (s3 := T) (by simp [ev_var, ev_glob, ev_int, ev_bl, ev_non, ev_str, ev_bin, ev_neg, ev_not, ev_and, ev_or, ev_cmp, ev_chain, ev_ite, ev_ix, ev_slo, ev_shi, ev_rev, ev_tup, ev_lst, ev_b1, ev_b2, ev_isi, ev_call, ev_lcnt, ev_lidx, ev_dget, ev_dix, ev_din, ev_dkeys, evs_nil, evs_cons, evi_rng1, evi_rng2, evi_rng3, evi_seq, evi_zip, ex_asg, ex_thaw, ex_par, ex_aug, ex_seti, ex_augi, ex_if_, ex_ret, ex_app, ex_ext, ex_pop, ex_dnew, ex_dset, ex_dupd, ex_expr, ex_parG, ex_pass, exs_nil, exs_cons, ex_for_, ex_whl, ev_comp, binI_add, binI_sub, binI_mulL, binI_mulR, binI_div, binI_mod, bin_int, cmp_int, cmpI_eq, cmpI_ne, cmpI_lt, cmpI_le, cmpI_gt, cmpI_ge, view_d, viewS_d, viewS_scr, b1_len_list, b1_len_tuple, b1_int_int, b1_tuple_list, b1_list_list, b1_list_tuple, ix_list, ix_tuple, asg_name, asg_tupT, asg_tupL, asg_tupK, viewS_kt, globR_tup, globR_str, slR_d, slR_scr, slR_kt, dict_dic, key_int, asgs_nil, asgs_cons, back_rt, back_nx, st_F, te_W, bd_W, st_C0, st_C1, wipe_nil, wipe_cons, sets_nil, sets_cons, pures_nil, pures_cons, rng_n, seq_n, rng_get, seq_list, seq_tuple, seq_getT, seq_getL, seq_getS, rng_fin, start_eq, iL_len, iL_snoc, iL_nil, szk]) (dict_dic _ _ _) (key_int _)).trans ?_
      rw [h1]
      by_cases e : rt p p.toNat (rsd p a b i) = []
      · rw [if_pos e, e]; rfl
      · rw [if_neg e]; rfl
    refine ev_compL (J := .seq (.d (lI (rt p p.toNat (rsd p a b i)))) (rt p p.toNat (rsd p a b i)).length) _ _ ?_ rfl (by omega) (fun j acc hj => seq_get rfl rfl) (fun acc => seq_fin rfl rfl (Nat.le_of_eq (iL_len _))) (fun y hy acc => ?_)
    · rw [evi_seq, hg]
      simp only [viewS_d, seq_list, iL_len]
    · simp [ev_var, ev_glob, ev_int, ev_bl, ev_non, ev_str, ev_bin, ev_neg, ev_not, ev_and, ev_or, ev_cmp, ev_chain, ev_ite, ev_ix, ev_slo, ev_shi, ev_rev, ev_tup, ev_lst, ev_b1, ev_b2, ev_isi, ev_call, ev_lcnt, ev_lidx, ev_dget, ev_dix, ev_din, ev_dkeys, evs_nil, evs_cons, evi_rng1, evi_rng2, evi_rng3, evi_seq, evi_zip, ex_asg, ex_thaw, ex_par, ex_aug, ex_seti, ex_augi, ex_if_, ex_ret, ex_app, ex_ext, ex_pop, ex_dnew, ex_dset, ex_dupd, ex_expr, ex_parG, ex_pass, exs_nil, exs_cons, ex_for_, ex_whl, ev_comp, binI_add, binI_sub, binI_mulL, binI_mulR, binI_div, binI_mod, bin_int, cmp_int, cmpI_eq, cmpI_ne, cmpI_lt, cmpI_le, cmpI_gt, cmpI_ge, view_d, viewS_d, viewS_scr, b1_len_list, b1_len_tuple, b1_int_int, b1_tuple_list, b1_list_list, b1_list_tuple, ix_list, ix_tuple, asg_name, asg_tupT, asg_tupL, asg_tupK, viewS_kt, globR_tup, globR_str, slR_d, slR_scr, slR_kt, dict_dic, key_int, asgs_nil, asgs_cons, back_rt, back_nx, st_F, te_W, bd_W, st_C0, st_C1, wipe_nil, wipe_cons, sets_nil, sets_cons, pures_nil, pures_cons, rng_n, seq_n, rng_get, seq_list, seq_tuple, seq_getT, seq_getL, seq_getS, rng_fin, start_eq, iL_len, iL_snoc, iL_nil, iL_cons, szk]
  obtain ⟨ρ', s', h3, x, y, rfl, rfl⟩ := forN_inv (.rng 0 1 p.toNat) (stepF Cl 1000000 (.name 3) (.cons (.ext (.var 2) (.comp (.name 4) [4] (.seq (.dget (.var 1) (.call 3 (.cons (.var 0) (.cons (.var 3) .nil))) (.lst .nil))) false (.bl true) (.tup (.cons (.var 3) (.cons (.var 4) .nil))))) .nil)) (iL (rg p.toNat)) (by rw [iL_len, rg_len]; rfl)
    (fun i ρ s => ∃ x y, ρ = [some (.d (tI [p, a, b])), some (.dic false kvs), some (.loc S.length), x, y] ∧ s = S ++ [.lst (ptsN p a b i)]) (ρ := [some (.d (tI [p, a, b])), some (.dic false kvs), some (.loc S.length), none, none]) (s := S ++ [.lst [.tuple []]])
    ⟨none, none, rfl, by simp [ptsN, rg]⟩ (fun i ρ s _ hi => rg_get _ _ _ (by rwa [iL_len, rg_len] at hi)) (fun _ _ _ => rfl)
    (by
      rintro i x ρ s hx ⟨u, y, rfl, rfl⟩
      have hi : i < p.toNat := by
        have := (List.getElem?_eq_some_iff.mp hx).1
        rwa [iL_len, rg_len] at this
      have hx' : x = .int (i : Int) := by
        rw [iL_get] at hx
        have : (rg p.toNat)[i]? = some (i : Int) := by simp [rg, hi]
        rw [this] at hx
        exact (Option.some.inj hx).symm
      subst hx'
      refine ⟨_, _, ?_, some (.d (.int (i : Int))), y, rfl, rfl⟩
      rw [st_F, asg_name]
      simp only [List.set]
      have hl1 := ptsN_len p a b i
      have hl2 := ptsX_len p a b i
      have hm : i * p.toNat ≤ 100 * 100 := Nat.mul_le_mul (by omega) (by omega)
      refine (nx_of (ext_of (n := S.length) (s1 := S ++ [.lst (ptsN p a b i)]) (xs0 := ptsN p a b i) (by simp [ev_var]) (at_last _ _) (step i _ y (by omega)) (at_last _ _) (by omega))).trans ?_
      rw [exs_nil, set_last, ptsN_succ])
  rw [iL_len, rg_len] at h3
  have h3' : forN (.rng 0 1 p.toNat) _ (Items.rng 0 1 p.toNat).n 0 _ _ = some (.nx _ (S ++ [.lst (pts p a b)])) := h3
  rw [d6]
  refine (back_loc (s := S ++ [.lst (pts p a b)]) (i := S.length) ?_ (Nat.le_refl _) (dctAt_last _ _)).trans (by rw [take_app])
  refine (nx_of (asg_of (r := .dic false kvs) (s1 := S) (ρ' := [some (.d (tI [p, a, b])), some (.dic false kvs), none, none, none]) ((call1 (va := .d (.int p)) (s1 := S) ?_).trans h2) rfl)).trans ((nx_of (thaw_of (xs := [.tuple []]) (s1 := S) (by simp [ev_var, ev_glob, ev_int, ev_bl, ev_non, ev_str, ev_bin, ev_neg, ev_not, ev_and, ev_or, ev_cmp, ev_chain, ev_ite, ev_ix, ev_slo, ev_shi, ev_rev, ev_tup, ev_lst, ev_b1, ev_b2, ev_isi, ev_call, ev_lcnt, ev_lidx, ev_dget, ev_dix, ev_din, ev_dkeys, evs_nil, evs_cons, evi_rng1, evi_rng2, evi_rng3, evi_seq, evi_zip, ex_asg, ex_thaw, ex_par, ex_aug, ex_seti, ex_augi, ex_if_, ex_ret, ex_app, ex_ext, ex_pop, ex_dnew, ex_dset, ex_dupd, ex_expr, ex_parG, ex_pass, exs_nil, exs_cons, ex_for_, ex_whl, ev_comp, binI_add, binI_sub, binI_mulL, binI_mulR, binI_div, binI_mod, bin_int, cmp_int, cmpI_eq, cmpI_ne, cmpI_lt, cmpI_le, cmpI_gt, cmpI_ge, view_d, viewS_d, viewS_scr, b1_len_list, b1_len_tuple, b1_int_int, b1_tuple_list, b1_list_list, b1_list_tuple, ix_list, ix_tuple, asg_name, asg_tupT, asg_tupL, asg_tupK, viewS_kt, globR_tup, globR_str, slR_d, slR_scr, slR_kt, dict_dic, key_int, asgs_nil, asgs_cons, back_rt, back_nx, st_F, te_W, bd_W, st_C0, st_C1, wipe_nil, wipe_cons, sets_nil, sets_cons, pures_nil, pures_cons, rng_n, seq_n, rng_get, seq_list, seq_tuple, seq_getT, seq_getL, seq_getS, rng_fin, start_eq, iL_len, iL_snoc, iL_nil, szk]))).trans ((nx_of (for_of (J := .rng 0 1 p.toNat) (s1 := S ++ [.lst [.tuple []]]) ?_ h3')).trans (rt_of (ret_of (by simp [ev_var])))))
  · exact e0' none none none none S
  · rw [evi_rng1]
    rw [show [some (R.d (tI [p, a, b])), some (R.dic false kvs), none, none, none].set 2 (some (R.loc S.length)) = [some (R.d (tI [p, a, b])), some (R.dic false kvs), some (R.loc S.length), none, none] from rfl, e0']
    simp only []
    rw [if_pos hr]
theorem hPoints (k : Nat) : HPoints (C (k+2)) := fun p a b S hp hp2 => by
  rw [c6]
  exact points_ok (hRoots k) (hRight k) p a b S hp hp2
/-! ### the count, the trace -/
def cnt (p a b : Int) : Int := (pts p a b).length
def HCount (Cl : Call) : Prop := ∀ (p a b : Int) (S : Store), 0 < p → p < 100 → Cl 7 [.d (tI [p, a, b])] S = some (.d (.int (cnt p a b)), S)
theorem hCount (k : Nat) : HCount (C (k+3)) := fun p a b S hp hp2 => by
  rw [c7, d7]
  refine (back_of (rt_of (ret_of (b1_of ((call1 (s1 := S) (va := .d (tI [p, a, b])) (by simp [ev_var, start_eq])).trans (hPoints k p a b S hp hp2)) rfl rfl)))).trans ?_
  simp [cnt]
def HTrace (Cl : Call) : Prop := ∀ (p a b : Int) (S : Store), 0 < p → p < 100 → Cl 8 [.d (tI [p, a, b])] S = some (.d (.int (p + 1 - cnt p a b)), S)
theorem hTrace (k : Nat) : HTrace (C (k+4)) := fun p a b S hp hp2 => by
  rw [c8, d8]
  refine (back_of (rt_of (ret_of (bin_of (z := .int (p + 1 - cnt p a b)) (ra := .d (.int (p + 1))) (s1 := S) ?_ ((call1 (s1 := S) (va := .d (tI [p, a, b])) (by simp [ev_var, start_eq])).trans (hCount k p a b S hp hp2)) rfl rfl ?_)))).trans ?_
  · simp [ev_var, ev_glob, ev_int, ev_bl, ev_non, ev_str, ev_bin, ev_neg, ev_not, ev_and, ev_or, ev_cmp, ev_chain, ev_ite, ev_ix, ev_slo, ev_shi, ev_rev, ev_tup, ev_lst, ev_b1, ev_b2, ev_isi, ev_call, ev_lcnt, ev_lidx, ev_dget, ev_dix, ev_din, ev_dkeys, evs_nil, evs_cons, evi_rng1, evi_rng2, evi_rng3, evi_seq, evi_zip, ex_asg, ex_thaw, ex_par, ex_aug, ex_seti, ex_augi, ex_if_, ex_ret, ex_app, ex_ext, ex_pop, ex_dnew, ex_dset, ex_dupd, ex_expr, ex_parG, ex_pass, exs_nil, exs_cons, ex_for_, ex_whl, ev_comp, binI_add, binI_sub, binI_mulL, binI_mulR, binI_div, binI_mod, bin_int, cmp_int, cmpI_eq, cmpI_ne, cmpI_lt, cmpI_le, cmpI_gt, cmpI_ge, view_d, viewS_d, viewS_scr, b1_len_list, b1_len_tuple, b1_int_int, b1_tuple_list, b1_list_list, b1_list_tuple, ix_list, ix_tuple, asg_name, asg_tupT, asg_tupL, asg_tupK, viewS_kt, globR_tup, globR_str, slR_d, slR_scr, slR_kt, dict_dic, key_int, asgs_nil, asgs_cons, back_rt, back_nx, st_F, te_W, bd_W, st_C0, st_C1, wipe_nil, wipe_cons, sets_nil, sets_cons, pures_nil, pures_cons, rng_n, seq_n, rng_get, seq_list, seq_tuple, seq_getT, seq_getL, seq_getS, rng_fin, start_eq, iL_len, iL_snoc, iL_nil, iL_cons, L2.atI, L2.ixN]
  · rfl
  · simp
end LAW
end
section
namespace LAW
open PC
/-! ### a drawn curve -/
def dsc (p a b : Int) : Int := (4 * a * a * a + 27 * b * b) % p
def stA (k p a : Int) : Int := if k > 1 then (a + 1) % p else (a + if k = 1 then 1 else 0) % p
def stB (k p b : Int) : Int := if k > 1 then (b + 2) % p else (b + if k = 0 then 1 else 0) % p
def good (k p : Int) : Nat → Int → Int → Bool
  | 0, a, b => !decide (dsc p a b = 0)
  | m + 1, a, b => !decide (dsc p a b = 0) || good k p m (stA k p a) (stB k p b)
theorem good_step {k p : Int} {m : Nat} {a b : Int} (h : good k p m a b = true) (h0 : dsc p a b = 0) : ∃ m', m = m' + 1 ∧ good k p m' (stA k p a) (stB k p b) = true := by
  cases m with
  | zero => simp [good, h0] at h
  | succ m =>
    refine ⟨m, rfl, ?_⟩
    simpa [good, h0] using h
theorem good_hi {k k' p : Int} (hk : k > 1) (hk' : k' > 1) : ∀ (m : Nat) (a b : Int), good k p m a b = good k' p m a b
  | 0, a, b => rfl
  | m + 1, a, b => by
    have e1 : stA k p a = stA k' p a := by simp [stA, hk, hk']
    have e2 : stB k p b = stB k' p b := by simp [stB, hk, hk']
    unfold good
    rw [e1, e2, good_hi hk hk' m]
def allN (n : Nat) (f : Nat → Bool) : Bool := match n with
  | 0 => true
  | n + 1 => f n && allN n f
theorem allN_of {f : Nat → Bool} : ∀ {n i : Nat}, allN n f = true → i < n → f i = true
  | 0, i, _, hi => absurd hi (by omega)
  | n + 1, i, h, hi => by
    obtain ⟨h1, h2⟩ := Bool.and_eq_true_iff.mp (show (f n && allN n f) = true from h)
    by_cases e : i = n
    · subst e; exact h1
    · exact allN_of h2 (by omega)
theorem good_all : (primes.all fun p => allN p.toNat fun a => good 0 p 3 0 (a : Int) && (good 1 p 3 (a : Int) 0 && allN p.toNat fun b => good 2 p 8 (a : Int) (b : Int))) = true := by decide +kernel
theorem nat_of {x p : Int} (h0 : 0 ≤ x) (h1 : x < p) : x.toNat < p.toNat ∧ ((x.toNat : Nat) : Int) = x := ⟨by omega, by omega⟩
theorem good0 {p b : Int} (hp : p ∈ primes) (h0 : 0 ≤ b) (h1 : b < p) : good 0 p 8 0 b = true := by
  have h := allN_of (List.all_eq_true.mp good_all p hp) (nat_of h0 h1).1
  rw [(nat_of h0 h1).2, Bool.and_eq_true] at h
  have mono : ∀ (k p : Int) (m : Nat) (a b : Int), good k p m a b = true → good k p (m + 1) a b = true := by
    intro k p m
    induction m with
    | zero => intro a b h; simp [good] at h ⊢; exact .inl h
    | succ m ih =>
      intro a b h
      unfold good at h ⊢
      rw [Bool.or_eq_true] at h ⊢
      exact h.imp id (ih _ _)
  exact mono _ _ _ _ _ (mono _ _ _ _ _ (mono _ _ _ _ _ (mono _ _ _ _ _ (mono _ _ _ _ _ h.1))))
theorem good1 {p a : Int} (hp : p ∈ primes) (h0 : 0 ≤ a) (h1 : a < p) : good 1 p 8 a 0 = true := by
  have h := allN_of (List.all_eq_true.mp good_all p hp) (nat_of h0 h1).1
  rw [(nat_of h0 h1).2, Bool.and_eq_true, Bool.and_eq_true] at h
  have mono : ∀ (k p : Int) (m : Nat) (a b : Int), good k p m a b = true → good k p (m + 1) a b = true := by
    intro k p m
    induction m with
    | zero => intro a b h; simp [good] at h ⊢; exact .inl h
    | succ m ih =>
      intro a b h
      unfold good at h ⊢
      rw [Bool.or_eq_true] at h ⊢
      exact h.imp id (ih _ _)
  exact mono _ _ _ _ _ (mono _ _ _ _ _ (mono _ _ _ _ _ (mono _ _ _ _ _ (mono _ _ _ _ _ h.2.1))))
theorem good2 {p a b : Int} (hp : p ∈ primes) (h0 : 0 ≤ a) (h1 : a < p) (h2 : 0 ≤ b) (h3 : b < p) : good 2 p 8 a b = true := by
  have h := allN_of (List.all_eq_true.mp good_all p hp) (nat_of h0 h1).1
  rw [(nat_of h0 h1).2, Bool.and_eq_true, Bool.and_eq_true] at h
  have h' := allN_of h.2.2 (nat_of h2 h3).1
  rwa [(nat_of h2 h3).2] at h'
def Crv (p a b : Int) : Prop := p ∈ primes ∧ 0 ≤ a ∧ a < p ∧ 0 ≤ b ∧ b < p ∧ dsc p a b ≠ 0
def HCurve (Cl : Call) : Prop := ∀ (P : List D) (X : Store) (most : Int), PoolAt P → 5 ≤ most → ∃ p a b P', PoolAt P' ∧ Crv p a b ∧ p ≤ most ∧ Cl 27 [.loc 0, .d (.int most)] (.lst P :: X) = some (.d (tI [p, a, b]), .lst P' :: X)
theorem curve_ok {Cl : Call} (hPr : HPrime Cl) (hD : HDraw Cl) (P : List D) (X : Store) (most : Int) (hP : PoolAt P) (hm : 5 ≤ most) : ∃ p a b P', PoolAt P' ∧ Crv p a b ∧ p ≤ most ∧
    back (.lst P :: X : Store).length (exSs Cl 1000000 d27.body (start d27.names.length [.loc 0, .d (.int most)]) (.lst P :: X)) = some (.d (tI [p, a, b]), .lst P' :: X) := by
  obtain ⟨p, P1, hP1, hp, hpm, e1⟩ := hPr P X most hP hm
  have hb := pr_bd p hp
  obtain ⟨a, P2, hP2, ha0, ha1, e2⟩ := hD P1 X p hP1 (by omega) (by omega)
  obtain ⟨b, P3, hP3, hb0, hb1, e3⟩ := hD P2 X p hP2 (by omega) (by omega)
  obtain ⟨k, P4, hP4, hk0, hk1, e4⟩ := hD P3 X 8 hP3 (by omega) (by omega)
  obtain ⟨a0, b0, hA0, hA1, hB0, hB1, hg, he⟩ : ∃ a0 b0 : Int, 0 ≤ a0 ∧ a0 < p ∧ 0 ≤ b0 ∧ b0 < p ∧ good k p 8 a0 b0 = true ∧
      ∀ T : Store, evE Cl (.ite (.cmp .eq (.var 3) (.int 0)) (.tup (.cons (.int 0) (.cons (.var 5) .nil))) (.ite (.cmp .eq (.var 3) (.int 1)) (.tup (.cons (.var 4) (.cons (.int 0) .nil))) (.tup (.cons (.var 4) (.cons (.var 5) .nil))))) [some (.loc 0), some (.d (.int most)), some (.d (.int p)), some (.d (.int k)), some (.d (.int a)), some (.d (.int b))] T = some (.d (tI [a0, b0]), T) := by
    by_cases h0 : k = 0
    · refine ⟨0, b, by omega, by omega, hb0, hb1, by rw [h0]; exact good0 hp hb0 hb1, fun T => ?_⟩
      simp [ev_var, ev_glob, ev_int, ev_bl, ev_non, ev_str, ev_bin, ev_neg, ev_not, ev_and, ev_or, ev_cmp, ev_chain, ev_ite, ev_ix, ev_slo, ev_shi, ev_rev, ev_tup, ev_lst, ev_b1, ev_b2, ev_isi, ev_call, ev_lcnt, ev_lidx, ev_dget, ev_dix, ev_din, ev_dkeys, evs_nil, evs_cons, evi_rng1, evi_rng2, evi_rng3, evi_seq, evi_zip, ex_asg, ex_thaw, ex_par, ex_aug, ex_seti, ex_augi, ex_if_, ex_ret, ex_app, ex_ext, ex_pop, ex_dnew, ex_dset, ex_dupd, ex_expr, ex_parG, ex_pass, exs_nil, exs_cons, ex_for_, ex_whl, ev_comp, binI_add, binI_sub, binI_mulL, binI_mulR, binI_div, binI_mod, bin_int, cmp_int, cmpI_eq, cmpI_ne, cmpI_lt, cmpI_le, cmpI_gt, cmpI_ge, view_d, viewS_d, viewS_scr, b1_len_list, b1_len_tuple, b1_int_int, b1_tuple_list, b1_list_list, b1_list_tuple, ix_list, ix_tuple, asg_name, asg_tupT, asg_tupL, asg_tupK, viewS_kt, globR_tup, globR_str, slR_d, slR_scr, slR_kt, dict_dic, key_int, asgs_nil, asgs_cons, back_rt, back_nx, st_F, te_W, bd_W, st_C0, st_C1, wipe_nil, wipe_cons, sets_nil, sets_cons, pures_nil, pures_cons, rng_n, seq_n, rng_get, seq_list, seq_tuple, seq_getT, seq_getL, seq_getS, rng_fin, start_eq, iL_len, iL_snoc, iL_nil, h0, szk, iL_cons]
    · by_cases h1 : k = 1
      · refine ⟨a, 0, ha0, ha1, by omega, by omega, by rw [h1]; exact good1 hp ha0 ha1, fun T => ?_⟩
        simp [ev_var, ev_glob, ev_int, ev_bl, ev_non, ev_str, ev_bin, ev_neg, ev_not, ev_and, ev_or, ev_cmp, ev_chain, ev_ite, ev_ix, ev_slo, ev_shi, ev_rev, ev_tup, ev_lst, ev_b1, ev_b2, ev_isi, ev_call, ev_lcnt, ev_lidx, ev_dget, ev_dix, ev_din, ev_dkeys, evs_nil, evs_cons, evi_rng1, evi_rng2, evi_rng3, evi_seq, evi_zip, ex_asg, ex_thaw, ex_par, ex_aug, ex_seti, ex_augi, ex_if_, ex_ret, ex_app, ex_ext, ex_pop, ex_dnew, ex_dset, ex_dupd, ex_expr, ex_parG, ex_pass, exs_nil, exs_cons, ex_for_, ex_whl, ev_comp, binI_add, binI_sub, binI_mulL, binI_mulR, binI_div, binI_mod, bin_int, cmp_int, cmpI_eq, cmpI_ne, cmpI_lt, cmpI_le, cmpI_gt, cmpI_ge, view_d, viewS_d, viewS_scr, b1_len_list, b1_len_tuple, b1_int_int, b1_tuple_list, b1_list_list, b1_list_tuple, ix_list, ix_tuple, asg_name, asg_tupT, asg_tupL, asg_tupK, viewS_kt, globR_tup, globR_str, slR_d, slR_scr, slR_kt, dict_dic, key_int, asgs_nil, asgs_cons, back_rt, back_nx, st_F, te_W, bd_W, st_C0, st_C1, wipe_nil, wipe_cons, sets_nil, sets_cons, pures_nil, pures_cons, rng_n, seq_n, rng_get, seq_list, seq_tuple, seq_getT, seq_getL, seq_getS, rng_fin, start_eq, iL_len, iL_snoc, iL_nil, h1, szk, iL_cons]
      · refine ⟨a, b, ha0, ha1, hb0, hb1, by rw [good_hi (k' := 2) (by omega) (by omega)]; exact good2 hp ha0 ha1 hb0 hb1, fun T => ?_⟩
        simp [ev_var, ev_glob, ev_int, ev_bl, ev_non, ev_str, ev_bin, ev_neg, ev_not, ev_and, ev_or, ev_cmp, ev_chain, ev_ite, ev_ix, ev_slo, ev_shi, ev_rev, ev_tup, ev_lst, ev_b1, ev_b2, ev_isi, ev_call, ev_lcnt, ev_lidx, ev_dget, ev_dix, ev_din, ev_dkeys, evs_nil, evs_cons, evi_rng1, evi_rng2, evi_rng3, evi_seq, evi_zip, ex_asg, ex_thaw, ex_par, ex_aug, ex_seti, ex_augi, ex_if_, ex_ret, ex_app, ex_ext, ex_pop, ex_dnew, ex_dset, ex_dupd, ex_expr, ex_parG, ex_pass, exs_nil, exs_cons, ex_for_, ex_whl, ev_comp, binI_add, binI_sub, binI_mulL, binI_mulR, binI_div, binI_mod, bin_int, cmp_int, cmpI_eq, cmpI_ne, cmpI_lt, cmpI_le, cmpI_gt, cmpI_ge, view_d, viewS_d, viewS_scr, b1_len_list, b1_len_tuple, b1_int_int, b1_tuple_list, b1_list_list, b1_list_tuple, ix_list, ix_tuple, asg_name, asg_tupT, asg_tupL, asg_tupK, viewS_kt, globR_tup, globR_str, slR_d, slR_scr, slR_kt, dict_dic, key_int, asgs_nil, asgs_cons, back_rt, back_nx, st_F, te_W, bd_W, st_C0, st_C1, wipe_nil, wipe_cons, sets_nil, sets_cons, pures_nil, pures_cons, rng_n, seq_n, rng_get, seq_list, seq_tuple, seq_getT, seq_getL, seq_getS, rng_fin, start_eq, iL_len, iL_snoc, iL_nil, h0, h1, szk, iL_cons]
  have hp0 : 0 < p := by omega
  obtain ⟨ρ', s', e5, a', b', q1, q2, q3, q4, q5, rfl, rfl⟩ := whlN_inv (testW Cl (.cmp .eq (.bin .mod (.b1 .int (.bin .add (.bin .mul (.bin .mul (.bin .mul (.int 4) (.var 4)) (.var 4)) (.var 4)) (.bin .mul (.bin .mul (.int 27) (.var 5)) (.var 5)))) (.var 2)) (.int 0)))
    (bodyW Cl 1000000 (.cons (.asg (.tup (.cons (.name 4) (.cons (.name 5) .nil))) (.ite (.cmp .gt (.var 3) (.int 1)) (.tup (.cons (.bin .mod (.b1 .int (.bin .add (.var 4) (.int 1))) (.var 2)) (.cons (.bin .mod (.b1 .int (.bin .add (.var 5) (.int 2))) (.var 2)) .nil))) (.tup (.cons (.bin .mod (.b1 .int (.bin .add (.var 4) (.ite (.cmp .eq (.var 3) (.int 1)) (.int 1) (.int 0)))) (.var 2)) (.cons (.bin .mod (.b1 .int (.bin .add (.var 5) (.ite (.cmp .eq (.var 3) (.int 0)) (.int 1) (.int 0)))) (.var 2)) .nil))))) .nil))
    (fun m ρ s => ∃ a b, 0 ≤ a ∧ a < p ∧ 0 ≤ b ∧ b < p ∧ good k p m a b = true ∧ ρ = [some (.loc 0), some (.d (.int most)), some (.d (.int p)), some (.d (.int k)), some (.d (.int a)), some (.d (.int b))] ∧ s = .lst P4 :: X)
    (fun ρ s => ∃ a b, 0 ≤ a ∧ a < p ∧ 0 ≤ b ∧ b < p ∧ dsc p a b ≠ 0 ∧ ρ = [some (.loc 0), some (.d (.int most)), some (.d (.int p)), some (.d (.int k)), some (.d (.int a)), some (.d (.int b))] ∧ s = .lst P4 :: X)
    (by
      rintro m ρ s ⟨a, b, h1, h2, h3, h4, hg, rfl, rfl⟩
      have sa : smI a = true := smI_of h1 (by omega)
      have sb : smI b = true := smI_of h3 (by omega)
      by_cases hd : dsc p a b = 0
      · obtain ⟨m', rfl, hg'⟩ := good_step hg hd
        have hd' : (4 * a * a * a + 27 * b * b) % p = 0 := hd
        refine .inr ⟨.lst P4 :: X, _, _, m', ?_, ?_, Nat.lt_succ_self _, stA k p a, stB k p b, ?_, ?_, ?_, ?_, hg', rfl, rfl⟩
        · simp [ev_var, ev_glob, ev_int, ev_bl, ev_non, ev_str, ev_bin, ev_neg, ev_not, ev_and, ev_or, ev_cmp, ev_chain, ev_ite, ev_ix, ev_slo, ev_shi, ev_rev, ev_tup, ev_lst, ev_b1, ev_b2, ev_isi, ev_call, ev_lcnt, ev_lidx, ev_dget, ev_dix, ev_din, ev_dkeys, evs_nil, evs_cons, evi_rng1, evi_rng2, evi_rng3, evi_seq, evi_zip, ex_asg, ex_thaw, ex_par, ex_aug, ex_seti, ex_augi, ex_if_, ex_ret, ex_app, ex_ext, ex_pop, ex_dnew, ex_dset, ex_dupd, ex_expr, ex_parG, ex_pass, exs_nil, exs_cons, ex_for_, ex_whl, ev_comp, binI_add, binI_sub, binI_mulL, binI_mulR, binI_div, binI_mod, bin_int, cmp_int, cmpI_eq, cmpI_ne, cmpI_lt, cmpI_le, cmpI_gt, cmpI_ge, view_d, viewS_d, viewS_scr, b1_len_list, b1_len_tuple, b1_int_int, b1_tuple_list, b1_list_list, b1_list_tuple, ix_list, ix_tuple, asg_name, asg_tupT, asg_tupL, asg_tupK, viewS_kt, globR_tup, globR_str, slR_d, slR_scr, slR_kt, dict_dic, key_int, asgs_nil, asgs_cons, back_rt, back_nx, st_F, te_W, bd_W, st_C0, st_C1, wipe_nil, wipe_cons, sets_nil, sets_cons, pures_nil, pures_cons, rng_n, seq_n, rng_get, seq_list, seq_tuple, seq_getT, seq_getL, seq_getS, rng_fin, start_eq, iL_len, iL_snoc, iL_nil, sa, sb, hp0, hd']
        · by_cases h1 : k > 1
          · simp [ev_var, ev_glob, ev_int, ev_bl, ev_non, ev_str, ev_bin, ev_neg, ev_not, ev_and, ev_or, ev_cmp, ev_chain, ev_ite, ev_ix, ev_slo, ev_shi, ev_rev, ev_tup, ev_lst, ev_b1, ev_b2, ev_isi, ev_call, ev_lcnt, ev_lidx, ev_dget, ev_dix, ev_din, ev_dkeys, evs_nil, evs_cons, evi_rng1, evi_rng2, evi_rng3, evi_seq, evi_zip, ex_asg, ex_thaw, ex_par, ex_aug, ex_seti, ex_augi, ex_if_, ex_ret, ex_app, ex_ext, ex_pop, ex_dnew, ex_dset, ex_dupd, ex_expr, ex_parG, ex_pass, exs_nil, exs_cons, ex_for_, ex_whl, ev_comp, binI_add, binI_sub, binI_mulL, binI_mulR, binI_div, binI_mod, bin_int, cmp_int, cmpI_eq, cmpI_ne, cmpI_lt, cmpI_le, cmpI_gt, cmpI_ge, view_d, viewS_d, viewS_scr, b1_len_list, b1_len_tuple, b1_int_int, b1_tuple_list, b1_list_list, b1_list_tuple, ix_list, ix_tuple, asg_name, asg_tupT, asg_tupL, asg_tupK, viewS_kt, globR_tup, globR_str, slR_d, slR_scr, slR_kt, dict_dic, key_int, asgs_nil, asgs_cons, back_rt, back_nx, st_F, te_W, bd_W, st_C0, st_C1, wipe_nil, wipe_cons, sets_nil, sets_cons, pures_nil, pures_cons, rng_n, seq_n, rng_get, seq_list, seq_tuple, seq_getT, seq_getL, seq_getS, rng_fin, start_eq, iL_len, iL_snoc, iL_nil, hp0, szk, h1, stA, stB]
          · by_cases h0 : k = 0
            · simp [ev_var, ev_glob, ev_int, ev_bl, ev_non, ev_str, ev_bin, ev_neg, ev_not, ev_and, ev_or, ev_cmp, ev_chain, ev_ite, ev_ix, ev_slo, ev_shi, ev_rev, ev_tup, ev_lst, ev_b1, ev_b2, ev_isi, ev_call, ev_lcnt, ev_lidx, ev_dget, ev_dix, ev_din, ev_dkeys, evs_nil, evs_cons, evi_rng1, evi_rng2, evi_rng3, evi_seq, evi_zip, ex_asg, ex_thaw, ex_par, ex_aug, ex_seti, ex_augi, ex_if_, ex_ret, ex_app, ex_ext, ex_pop, ex_dnew, ex_dset, ex_dupd, ex_expr, ex_parG, ex_pass, exs_nil, exs_cons, ex_for_, ex_whl, ev_comp, binI_add, binI_sub, binI_mulL, binI_mulR, binI_div, binI_mod, bin_int, cmp_int, cmpI_eq, cmpI_ne, cmpI_lt, cmpI_le, cmpI_gt, cmpI_ge, view_d, viewS_d, viewS_scr, b1_len_list, b1_len_tuple, b1_int_int, b1_tuple_list, b1_list_list, b1_list_tuple, ix_list, ix_tuple, asg_name, asg_tupT, asg_tupL, asg_tupK, viewS_kt, globR_tup, globR_str, slR_d, slR_scr, slR_kt, dict_dic, key_int, asgs_nil, asgs_cons, back_rt, back_nx, st_F, te_W, bd_W, st_C0, st_C1, wipe_nil, wipe_cons, sets_nil, sets_cons, pures_nil, pures_cons, rng_n, seq_n, rng_get, seq_list, seq_tuple, seq_getT, seq_getL, seq_getS, rng_fin, start_eq, iL_len, iL_snoc, iL_nil, hp0, szk, h1, stA, stB, h0]
            · have h11 : k = 1 := by omega
              simp [ev_var, ev_glob, ev_int, ev_bl, ev_non, ev_str, ev_bin, ev_neg, ev_not, ev_and, ev_or, ev_cmp, ev_chain, ev_ite, ev_ix, ev_slo, ev_shi, ev_rev, ev_tup, ev_lst, ev_b1, ev_b2, ev_isi, ev_call, ev_lcnt, ev_lidx, ev_dget, ev_dix, ev_din, ev_dkeys, evs_nil, evs_cons, evi_rng1, evi_rng2, evi_rng3, evi_seq, evi_zip, ex_asg, ex_thaw, ex_par, ex_aug, ex_seti, ex_augi, ex_if_, ex_ret, ex_app, ex_ext, ex_pop, ex_dnew, ex_dset, ex_dupd, ex_expr, ex_parG, ex_pass, exs_nil, exs_cons, ex_for_, ex_whl, ev_comp, binI_add, binI_sub, binI_mulL, binI_mulR, binI_div, binI_mod, bin_int, cmp_int, cmpI_eq, cmpI_ne, cmpI_lt, cmpI_le, cmpI_gt, cmpI_ge, view_d, viewS_d, viewS_scr, b1_len_list, b1_len_tuple, b1_int_int, b1_tuple_list, b1_list_list, b1_list_tuple, ix_list, ix_tuple, asg_name, asg_tupT, asg_tupL, asg_tupK, viewS_kt, globR_tup, globR_str, slR_d, slR_scr, slR_kt, dict_dic, key_int, asgs_nil, asgs_cons, back_rt, back_nx, st_F, te_W, bd_W, st_C0, st_C1, wipe_nil, wipe_cons, sets_nil, sets_cons, pures_nil, pures_cons, rng_n, seq_n, rng_get, seq_list, seq_tuple, seq_getT, seq_getL, seq_getS, rng_fin, start_eq, iL_len, iL_snoc, iL_nil, hp0, szk, h1, stA, stB, h11]
        · unfold stA; split <;> exact Int.emod_nonneg _ (by omega)
        · unfold stA; split <;> exact Int.emod_lt_of_pos _ hp0
        · unfold stB; split <;> exact Int.emod_nonneg _ (by omega)
        · unfold stB; split <;> exact Int.emod_lt_of_pos _ hp0
      · refine .inl ⟨.lst P4 :: X, ?_, a, b, h1, h2, h3, h4, hd, rfl, rfl⟩
        have hd' : ¬ (4 * a * a * a + 27 * b * b) % p = 0 := hd
        simp [ev_var, ev_glob, ev_int, ev_bl, ev_non, ev_str, ev_bin, ev_neg, ev_not, ev_and, ev_or, ev_cmp, ev_chain, ev_ite, ev_ix, ev_slo, ev_shi, ev_rev, ev_tup, ev_lst, ev_b1, ev_b2, ev_isi, ev_call, ev_lcnt, ev_lidx, ev_dget, ev_dix, ev_din, ev_dkeys, evs_nil, evs_cons, evi_rng1, evi_rng2, evi_rng3, evi_seq, evi_zip, ex_asg, ex_thaw, ex_par, ex_aug, ex_seti, ex_augi, ex_if_, ex_ret, ex_app, ex_ext, ex_pop, ex_dnew, ex_dset, ex_dupd, ex_expr, ex_parG, ex_pass, exs_nil, exs_cons, ex_for_, ex_whl, ev_comp, binI_add, binI_sub, binI_mulL, binI_mulR, binI_div, binI_mod, bin_int, cmp_int, cmpI_eq, cmpI_ne, cmpI_lt, cmpI_le, cmpI_gt, cmpI_ge, view_d, viewS_d, viewS_scr, b1_len_list, b1_len_tuple, b1_int_int, b1_tuple_list, b1_list_list, b1_list_tuple, ix_list, ix_tuple, asg_name, asg_tupT, asg_tupL, asg_tupK, viewS_kt, globR_tup, globR_str, slR_d, slR_scr, slR_kt, dict_dic, key_int, asgs_nil, asgs_cons, back_rt, back_nx, st_F, te_W, bd_W, st_C0, st_C1, wipe_nil, wipe_cons, sets_nil, sets_cons, pures_nil, pures_cons, rng_n, seq_n, rng_get, seq_list, seq_tuple, seq_getT, seq_getL, seq_getS, rng_fin, start_eq, iL_len, iL_snoc, iL_nil, sa, sb, hp0, hd'])
    1000000 8 [some (.loc 0), some (.d (.int most)), some (.d (.int p)), some (.d (.int k)), some (.d (.int a0)), some (.d (.int b0))] (.lst P4 :: X) (by omega) ⟨a0, b0, hA0, hA1, hB0, hB1, hg, rfl, rfl⟩
  refine ⟨p, a', b', P4, hP4, ⟨hp, q1, q2, q3, q4, q5⟩, hpm, ?_⟩
  rw [d27]
  refine (back_of (x := tI [p, a', b']) (s := .lst P4 :: X) ?_).trans (by simp)
  refine (nx_of (asg_of (s1 := .lst P1 :: X) (ρ' := [some (.loc 0), some (.d (.int most)), some (.d (.int p)), none, none, none]) ((call2 (s1 := .lst P :: X) (s2 := .lst P :: X) (va := .loc 0) (vb := .d (.int most)) (by simp [ev_var, start_eq]) (by simp [ev_var, start_eq])).trans e1) rfl)).trans ?_
  refine (nx_of (par2_of (s1 := .lst P2 :: X) (s2 := .lst P3 :: X) ((call2 (s1 := .lst P1 :: X) (s2 := .lst P1 :: X) (va := .loc 0) (vb := .d (.int p)) (by simp [ev_var]) (by simp [ev_var])).trans e2) ((call2 (s1 := .lst P2 :: X) (s2 := .lst P2 :: X) (va := .loc 0) (vb := .d (.int p)) (by simp [ev_var]) (by simp [ev_var])).trans e3))).trans ?_
  refine (nx_of (asg_of (s1 := .lst P4 :: X) (ρ' := [some (.loc 0), some (.d (.int most)), some (.d (.int p)), some (.d (.int k)), some (.d (.int a)), some (.d (.int b))]) ((call2 (s1 := .lst P3 :: X) (s2 := .lst P3 :: X) (va := .loc 0) (vb := .d (.int 8)) (by simp [ev_var]) (by simp [ev_int])).trans e4) rfl)).trans ?_
  refine (nx_of (asg_of (s1 := .lst P4 :: X) (ρ' := [some (.loc 0), some (.d (.int most)), some (.d (.int p)), some (.d (.int k)), some (.d (.int a0)), some (.d (.int b0))]) (he _) rfl)).trans ?_
  refine (nx_of (whl_of e5)).trans (rt_of (ret_of ?_))
  simp [ev_var, ev_glob, ev_int, ev_bl, ev_non, ev_str, ev_bin, ev_neg, ev_not, ev_and, ev_or, ev_cmp, ev_chain, ev_ite, ev_ix, ev_slo, ev_shi, ev_rev, ev_tup, ev_lst, ev_b1, ev_b2, ev_isi, ev_call, ev_lcnt, ev_lidx, ev_dget, ev_dix, ev_din, ev_dkeys, evs_nil, evs_cons, evi_rng1, evi_rng2, evi_rng3, evi_seq, evi_zip, ex_asg, ex_thaw, ex_par, ex_aug, ex_seti, ex_augi, ex_if_, ex_ret, ex_app, ex_ext, ex_pop, ex_dnew, ex_dset, ex_dupd, ex_expr, ex_parG, ex_pass, exs_nil, exs_cons, ex_for_, ex_whl, ev_comp, binI_add, binI_sub, binI_mulL, binI_mulR, binI_div, binI_mod, bin_int, cmp_int, cmpI_eq, cmpI_ne, cmpI_lt, cmpI_le, cmpI_gt, cmpI_ge, view_d, viewS_d, viewS_scr, b1_len_list, b1_len_tuple, b1_int_int, b1_tuple_list, b1_list_list, b1_list_tuple, ix_list, ix_tuple, asg_name, asg_tupT, asg_tupL, asg_tupK, viewS_kt, globR_tup, globR_str, slR_d, slR_scr, slR_kt, dict_dic, key_int, asgs_nil, asgs_cons, back_rt, back_nx, st_F, te_W, bd_W, st_C0, st_C1, wipe_nil, wipe_cons, sets_nil, sets_cons, pures_nil, pures_cons, rng_n, seq_n, rng_get, seq_list, seq_tuple, seq_getT, seq_getL, seq_getS, rng_fin, start_eq, iL_len, iL_snoc, iL_nil, szk, iL_cons]
theorem hCurve (k : Nat) : HCurve (C (k+5)) := fun P X most hP hm => by
  obtain ⟨p, a, b, P', h1, h2, h3, h4⟩ := curve_ok (hPrime k) (hDraw (k+2)) P X most hP hm
  refine ⟨p, a, b, P', h1, h2, h3, ?_⟩
  rw [c27]
  exact h4
end LAW
end
section
namespace LAW
open PC
/-! ### the twin -/
def nonr (p : Int) : List Int := (rg p.toNat).filter fun n => decide (rt p p.toNat n = [])
def nrp (p : Int) : Int := (nonr p).headD 0
theorem nonr_ok : (primes.all fun p => !(nonr p).isEmpty && (decide (0 ≤ nrp p) && decide (nrp p < p))) = true := by decide +kernel
theorem nonr_at {p : Int} (hp : p ∈ primes) : (nonr p)[0]? = some (nrp p) ∧ 0 ≤ nrp p ∧ nrp p < p := by
  have h := List.all_eq_true.mp nonr_ok p hp
  rw [Bool.and_eq_true, Bool.and_eq_true] at h
  refine ⟨?_, of_decide_eq_true h.2.1, of_decide_eq_true h.2.2⟩
  have h1 := h.1
  unfold nrp
  cases hn : nonr p with
  | nil => rw [hn] at h1; cases h1
  | cons x r => rfl
def twA (p a : Int) : Int := a * nrp p * nrp p % p
def twB (p b : Int) : Int := b * nrp p * nrp p * nrp p % p
def HTwin (Cl : Call) : Prop := ∀ (p a b : Int) (S : Store), p ∈ primes → Cl 19 [.d (tI [p, a, b])] S = some (.d (tI [p, twA p a, twB p b]), S)
theorem twin_ok {Cl : Call} (hR : HRoots Cl) (p a b : Int) (S : Store) (hp : p ∈ primes) : back S.length (exSs Cl 1000000 d19.body (start d19.names.length [.d (tI [p, a, b])]) S) = some (.d (tI [p, twA p a, twB p b]), S) := by
  have hb := pr_bd p hp
  have hp0 : 0 < p := by omega
  obtain ⟨hd, hd0, hd1⟩ := nonr_at hp
  obtain ⟨kvs, h1, h2⟩ := hR p S hp0 (by omega)
  have sd : smI (nrp p) = true := smI_of hd0 (by omega)
  have hr : rngOk p = true := by
    have := rngOk_nat (n := p.toNat) (by omega)
    have e : ((p.toNat : Nat) : Int) = p := by omega
    rwa [e] at this
  have hc : evE Cl (.comp (.name 6) [6] (.rng1 (.var 3)) true (.din true (.var 6) (.var 1)) (.var 6)) [some (.d (tI [p, a, b])), some (.dic false kvs), none, some (.d (.int p)), some (.d (.int a)), some (.d (.int b)), none] S = some (.d (lI (nonr p)), S) := by
    have e1 := ev_compF (C := Cl) (g := .name 6) (vs := [6]) (it := .rng1 (.var 3)) (hc := true) (c := .din true (.var 6) (.var 1)) (e := .var 6) (ρ := [some (.d (tI [p, a, b])), some (.dic false kvs), none, some (.d (.int p)), some (.d (.int a)), some (.d (.int b)), none]) (s := S) (s1 := S) (J := .rng 0 1 p.toNat) (rg p.toNat) (fun x => if rt p p.toNat x = [] then some (.int x) else none) (by simp [ev_var, ev_glob, ev_int, ev_bl, ev_non, ev_str, ev_bin, ev_neg, ev_not, ev_and, ev_or, ev_cmp, ev_chain, ev_ite, ev_ix, ev_slo, ev_shi, ev_rev, ev_tup, ev_lst, ev_b1, ev_b2, ev_isi, ev_call, ev_lcnt, ev_lidx, ev_dget, ev_dix, ev_din, ev_dkeys, evs_nil, evs_cons, evi_rng1, evi_rng2, evi_rng3, evi_seq, evi_zip, ex_asg, ex_thaw, ex_par, ex_aug, ex_seti, ex_augi, ex_if_, ex_ret, ex_app, ex_ext, ex_pop, ex_dnew, ex_dset, ex_dupd, ex_expr, ex_parG, ex_pass, exs_nil, exs_cons, ex_for_, ex_whl, ev_comp, binI_add, binI_sub, binI_mulL, binI_mulR, binI_div, binI_mod, bin_int, cmp_int, cmpI_eq, cmpI_ne, cmpI_lt, cmpI_le, cmpI_gt, cmpI_ge, view_d, viewS_d, viewS_scr, b1_len_list, b1_len_tuple, b1_int_int, b1_tuple_list, b1_list_list, b1_list_tuple, ix_list, ix_tuple, asg_name, asg_tupT, asg_tupL, asg_tupK, viewS_kt, globR_tup, globR_str, slR_d, slR_scr, slR_kt, dict_dic, key_int, asgs_nil, asgs_cons, back_rt, back_nx, st_F, te_W, bd_W, st_C0, st_C1, wipe_nil, wipe_cons, sets_nil, sets_cons, pures_nil, pures_cons, rng_n, seq_n, rng_get, seq_list, seq_tuple, seq_getT, seq_getL, seq_getS, rng_fin, start_eq, iL_len, iL_snoc, iL_nil, hr]) (rg_len _).symm (by rw [rg_len]; omega) (fun i acc hi => rg_get _ _ _ (by rwa [rg_len] at hi)) (fun acc => rfl) (fun x hx acc => by
      rw [st_C1, asg_name]
      simp only [wipe_cons, wipe_nil, List.set]
      rw [din_of (k := .int x) (s1 := S ++ [.lst acc]) (s2 := S ++ [.lst acc]) (rb := .dic false kvs) (t := false) (kvs := kvs) (by simp [ev_var]) (by simp [ev_var]) (dict_dic _ _ _) (key_int _), h1]
      by_cases e : rt p p.toNat x = []
      · simp [e, ev_var]
      · simp [e])
    rw [e1]
    have e2 : ∀ l : List Int, l.filterMap (fun x => if rt p p.toNat x = [] then some (PySem.PyData.int x) else none) = iL (l.filter fun n => decide (rt p p.toNat n = [])) := by
      intro l
      induction l with
      | nil => rfl
      | cons x l ih =>
        rw [List.filterMap_cons, List.filter_cons]
        by_cases h : rt p p.toNat x = []
        · simp only [h, if_true, decide_true, iL_cons, ih]
        · simp only [h, if_false, decide_false, ih]
          rfl
    rw [e2]
    rfl
  have hx : ixD (lI (nonr p)) (.int 0) = some (.int (nrp p)) := by
    have := atI_nat (xs := iL (nonr p)) (i := 0) (x := .int (nrp p)) (by rw [iL_get, hd]; rfl)
    exact this
  rw [d19]
  refine (back_of (x := tI [p, twA p a, twB p b]) (s := S) ?_).trans (by simp)
  refine (nx_of (asg_of (r := .d (tI [p, a, b])) (s1 := S) (ρ' := [some (.d (tI [p, a, b])), none, none, some (.d (.int p)), some (.d (.int a)), some (.d (.int b)), none]) (by simp [ev_var, start_eq]) (by simp [ev_var, ev_glob, ev_int, ev_bl, ev_non, ev_str, ev_bin, ev_neg, ev_not, ev_and, ev_or, ev_cmp, ev_chain, ev_ite, ev_ix, ev_slo, ev_shi, ev_rev, ev_tup, ev_lst, ev_b1, ev_b2, ev_isi, ev_call, ev_lcnt, ev_lidx, ev_dget, ev_dix, ev_din, ev_dkeys, evs_nil, evs_cons, evi_rng1, evi_rng2, evi_rng3, evi_seq, evi_zip, ex_asg, ex_thaw, ex_par, ex_aug, ex_seti, ex_augi, ex_if_, ex_ret, ex_app, ex_ext, ex_pop, ex_dnew, ex_dset, ex_dupd, ex_expr, ex_parG, ex_pass, exs_nil, exs_cons, ex_for_, ex_whl, ev_comp, binI_add, binI_sub, binI_mulL, binI_mulR, binI_div, binI_mod, bin_int, cmp_int, cmpI_eq, cmpI_ne, cmpI_lt, cmpI_le, cmpI_gt, cmpI_ge, view_d, viewS_d, viewS_scr, b1_len_list, b1_len_tuple, b1_int_int, b1_tuple_list, b1_list_list, b1_list_tuple, ix_list, ix_tuple, asg_name, asg_tupT, asg_tupL, asg_tupK, viewS_kt, globR_tup, globR_str, slR_d, slR_scr, slR_kt, dict_dic, key_int, asgs_nil, asgs_cons, back_rt, back_nx, st_F, te_W, bd_W, st_C0, st_C1, wipe_nil, wipe_cons, sets_nil, sets_cons, pures_nil, pures_cons, rng_n, seq_n, rng_get, seq_list, seq_tuple, seq_getT, seq_getL, seq_getS, rng_fin, start_eq, iL_len, iL_snoc, iL_nil, iL_cons]))).trans ?_
  refine (nx_of (asg_of (s1 := S) (ρ' := [some (.d (tI [p, a, b])), some (.dic false kvs), none, some (.d (.int p)), some (.d (.int a)), some (.d (.int b)), none]) ((call1 (s1 := S) (va := .d (.int p)) (by simp [ev_var])).trans h2) rfl)).trans ?_
  refine (nx_of (asg_of (r := .d (.int (nrp p))) (s1 := S) (ρ' := [some (.d (tI [p, a, b])), some (.dic false kvs), some (.d (.int (nrp p))), some (.d (.int p)), some (.d (.int a)), some (.d (.int b)), none]) (ix_of (rb := .d (.int 0)) (s2 := S) hc (by simp [ev_int]) rfl rfl hx) rfl)).trans ?_
  refine rt_of (ret_of ?_)
  simp [ev_var, ev_glob, ev_int, ev_bl, ev_non, ev_str, ev_bin, ev_neg, ev_not, ev_and, ev_or, ev_cmp, ev_chain, ev_ite, ev_ix, ev_slo, ev_shi, ev_rev, ev_tup, ev_lst, ev_b1, ev_b2, ev_isi, ev_call, ev_lcnt, ev_lidx, ev_dget, ev_dix, ev_din, ev_dkeys, evs_nil, evs_cons, evi_rng1, evi_rng2, evi_rng3, evi_seq, evi_zip, ex_asg, ex_thaw, ex_par, ex_aug, ex_seti, ex_augi, ex_if_, ex_ret, ex_app, ex_ext, ex_pop, ex_dnew, ex_dset, ex_dupd, ex_expr, ex_parG, ex_pass, exs_nil, exs_cons, ex_for_, ex_whl, ev_comp, binI_add, binI_sub, binI_mulL, binI_mulR, binI_div, binI_mod, bin_int, cmp_int, cmpI_eq, cmpI_ne, cmpI_lt, cmpI_le, cmpI_gt, cmpI_ge, view_d, viewS_d, viewS_scr, b1_len_list, b1_len_tuple, b1_int_int, b1_tuple_list, b1_list_list, b1_list_tuple, ix_list, ix_tuple, asg_name, asg_tupT, asg_tupL, asg_tupK, viewS_kt, globR_tup, globR_str, slR_d, slR_scr, slR_kt, dict_dic, key_int, asgs_nil, asgs_cons, back_rt, back_nx, st_F, te_W, bd_W, st_C0, st_C1, wipe_nil, wipe_cons, sets_nil, sets_cons, pures_nil, pures_cons, rng_n, seq_n, rng_get, seq_list, seq_tuple, seq_getT, seq_getL, seq_getS, rng_fin, start_eq, iL_len, iL_snoc, iL_nil, szk, iL_cons, hp0, sd, twA, twB]
theorem hTwin (k : Nat) : HTwin (C (k+2)) := fun p a b S hp => by
  rw [c19]
  exact twin_ok (hRoots k) p a b S hp
/-! ### the twin's count -/
def Rn (p v : Int) : Nat := (rt p p.toNat v).length
theorem cnt_eq (p a b : Int) : cnt p a b = 1 + ((rg p.toNat).map fun x => Rn p (rsd p a b x)).sum := by
  unfold cnt pts ptsN
  rw [List.length_cons, List.length_flatMap]
  have e : (rg p.toNat).map (fun x => (ptsX p a b x).length) = (rg p.toNat).map fun x => Rn p (rsd p a b x) := by
    refine List.map_congr_left fun x _ => ?_
    unfold ptsX Rn
    rw [List.length_map]
  rw [e]
  omega
theorem two_all : (primes.all fun p => allN p.toNat fun v => decide (Rn p (v : Int) + Rn p (nrp p * nrp p * nrp p * (v : Int) % p) = 2)) = true := by decide +kernel
theorem perm_all : (primes.all fun p => ((rg p.toNat).map fun x => nrp p * x % p).isPerm (rg p.toNat)) = true := by decide +kernel
theorem mod_eq {u v p k : Int} (h : u - v = p * k) : u % p = v % p := Int.emod_eq_emod_iff_emod_sub_eq_zero.mpr (Int.emod_eq_zero_of_dvd ⟨k, h⟩)
theorem rsd_tw (p a b x : Int) : rsd p (twA p a) (twB p b) (nrp p * x % p) = nrp p * nrp p * nrp p * rsd p a b x % p := by
  unfold rsd twA twB
  generalize nrp p = d
  rw [Int.emod_def (d * x), Int.emod_def (a * d * d), Int.emod_def (b * d * d * d), Int.emod_def (x * x * x + a * x + b)]
  generalize d * x / p = q1
  generalize a * d * d / p = q2
  generalize b * d * d * d / p = q3
  generalize (x * x * x + a * x + b) / p = q4
  refine mod_eq (k := -3 * d * d * x * x * q1 + 3 * d * x * p * q1 * q1 - p * p * q1 * q1 * q1 - a * d * d * q1 - d * x * q2 + p * q1 * q2 - q3 + d * d * d * q4) ?_
  grind
theorem sum_two (p : Int) (f g : Int → Nat) : ∀ l : List Int, (∀ x ∈ l, f x + g x = 2) → (l.map f).sum + (l.map g).sum = 2 * l.length
  | [], _ => rfl
  | x :: l, h => by
    have h1 := h x List.mem_cons_self
    have h2 := sum_two p f g l fun y hy => h y (List.mem_cons_of_mem _ hy)
    simp only [List.map_cons, List.sum_cons, List.length_cons]
    omega
theorem cnt_twin {p : Int} (hp : p ∈ primes) (a b : Int) : cnt p (twA p a) (twB p b) = 2 * p + 2 - cnt p a b := by
  have hb := pr_bd p hp
  rw [cnt_eq, cnt_eq]
  have hP : ((rg p.toNat).map fun x => nrp p * x % p).Perm (rg p.toNat) := List.isPerm_iff.mp (List.all_eq_true.mp perm_all p hp)
  have e1 : ((rg p.toNat).map fun x => Rn p (rsd p (twA p a) (twB p b) x)).sum = ((rg p.toNat).map fun x => Rn p (rsd p (twA p a) (twB p b) (nrp p * x % p))).sum := by
    have := (hP.map fun x => Rn p (rsd p (twA p a) (twB p b) x)).sum_nat
    rw [List.map_map] at this
    exact this.symm
  have e2 := sum_two p (fun x => Rn p (rsd p a b x)) (fun x => Rn p (rsd p (twA p a) (twB p b) (nrp p * x % p))) (rg p.toNat) fun x _ => by
    show Rn p (rsd p a b x) + Rn p (rsd p (twA p a) (twB p b) (nrp p * x % p)) = 2
    rw [rsd_tw]
    have h0 : 0 ≤ rsd p a b x := Int.emod_nonneg _ (by omega)
    have h1 : rsd p a b x < p := Int.emod_lt_of_pos _ (by omega)
    have h := allN_of (List.all_eq_true.mp two_all p hp) (nat_of h0 h1).1
    rw [(nat_of h0 h1).2] at h
    exact of_decide_eq_true h
  rw [rg_len] at e2
  rw [e1]
  omega
theorem cnt_pos (p a b : Int) : 1 ≤ cnt p a b := by rw [cnt_eq]; omega
theorem cnt_le {p : Int} (hp : p ∈ primes) (a b : Int) : cnt p a b ≤ 2 * p + 1 := by
  have h := cnt_twin hp a b
  have := cnt_pos p (twA p a) (twB p b)
  omega
theorem smI_int {x : Int} (h0 : -1000000 < x) (h1 : x < 1000000) : smI x = true := by
  unfold smI
  exact decide_eq_true (by omega)
end LAW
end
section
namespace LAW
open PC
/-! ### numbers of a prime -/
def Cg (p x y : Int) : Prop := x % p = y % p
section
variable {p x y z a b c d : Int}
theorem Cg.refl (p x : Int) : Cg p x x := rfl
theorem Cg.symm (h : Cg p x y) : Cg p y x := Eq.symm h
theorem Cg.trans (h : Cg p x y) (h2 : Cg p y z) : Cg p x z := Eq.trans h h2
theorem Cg.add (h : Cg p a b) (h2 : Cg p c d) : Cg p (a + c) (b + d) := by
  show (a + c) % p = (b + d) % p
  rw [Int.add_emod, show a % p = b % p from h, show c % p = d % p from h2, ← Int.add_emod]
theorem Cg.sub (h : Cg p a b) (h2 : Cg p c d) : Cg p (a - c) (b - d) := by
  show (a - c) % p = (b - d) % p
  rw [Int.sub_emod, show a % p = b % p from h, show c % p = d % p from h2, ← Int.sub_emod]
theorem Cg.mul (h : Cg p a b) (h2 : Cg p c d) : Cg p (a * c) (b * d) := by
  show (a * c) % p = (b * d) % p
  rw [Int.mul_emod, show a % p = b % p from h, show c % p = d % p from h2, ← Int.mul_emod]
theorem Cg.neg (h : Cg p a b) : Cg p (-a) (-b) := by
  have := Cg.sub (Cg.refl p 0) h
  rwa [Int.zero_sub, Int.zero_sub] at this
theorem Cg.modl (h : Cg p x y) : Cg p (x % p) y := (Int.emod_emod_of_dvd x (Int.dvd_refl p)).trans h
theorem Cg.of_eq (h : x = y) : Cg p x y := by rw [h]; rfl
theorem Cg.both {x' y' : Int} (h1 : Cg p x x') (h2 : Cg p y y') (h : Cg p x' y') : Cg p x y := h1.trans (h.trans h2.symm)
theorem Cg.iff0 : Cg p x y ↔ Cg p (x - y) 0 := by
  constructor
  · intro h
    have := h.sub (Cg.refl p y)
    rwa [Int.sub_self] at this
  · intro h
    have := h.add (Cg.refl p y)
    rwa [Int.sub_add_cancel, Int.zero_add] at this
theorem Cg.mul0 (h : Cg p x 0) (y : Int) : Cg p (y * x) 0 := by
  have := (Cg.refl p y).mul h
  rwa [Int.mul_zero] at this
theorem Cg.red (h : Cg p x y) (h0 : 0 ≤ x) (h1 : x < p) (h2 : 0 ≤ y) (h3 : y < p) : x = y := by
  have h' : x % p = y % p := h
  rwa [Int.emod_eq_of_lt h0 h1, Int.emod_eq_of_lt h2 h3] at h'
theorem Cg.pow (h : Cg p x y) : ∀ n : Nat, Cg p (x ^ n) (y ^ n)
  | 0 => Cg.of_eq (by rw [Int.pow_zero, Int.pow_zero])
  | n + 1 => by rw [Int.pow_succ, Int.pow_succ]; exact (Cg.pow h n).mul h
end
def ivp (p n : Int) : Int := (n % p) ^ (p - 2).toNat % p
theorem inv_all : (primes.all fun p => allN p.toNat fun r => decide (r = 0) || decide (((r : Int) * ivp p r) % p = 1)) = true := by decide +kernel
theorem ivp_mod (p n : Int) : ivp p (n % p) = ivp p n := by
  unfold ivp
  rw [Int.emod_emod_of_dvd n (Int.dvd_refl p)]
theorem ivp_bd {p : Int} (hp : p ∈ primes) (n : Int) : 0 ≤ ivp p n ∧ ivp p n < p := by
  have := pr_bd p hp
  exact ⟨Int.emod_nonneg _ (by omega), Int.emod_lt_of_pos _ (by omega)⟩
theorem one_mod {p : Int} (hp : p ∈ primes) : (1 : Int) % p = 1 := by
  have := pr_bd p hp
  exact Int.emod_eq_of_lt (by omega) (by omega)
theorem zero_mod (p : Int) : (0 : Int) % p = 0 := Int.zero_emod p
theorem ivp_ok {p n : Int} (hp : p ∈ primes) (h : n % p ≠ 0) : Cg p (n * ivp p n) 1 := by
  have hb := pr_bd p hp
  have h0 : 0 ≤ n % p := Int.emod_nonneg _ (by omega)
  have h1 : n % p < p := Int.emod_lt_of_pos _ (by omega)
  have q := allN_of (List.all_eq_true.mp inv_all p hp) (nat_of h0 h1).1
  rw [Bool.or_eq_true] at q
  rcases q with q | q
  · exact absurd (by have := of_decide_eq_true q; omega) h
  · have q := of_decide_eq_true q
    rw [(nat_of h0 h1).2, ivp_mod] at q
    have e : Cg p (n * ivp p n) (n % p * ivp p n) := ((Cg.refl p (n % p)).trans (Cg.modl (Cg.refl p n))).symm.mul (Cg.refl _ _)
    refine e.trans ?_
    show _ % p = 1 % p
    rw [q, one_mod hp]
theorem cg_cancel {p n x y : Int} (hp : p ∈ primes) (h : n % p ≠ 0) (h2 : Cg p (n * x) (n * y)) : Cg p x y := by
  have k := ivp_ok hp h
  have e1 : Cg p x ((n * ivp p n) * x) := by
    have := k.symm.mul (Cg.refl p x)
    rwa [Int.one_mul] at this
  have e2 : Cg p y ((n * ivp p n) * y) := by
    have := k.symm.mul (Cg.refl p y)
    rwa [Int.one_mul] at this
  refine e1.trans (Cg.trans ?_ e2.symm)
  have := (Cg.refl p (ivp p n)).mul h2
  refine Cg.trans (Cg.of_eq ?_) (this.trans (Cg.of_eq ?_)) <;> grind
theorem cg_zero {p x y : Int} (hp : p ∈ primes) (h : Cg p (x * y) 0) : x % p = 0 ∨ y % p = 0 := by
  by_cases hx : x % p = 0
  · exact .inl hx
  · refine .inr ?_
    have : Cg p y 0 := cg_cancel hp hx (by rw [Int.mul_zero]; exact h)
    rw [show y % p = 0 % p from this, zero_mod]
theorem cg0_iff {p x : Int} : Cg p x 0 ↔ x % p = 0 := by unfold Cg; rw [zero_mod]
theorem ivp_uniq {p n x : Int} (hp : p ∈ primes) (h : Cg p (n * x) 1) : Cg p x (ivp p n) := by
  have hn : n % p ≠ 0 := fun e => by
    have e' := (cg0_iff.mpr e).mul (Cg.refl p x)
    rw [Int.zero_mul] at e'
    have := h.symm.trans e'
    have : (1 : Int) % p = 0 % p := this
    rw [one_mod hp, zero_mod] at this
    cases this
  exact cg_cancel hp hn (h.trans (ivp_ok hp hn).symm)
/-! ### the inverse by powers -/
def HInv (Cl : Call) : Prop := ∀ (n p : Int) (S : Store), p ∈ primes → Cl 2 [.d (.int n), .d (.int p)] S = some (.d (.int (ivp p n)), S)
theorem pow_half (x : Int) (m : Nat) : x ^ (2 * m) = (x * x) ^ m := by
  induction m with
  | zero => simp
  | succ m ih => rw [show 2 * (m + 1) = 2 * m + 1 + 1 from by omega, Int.pow_succ, Int.pow_succ, Int.pow_succ, ih, Int.mul_assoc]
theorem inv_ok {Cl : Call} (n p : Int) (S : Store) (hp : p ∈ primes) : back S.length (exSs Cl 1000000 d2.body (start d2.names.length [.d (.int n), .d (.int p)]) S) = some (.d (.int (ivp p n)), S) := by
  have hb := pr_bd p hp
  have hp0 : 0 < p := by omega
  obtain ⟨ρ', s', h1, x, f, f0, f1, hf, rfl, rfl⟩ := whlN_inv (testW Cl (.cmp .gt (.var 3) (.int 0))) (bodyW Cl 1000000 (.cons (.if_ (.cmp .eq (.bin .mod (.var 3) (.int 2)) (.int 1)) (.cons (.asg (.name 2) (.bin .mod (.bin .mul (.var 2) (.var 0)) (.var 1))) .nil) .nil) (.cons (.asg (.name 0) (.bin .mod (.bin .mul (.var 0) (.var 0)) (.var 1))) (.cons (.aug 3 .div (.int 2)) .nil))))
    (fun m ρ s => ∃ x f : Int, 0 ≤ x ∧ x < p ∧ 0 ≤ f ∧ f < p ∧ Cg p (f * x ^ m) ((n % p) ^ (p - 2).toNat) ∧ ρ = [some (.d (.int x)), some (.d (.int p)), some (.d (.int f)), some (.d (.int (m : Nat)))] ∧ s = S)
    (fun ρ s => ∃ x f : Int, 0 ≤ f ∧ f < p ∧ Cg p f ((n % p) ^ (p - 2).toNat) ∧ ρ = [some (.d (.int x)), some (.d (.int p)), some (.d (.int f)), some (.d (.int 0))] ∧ s = S)
    (by
      rintro m ρ s ⟨x, f, x0, x1, f0, f1, hc, rfl, rfl⟩
      have sx : smI x = true := smI_of x0 (by omega)
      have sf : smI f = true := smI_of f0 (by omega)
      by_cases hm : m = 0
      · subst hm
        refine .inl ⟨s, by simp [ev_var, ev_glob, ev_int, ev_bl, ev_non, ev_str, ev_bin, ev_neg, ev_not, ev_and, ev_or, ev_cmp, ev_chain, ev_ite, ev_ix, ev_slo, ev_shi, ev_rev, ev_tup, ev_lst, ev_b1, ev_b2, ev_isi, ev_call, ev_lcnt, ev_lidx, ev_dget, ev_dix, ev_din, ev_dkeys, evs_nil, evs_cons, evi_rng1, evi_rng2, evi_rng3, evi_seq, evi_zip, ex_asg, ex_thaw, ex_par, ex_aug, ex_seti, ex_augi, ex_if_, ex_ret, ex_app, ex_ext, ex_pop, ex_dnew, ex_dset, ex_dupd, ex_expr, ex_parG, ex_pass, exs_nil, exs_cons, ex_for_, ex_whl, ev_comp, binI_add, binI_sub, binI_mulL, binI_mulR, binI_div, binI_mod, bin_int, cmp_int, cmpI_eq, cmpI_ne, cmpI_lt, cmpI_le, cmpI_gt, cmpI_ge, view_d, viewS_d, viewS_scr, b1_len_list, b1_len_tuple, b1_int_int, b1_tuple_list, b1_list_list, b1_list_tuple, ix_list, ix_tuple, asg_name, asg_tupT, asg_tupL, asg_tupK, viewS_kt, globR_tup, globR_str, slR_d, slR_scr, slR_kt, dict_dic, key_int, asgs_nil, asgs_cons, back_rt, back_nx, st_F, te_W, bd_W, st_C0, st_C1, wipe_nil, wipe_cons, sets_nil, sets_cons, pures_nil, pures_cons, rng_n, seq_n, rng_get, seq_list, seq_tuple, seq_getT, seq_getL, seq_getS, rng_fin, start_eq, iL_len, iL_snoc, iL_nil], x, f, f0, f1, ?_, rfl, rfl⟩
        rwa [Int.pow_zero, Int.mul_one] at hc
      · have hm' : (0 : Int) < m := by omega
        have hm0 : 0 < m := by omega
        have x2 : 0 ≤ x * x % p := Int.emod_nonneg _ (by omega)
        have x3 : x * x % p < p := Int.emod_lt_of_pos _ hp0
        have f2 : 0 ≤ f * x % p := Int.emod_nonneg _ (by omega)
        have f3 : f * x % p < p := Int.emod_lt_of_pos _ hp0
        obtain ⟨k, hk⟩ : ∃ k : Nat, (m : Int) / 2 = k := ⟨m / 2, by omega⟩
        have hk2 : k < m := by omega
        refine .inr ?_
        by_cases ho : (m : Int) % 2 = 1
        · refine ⟨s, [some (.d (.int (x * x % p))), some (.d (.int p)), some (.d (.int (f * x % p))), some (.d (.int (k : Nat)))], s, k, by simp [ev_var, ev_glob, ev_int, ev_bl, ev_non, ev_str, ev_bin, ev_neg, ev_not, ev_and, ev_or, ev_cmp, ev_chain, ev_ite, ev_ix, ev_slo, ev_shi, ev_rev, ev_tup, ev_lst, ev_b1, ev_b2, ev_isi, ev_call, ev_lcnt, ev_lidx, ev_dget, ev_dix, ev_din, ev_dkeys, evs_nil, evs_cons, evi_rng1, evi_rng2, evi_rng3, evi_seq, evi_zip, ex_asg, ex_thaw, ex_par, ex_aug, ex_seti, ex_augi, ex_if_, ex_ret, ex_app, ex_ext, ex_pop, ex_dnew, ex_dset, ex_dupd, ex_expr, ex_parG, ex_pass, exs_nil, exs_cons, ex_for_, ex_whl, ev_comp, binI_add, binI_sub, binI_mulL, binI_mulR, binI_div, binI_mod, bin_int, cmp_int, cmpI_eq, cmpI_ne, cmpI_lt, cmpI_le, cmpI_gt, cmpI_ge, view_d, viewS_d, viewS_scr, b1_len_list, b1_len_tuple, b1_int_int, b1_tuple_list, b1_list_list, b1_list_tuple, ix_list, ix_tuple, asg_name, asg_tupT, asg_tupL, asg_tupK, viewS_kt, globR_tup, globR_str, slR_d, slR_scr, slR_kt, dict_dic, key_int, asgs_nil, asgs_cons, back_rt, back_nx, st_F, te_W, bd_W, st_C0, st_C1, wipe_nil, wipe_cons, sets_nil, sets_cons, pures_nil, pures_cons, rng_n, seq_n, rng_get, seq_list, seq_tuple, seq_getT, seq_getL, seq_getS, rng_fin, start_eq, iL_len, iL_snoc, iL_nil, hm0], ?_, by omega, x * x % p, f * x % p, x2, x3, f2, f3, ?_, rfl, rfl⟩
          · simp [ev_var, ev_glob, ev_int, ev_bl, ev_non, ev_str, ev_bin, ev_neg, ev_not, ev_and, ev_or, ev_cmp, ev_chain, ev_ite, ev_ix, ev_slo, ev_shi, ev_rev, ev_tup, ev_lst, ev_b1, ev_b2, ev_isi, ev_call, ev_lcnt, ev_lidx, ev_dget, ev_dix, ev_din, ev_dkeys, evs_nil, evs_cons, evi_rng1, evi_rng2, evi_rng3, evi_seq, evi_zip, ex_asg, ex_thaw, ex_par, ex_aug, ex_seti, ex_augi, ex_if_, ex_ret, ex_app, ex_ext, ex_pop, ex_dnew, ex_dset, ex_dupd, ex_expr, ex_parG, ex_pass, exs_nil, exs_cons, ex_for_, ex_whl, ev_comp, binI_add, binI_sub, binI_mulL, binI_mulR, binI_div, binI_mod, bin_int, cmp_int, cmpI_eq, cmpI_ne, cmpI_lt, cmpI_le, cmpI_gt, cmpI_ge, view_d, viewS_d, viewS_scr, b1_len_list, b1_len_tuple, b1_int_int, b1_tuple_list, b1_list_list, b1_list_tuple, ix_list, ix_tuple, asg_name, asg_tupT, asg_tupL, asg_tupK, viewS_kt, globR_tup, globR_str, slR_d, slR_scr, slR_kt, dict_dic, key_int, asgs_nil, asgs_cons, back_rt, back_nx, st_F, te_W, bd_W, st_C0, st_C1, wipe_nil, wipe_cons, sets_nil, sets_cons, pures_nil, pures_cons, rng_n, seq_n, rng_get, seq_list, seq_tuple, seq_getT, seq_getL, seq_getS, rng_fin, start_eq, iL_len, iL_snoc, iL_nil, ho, hp0, sx, sf, hk]
          · have e : m = 2 * k + 1 := by omega
            refine Cg.trans ?_ hc
            have q : Cg p (f * x % p * (x * x % p) ^ k) (f * x * (x * x) ^ k) := (Cg.modl (Cg.refl _ _)).mul ((Cg.modl (Cg.refl _ _)).pow _)
            refine q.trans (Cg.of_eq ?_)
            conv => rhs; rw [e, Int.pow_succ, pow_half]
            grind
        · refine ⟨s, [some (.d (.int (x * x % p))), some (.d (.int p)), some (.d (.int f)), some (.d (.int (k : Nat)))], s, k, by simp [ev_var, ev_glob, ev_int, ev_bl, ev_non, ev_str, ev_bin, ev_neg, ev_not, ev_and, ev_or, ev_cmp, ev_chain, ev_ite, ev_ix, ev_slo, ev_shi, ev_rev, ev_tup, ev_lst, ev_b1, ev_b2, ev_isi, ev_call, ev_lcnt, ev_lidx, ev_dget, ev_dix, ev_din, ev_dkeys, evs_nil, evs_cons, evi_rng1, evi_rng2, evi_rng3, evi_seq, evi_zip, ex_asg, ex_thaw, ex_par, ex_aug, ex_seti, ex_augi, ex_if_, ex_ret, ex_app, ex_ext, ex_pop, ex_dnew, ex_dset, ex_dupd, ex_expr, ex_parG, ex_pass, exs_nil, exs_cons, ex_for_, ex_whl, ev_comp, binI_add, binI_sub, binI_mulL, binI_mulR, binI_div, binI_mod, bin_int, cmp_int, cmpI_eq, cmpI_ne, cmpI_lt, cmpI_le, cmpI_gt, cmpI_ge, view_d, viewS_d, viewS_scr, b1_len_list, b1_len_tuple, b1_int_int, b1_tuple_list, b1_list_list, b1_list_tuple, ix_list, ix_tuple, asg_name, asg_tupT, asg_tupL, asg_tupK, viewS_kt, globR_tup, globR_str, slR_d, slR_scr, slR_kt, dict_dic, key_int, asgs_nil, asgs_cons, back_rt, back_nx, st_F, te_W, bd_W, st_C0, st_C1, wipe_nil, wipe_cons, sets_nil, sets_cons, pures_nil, pures_cons, rng_n, seq_n, rng_get, seq_list, seq_tuple, seq_getT, seq_getL, seq_getS, rng_fin, start_eq, iL_len, iL_snoc, iL_nil, hm0], ?_, by omega, x * x % p, f, x2, x3, f0, f1, ?_, rfl, rfl⟩
          · simp [ev_var, ev_glob, ev_int, ev_bl, ev_non, ev_str, ev_bin, ev_neg, ev_not, ev_and, ev_or, ev_cmp, ev_chain, ev_ite, ev_ix, ev_slo, ev_shi, ev_rev, ev_tup, ev_lst, ev_b1, ev_b2, ev_isi, ev_call, ev_lcnt, ev_lidx, ev_dget, ev_dix, ev_din, ev_dkeys, evs_nil, evs_cons, evi_rng1, evi_rng2, evi_rng3, evi_seq, evi_zip, ex_asg, ex_thaw, ex_par, ex_aug, ex_seti, ex_augi, ex_if_, ex_ret, ex_app, ex_ext, ex_pop, ex_dnew, ex_dset, ex_dupd, ex_expr, ex_parG, ex_pass, exs_nil, exs_cons, ex_for_, ex_whl, ev_comp, binI_add, binI_sub, binI_mulL, binI_mulR, binI_div, binI_mod, bin_int, cmp_int, cmpI_eq, cmpI_ne, cmpI_lt, cmpI_le, cmpI_gt, cmpI_ge, view_d, viewS_d, viewS_scr, b1_len_list, b1_len_tuple, b1_int_int, b1_tuple_list, b1_list_list, b1_list_tuple, ix_list, ix_tuple, asg_name, asg_tupT, asg_tupL, asg_tupK, viewS_kt, globR_tup, globR_str, slR_d, slR_scr, slR_kt, dict_dic, key_int, asgs_nil, asgs_cons, back_rt, back_nx, st_F, te_W, bd_W, st_C0, st_C1, wipe_nil, wipe_cons, sets_nil, sets_cons, pures_nil, pures_cons, rng_n, seq_n, rng_get, seq_list, seq_tuple, seq_getT, seq_getL, seq_getS, rng_fin, start_eq, iL_len, iL_snoc, iL_nil, ho, hp0, sx, hk]
          · have e : m = 2 * k := by omega
            refine Cg.trans ?_ hc
            have q : Cg p (f * (x * x % p) ^ k) (f * (x * x) ^ k) := (Cg.refl p f).mul ((Cg.modl (Cg.refl _ _)).pow _)
            refine q.trans (Cg.of_eq ?_)
            conv => rhs; rw [e, pow_half])
    1000000 (p - 2).toNat [some (.d (.int (n % p))), some (.d (.int p)), some (.d (.int 1)), some (.d (.int (p - 2)))] S (by omega)
    ⟨n % p, 1, Int.emod_nonneg _ (by omega), Int.emod_lt_of_pos _ hp0, by omega, by omega, Cg.of_eq (Int.one_mul _), by rw [show (((p - 2).toNat : Nat) : Int) = p - 2 from by omega], rfl⟩
  have hv : f = ivp p n := by
    unfold ivp
    rw [← (hf : f % p = _), Int.emod_eq_of_lt f0 f1]
  subst hv
  rw [d2]
  refine (back_of (x := .int (ivp p n)) (s := s') ?_).trans (by simp)
  refine (nx_of (ρ' := [some (.d (.int n)), some (.d (.int p)), some (.d (.int 1)), none]) (s1 := s') (asg_of (ev_int _ _ _ _) rfl)).trans ?_
  refine (nx_of (ρ' := [some (.d (.int n)), some (.d (.int p)), some (.d (.int 1)), some (.d (.int (p - 2)))]) (s1 := s') (asg_of (r := .d (.int (p - 2))) (by simp [ev_var, ev_glob, ev_int, ev_bl, ev_non, ev_str, ev_bin, ev_neg, ev_not, ev_and, ev_or, ev_cmp, ev_chain, ev_ite, ev_ix, ev_slo, ev_shi, ev_rev, ev_tup, ev_lst, ev_b1, ev_b2, ev_isi, ev_call, ev_lcnt, ev_lidx, ev_dget, ev_dix, ev_din, ev_dkeys, evs_nil, evs_cons, evi_rng1, evi_rng2, evi_rng3, evi_seq, evi_zip, ex_asg, ex_thaw, ex_par, ex_aug, ex_seti, ex_augi, ex_if_, ex_ret, ex_app, ex_ext, ex_pop, ex_dnew, ex_dset, ex_dupd, ex_expr, ex_parG, ex_pass, exs_nil, exs_cons, ex_for_, ex_whl, ev_comp, binI_add, binI_sub, binI_mulL, binI_mulR, binI_div, binI_mod, bin_int, cmp_int, cmpI_eq, cmpI_ne, cmpI_lt, cmpI_le, cmpI_gt, cmpI_ge, view_d, viewS_d, viewS_scr, b1_len_list, b1_len_tuple, b1_int_int, b1_tuple_list, b1_list_list, b1_list_tuple, ix_list, ix_tuple, asg_name, asg_tupT, asg_tupL, asg_tupK, viewS_kt, globR_tup, globR_str, slR_d, slR_scr, slR_kt, dict_dic, key_int, asgs_nil, asgs_cons, back_rt, back_nx, st_F, te_W, bd_W, st_C0, st_C1, wipe_nil, wipe_cons, sets_nil, sets_cons, pures_nil, pures_cons, rng_n, seq_n, rng_get, seq_list, seq_tuple, seq_getT, seq_getL, seq_getS, rng_fin, start_eq, iL_len, iL_snoc, iL_nil]) rfl)).trans ?_
  refine (nx_of (ρ' := [some (.d (.int (n % p))), some (.d (.int p)), some (.d (.int 1)), some (.d (.int (p - 2)))]) (s1 := s') (by simp [ev_var, ev_glob, ev_int, ev_bl, ev_non, ev_str, ev_bin, ev_neg, ev_not, ev_and, ev_or, ev_cmp, ev_chain, ev_ite, ev_ix, ev_slo, ev_shi, ev_rev, ev_tup, ev_lst, ev_b1, ev_b2, ev_isi, ev_call, ev_lcnt, ev_lidx, ev_dget, ev_dix, ev_din, ev_dkeys, evs_nil, evs_cons, evi_rng1, evi_rng2, evi_rng3, evi_seq, evi_zip, ex_asg, ex_thaw, ex_par, ex_aug, ex_seti, ex_augi, ex_if_, ex_ret, ex_app, ex_ext, ex_pop, ex_dnew, ex_dset, ex_dupd, ex_expr, ex_parG, ex_pass, exs_nil, exs_cons, ex_for_, ex_whl, ev_comp, binI_add, binI_sub, binI_mulL, binI_mulR, binI_div, binI_mod, bin_int, cmp_int, cmpI_eq, cmpI_ne, cmpI_lt, cmpI_le, cmpI_gt, cmpI_ge, view_d, viewS_d, viewS_scr, b1_len_list, b1_len_tuple, b1_int_int, b1_tuple_list, b1_list_list, b1_list_tuple, ix_list, ix_tuple, asg_name, asg_tupT, asg_tupL, asg_tupK, viewS_kt, globR_tup, globR_str, slR_d, slR_scr, slR_kt, dict_dic, key_int, asgs_nil, asgs_cons, back_rt, back_nx, st_F, te_W, bd_W, st_C0, st_C1, wipe_nil, wipe_cons, sets_nil, sets_cons, pures_nil, pures_cons, rng_n, seq_n, rng_get, seq_list, seq_tuple, seq_getT, seq_getL, seq_getS, rng_fin, start_eq, iL_len, iL_snoc, iL_nil, hp0])).trans ?_
  refine (nx_of (whl_of h1)).trans (rt_of (ret_of (var_of rfl)))
theorem hInv (k : Nat) : HInv (C (k+1)) := fun n p S hp => by
  rw [c2]
  exact inv_ok n p S hp
end LAW
end
section
namespace LAW
open PC
/-! ### points and their sums -/
def tn (p : Int) : List Int → List Int
  | [x, y] => [x, -y % p]
  | P => P
def sl (p a x y z w : Int) : Int := if x = z ∧ y = w then (3 * x * x + a) * ivp p (2 * y) else (w - y) * ivp p (z - x)
def px (p a x y z w : Int) : Int := (sl p a x y z w * sl p a x y z w - x - z) % p
def py (p a x y z w : Int) : Int := (sl p a x y z w * (x - px p a x y z w) - y) % p
def padd (p a : Int) : List Int → List Int → List Int
  | [], Q => Q
  | P, [] => P
  | [x, y], [z, w] => if z = x ∧ w = -y % p then [] else [px p a x y z w, py p a x y z w]
  | _, _ => []
/-- a point's form -/
def Pt (p : Int) (P : List Int) : Prop := P = [] ∨ ∃ x y, P = [x, y] ∧ 0 ≤ x ∧ x < p ∧ 0 ≤ y ∧ y < p
def On (p a b : Int) (P : List Int) : Prop := P = [] ∨ ∃ x y, P = [x, y] ∧ 0 ≤ x ∧ x < p ∧ 0 ≤ y ∧ y < p ∧ y * y % p = rsd p a b x
theorem On.pt {p a b : Int} {P : List Int} (h : On p a b P) : Pt p P := by
  rcases h with h | ⟨x, y, h, h0, h1, h2, h3, _⟩
  · exact .inl h
  · exact .inr ⟨x, y, h, h0, h1, h2, h3⟩
theorem eq2 (z w x y : Int) : cmpD .eq (.tuple [.int z, .int w]) (.tuple [.int x, .int y]) = some (decide (z = x ∧ w = y)) := (eq_tI [z, w] [x, y]).trans (by simp)
theorem eq20 (x y : Int) : cmpD .eq (.tuple [.int x, .int y]) (.tuple []) = some false := (eq_tI [x, y] []).trans (by simp)
theorem eq02 (x y : Int) : cmpD .eq (.tuple []) (.tuple [.int x, .int y]) = some false := (eq_tI [] [x, y]).trans (by simp)
theorem eq00 : cmpD .eq (.tuple []) (.tuple []) = some true := (eq_tI [] []).trans (by simp)
def HTurned (Cl : Call) : Prop := ∀ (p a b : Int) (P : List Int) (S : Store), 0 < p → Pt p P → Cl 10 [.d (tI [p, a, b]), .d (tI P)] S = some (.d (tI (tn p P)), S)
theorem hTurned (k : Nat) : HTurned (C (k+1)) := fun p a b P S hp hP => by
  rw [c10]
  rcases hP with rfl | ⟨x, y, rfl, _⟩
  · simp [d10, ev_var, ev_glob, ev_int, ev_bl, ev_non, ev_str, ev_bin, ev_neg, ev_not, ev_and, ev_or, ev_cmp, ev_chain, ev_ite, ev_ix, ev_slo, ev_shi, ev_rev, ev_tup, ev_lst, ev_b1, ev_b2, ev_isi, ev_call, ev_lcnt, ev_lidx, ev_dget, ev_dix, ev_din, ev_dkeys, evs_nil, evs_cons, evi_rng1, evi_rng2, evi_rng3, evi_seq, evi_zip, ex_asg, ex_thaw, ex_par, ex_aug, ex_seti, ex_augi, ex_if_, ex_ret, ex_app, ex_ext, ex_pop, ex_dnew, ex_dset, ex_dupd, ex_expr, ex_parG, ex_pass, exs_nil, exs_cons, ex_for_, ex_whl, ev_comp, binI_add, binI_sub, binI_mulL, binI_mulR, binI_div, binI_mod, bin_int, cmp_int, cmpI_eq, cmpI_ne, cmpI_lt, cmpI_le, cmpI_gt, cmpI_ge, view_d, viewS_d, viewS_scr, b1_len_list, b1_len_tuple, b1_int_int, b1_tuple_list, b1_list_list, b1_list_tuple, ix_list, ix_tuple, asg_name, asg_tupT, asg_tupL, asg_tupK, viewS_kt, globR_tup, globR_str, slR_d, slR_scr, slR_kt, dict_dic, key_int, asgs_nil, asgs_cons, back_rt, back_nx, st_F, te_W, bd_W, st_C0, st_C1, wipe_nil, wipe_cons, sets_nil, sets_cons, pures_nil, pures_cons, rng_n, seq_n, rng_get, seq_list, seq_tuple, seq_getT, seq_getL, seq_getS, rng_fin, start_eq, iL_len, iL_snoc, iL_nil, tn]
  · simp [d10, ev_var, ev_glob, ev_int, ev_bl, ev_non, ev_str, ev_bin, ev_neg, ev_not, ev_and, ev_or, ev_cmp, ev_chain, ev_ite, ev_ix, ev_slo, ev_shi, ev_rev, ev_tup, ev_lst, ev_b1, ev_b2, ev_isi, ev_call, ev_lcnt, ev_lidx, ev_dget, ev_dix, ev_din, ev_dkeys, evs_nil, evs_cons, evi_rng1, evi_rng2, evi_rng3, evi_seq, evi_zip, ex_asg, ex_thaw, ex_par, ex_aug, ex_seti, ex_augi, ex_if_, ex_ret, ex_app, ex_ext, ex_pop, ex_dnew, ex_dset, ex_dupd, ex_expr, ex_parG, ex_pass, exs_nil, exs_cons, ex_for_, ex_whl, ev_comp, binI_add, binI_sub, binI_mulL, binI_mulR, binI_div, binI_mod, bin_int, cmp_int, cmpI_eq, cmpI_ne, cmpI_lt, cmpI_le, cmpI_gt, cmpI_ge, view_d, viewS_d, viewS_scr, b1_len_list, b1_len_tuple, b1_int_int, b1_tuple_list, b1_list_list, b1_list_tuple, ix_list, ix_tuple, asg_name, asg_tupT, asg_tupL, asg_tupK, viewS_kt, globR_tup, globR_str, slR_d, slR_scr, slR_kt, dict_dic, key_int, asgs_nil, asgs_cons, back_rt, back_nx, st_F, te_W, bd_W, st_C0, st_C1, wipe_nil, wipe_cons, sets_nil, sets_cons, pures_nil, pures_cons, rng_n, seq_n, rng_get, seq_list, seq_tuple, seq_getT, seq_getL, seq_getS, rng_fin, start_eq, iL_len, iL_snoc, iL_nil, tn, iL_cons, L2.atI, L2.ixN, hp, szk]
theorem smI_mul {x y : Int} (h : x.natAbs < 1000000) (h2 : y.natAbs < 1000000) : smI (x * y) = true := by
  unfold smI
  refine decide_eq_true ?_
  rw [Int.natAbs_mul]
  have := Nat.mul_le_mul (Nat.le_of_lt h) (Nat.le_of_lt h2)
  omega
theorem sq_bd {x : Int} (h0 : 0 ≤ x) (h1 : x < 62) : 0 ≤ x * x ∧ x * x ≤ 3844 := ⟨Int.mul_nonneg h0 h0, by
  have := Int.mul_le_mul (show x ≤ 62 by omega) (show x ≤ 62 by omega) h0 (by omega)
  omega⟩
theorem smI_sl {p a x y z w : Int} (hp : p ∈ primes) (ha0 : 0 ≤ a) (ha : a < p) (x0 : 0 ≤ x) (x1 : x < p) (y0 : 0 ≤ y) (y1 : y < p) (w0 : 0 ≤ w) (w1 : w < p) : smI ((3 * x * x + a) * ivp p (2 * y)) = true ∧ smI ((w - y) * ivp p (z - x)) = true := by
  have hb := pr_bd p hp
  have i1 := ivp_bd hp (2 * y)
  have i2 := ivp_bd hp (z - x)
  have q := sq_bd x0 (by omega)
  have e : 3 * x * x = 3 * (x * x) := by grind
  refine ⟨smI_mul ?_ (by omega), smI_mul (by omega) (by omega)⟩
  rw [e]
  omega
def HAdded (Cl : Call) : Prop := ∀ (p a b : Int) (P Q : List Int) (S : Store), p ∈ primes → 0 ≤ a → a < p → Pt p P → Pt p Q → Cl 11 [.d (tI [p, a, b]), .d (tI P), .d (tI Q)] S = some (.d (tI (padd p a P Q)), S)
theorem added2 {Cl : Call} (hT : HTurned Cl) (hI : HInv Cl) (p a b x y z w : Int) (S : Store) (hp : p ∈ primes) (a0 : 0 ≤ a) (a1 : a < p) (x0 : 0 ≤ x) (x1 : x < p) (y0 : 0 ≤ y) (y1 : y < p) (z0 : 0 ≤ z) (z1 : z < p) (w0 : 0 ≤ w) (w1 : w < p) :
    back S.length (exSs Cl 1000000 d11.body (start d11.names.length [.d (.tuple [.int p, .int a, .int b]), .d (.tuple [.int x, .int y]), .d (.tuple [.int z, .int w])]) S) = some (.d (tI (padd p a [x, y] [z, w])), S) := by
  have hb := pr_bd p hp
  have hp0 : 0 < p := by omega
  have ht : ∀ S, Cl 10 [.d (.tuple [.int p, .int a, .int b]), .d (.tuple [.int x, .int y])] S = some (.d (.tuple [.int x, .int (-y % p)]), S) := fun S => hT p a b [x, y] S hp0 (.inr ⟨x, y, rfl, x0, x1, y0, y1⟩)
  have hi : ∀ n S, Cl 2 [.d (.int n), .d (.int p)] S = some (.d (.int (ivp p n)), S) := fun n S => hI n p S hp
  have sx : smI x = true := smI_of x0 (by omega)
  have hs := smI_sl (z := z) hp a0 a1 x0 x1 y0 y1 w0 w1
  by_cases h0 : z = x ∧ w = -y % p
  · simp (decide := true) [d11, ev_var, ev_glob, ev_int, ev_bl, ev_non, ev_str, ev_bin, ev_neg, ev_not, ev_and, ev_or, ev_cmp, ev_chain, ev_ite, ev_ix, ev_slo, ev_shi, ev_rev, ev_tup, ev_lst, ev_b1, ev_b2, ev_isi, ev_call, ev_lcnt, ev_lidx, ev_dget, ev_dix, ev_din, ev_dkeys, evs_nil, evs_cons, evi_rng1, evi_rng2, evi_rng3, evi_seq, evi_zip, ex_asg, ex_thaw, ex_par, ex_aug, ex_seti, ex_augi, ex_if_, ex_ret, ex_app, ex_ext, ex_pop, ex_dnew, ex_dset, ex_dupd, ex_expr, ex_parG, ex_pass, exs_nil, exs_cons, ex_for_, ex_whl, ev_comp, binI_add, binI_sub, binI_mulL, binI_mulR, binI_div, binI_mod, bin_int, cmp_int, cmpI_eq, cmpI_ne, cmpI_lt, cmpI_le, cmpI_gt, cmpI_ge, view_d, viewS_d, viewS_scr, b1_len_list, b1_len_tuple, b1_int_int, b1_tuple_list, b1_list_list, b1_list_tuple, ix_list, ix_tuple, asg_name, asg_tupT, asg_tupL, asg_tupK, viewS_kt, globR_tup, globR_str, slR_d, slR_scr, slR_kt, dict_dic, key_int, asgs_nil, asgs_cons, back_rt, back_nx, st_F, te_W, bd_W, st_C0, st_C1, wipe_nil, wipe_cons, sets_nil, sets_cons, pures_nil, pures_cons, rng_n, seq_n, rng_get, seq_list, seq_tuple, seq_getT, seq_getL, seq_getS, rng_fin, start_eq, iL_len, iL_snoc, iL_nil, ht, eq2, h0, padd, L2.atI, L2.ixN]
  · have s2 : smI 2 = true := by decide
    have s3 : smI 3 = true := by decide
    have e0 : padd p a [x, y] [z, w] = [px p a x y z w, py p a x y z w] := by simp only [padd, if_neg h0]
    rw [e0]
    by_cases h1 : x = z ∧ y = w
    · obtain ⟨rfl, rfl⟩ := h1
      have h0' : ¬ y = -y % p := fun e => h0 ⟨rfl, e⟩
      have e1 : sl p a x y x y = (3 * x * x + a) * ivp p (2 * y) := if_pos ⟨rfl, rfl⟩
      have i0 := ivp_bd hp (2 * y)
      have si : smI (ivp p (2 * y)) = true := smI_of i0.1 (by omega)
      have ht0 : 0 ≤ px p a x y x y := Int.emod_nonneg _ (by omega)
      have ht1 : px p a x y x y < p := Int.emod_lt_of_pos _ hp0
      have st : smI (x - px p a x y x y) = true := by unfold smI; exact decide_eq_true (by omega)
      unfold px at st
      rw [e1] at st
      simp (decide := true) [d11, ev_var, ev_glob, ev_int, ev_bl, ev_non, ev_str, ev_bin, ev_neg, ev_not, ev_and, ev_or, ev_cmp, ev_chain, ev_ite, ev_ix, ev_slo, ev_shi, ev_rev, ev_tup, ev_lst, ev_b1, ev_b2, ev_isi, ev_call, ev_lcnt, ev_lidx, ev_dget, ev_dix, ev_din, ev_dkeys, evs_nil, evs_cons, evi_rng1, evi_rng2, evi_rng3, evi_seq, evi_zip, ex_asg, ex_thaw, ex_par, ex_aug, ex_seti, ex_augi, ex_if_, ex_ret, ex_app, ex_ext, ex_pop, ex_dnew, ex_dset, ex_dupd, ex_expr, ex_parG, ex_pass, exs_nil, exs_cons, ex_for_, ex_whl, ev_comp, binI_add, binI_sub, binI_mulL, binI_mulR, binI_div, binI_mod, bin_int, cmp_int, cmpI_eq, cmpI_ne, cmpI_lt, cmpI_le, cmpI_gt, cmpI_ge, view_d, viewS_d, viewS_scr, b1_len_list, b1_len_tuple, b1_int_int, b1_tuple_list, b1_list_list, b1_list_tuple, ix_list, ix_tuple, asg_name, asg_tupT, asg_tupL, asg_tupK, viewS_kt, globR_tup, globR_str, slR_d, slR_scr, slR_kt, dict_dic, key_int, asgs_nil, asgs_cons, back_rt, back_nx, st_F, te_W, bd_W, st_C0, st_C1, wipe_nil, wipe_cons, sets_nil, sets_cons, pures_nil, pures_cons, rng_n, seq_n, rng_get, seq_list, seq_tuple, seq_getT, seq_getL, seq_getS, rng_fin, start_eq, iL_len, iL_snoc, iL_nil, ht, hi, eq2, h0', padd, L2.atI, L2.ixN, si, sx, szk, hp0, hs.1, py, px, e1, st, iL_cons]
    · have e1 : sl p a x y z w = (w - y) * ivp p (z - x) := if_neg h1
      have i0 := ivp_bd hp (z - x)
      have si : smI (ivp p (z - x)) = true := smI_of i0.1 (by omega)
      have ht0 : 0 ≤ px p a x y z w := Int.emod_nonneg _ (by omega)
      have ht1 : px p a x y z w < p := Int.emod_lt_of_pos _ hp0
      have st : smI (x - px p a x y z w) = true := by unfold smI; exact decide_eq_true (by omega)
      unfold px at st
      rw [e1] at st
      simp (decide := true) [d11, ev_var, ev_glob, ev_int, ev_bl, ev_non, ev_str, ev_bin, ev_neg, ev_not, ev_and, ev_or, ev_cmp, ev_chain, ev_ite, ev_ix, ev_slo, ev_shi, ev_rev, ev_tup, ev_lst, ev_b1, ev_b2, ev_isi, ev_call, ev_lcnt, ev_lidx, ev_dget, ev_dix, ev_din, ev_dkeys, evs_nil, evs_cons, evi_rng1, evi_rng2, evi_rng3, evi_seq, evi_zip, ex_asg, ex_thaw, ex_par, ex_aug, ex_seti, ex_augi, ex_if_, ex_ret, ex_app, ex_ext, ex_pop, ex_dnew, ex_dset, ex_dupd, ex_expr, ex_parG, ex_pass, exs_nil, exs_cons, ex_for_, ex_whl, ev_comp, binI_add, binI_sub, binI_mulL, binI_mulR, binI_div, binI_mod, bin_int, cmp_int, cmpI_eq, cmpI_ne, cmpI_lt, cmpI_le, cmpI_gt, cmpI_ge, view_d, viewS_d, viewS_scr, b1_len_list, b1_len_tuple, b1_int_int, b1_tuple_list, b1_list_list, b1_list_tuple, ix_list, ix_tuple, asg_name, asg_tupT, asg_tupL, asg_tupK, viewS_kt, globR_tup, globR_str, slR_d, slR_scr, slR_kt, dict_dic, key_int, asgs_nil, asgs_cons, back_rt, back_nx, st_F, te_W, bd_W, st_C0, st_C1, wipe_nil, wipe_cons, sets_nil, sets_cons, pures_nil, pures_cons, rng_n, seq_n, rng_get, seq_list, seq_tuple, seq_getT, seq_getL, seq_getS, rng_fin, start_eq, iL_len, iL_snoc, iL_nil, ht, hi, eq2, h0, h1, padd, L2.atI, L2.ixN, si, sx, szk, hp0, hs.2, py, px, e1, st, iL_cons]
theorem hAdded (k : Nat) : HAdded (C (k+2)) := fun p a b P Q S hp a0 a1 hP hQ => by
  rw [c11]
  refine (if_pos rfl).trans ?_
  rcases hP with rfl | ⟨x, y, rfl, x0, x1, y0, y1⟩
  · rcases hQ with rfl | ⟨z, w, rfl, z0, z1, w0, w1⟩
    · simp (decide := true) [d11, ev_var, ev_glob, ev_int, ev_bl, ev_non, ev_str, ev_bin, ev_neg, ev_not, ev_and, ev_or, ev_cmp, ev_chain, ev_ite, ev_ix, ev_slo, ev_shi, ev_rev, ev_tup, ev_lst, ev_b1, ev_b2, ev_isi, ev_call, ev_lcnt, ev_lidx, ev_dget, ev_dix, ev_din, ev_dkeys, evs_nil, evs_cons, evi_rng1, evi_rng2, evi_rng3, evi_seq, evi_zip, ex_asg, ex_thaw, ex_par, ex_aug, ex_seti, ex_augi, ex_if_, ex_ret, ex_app, ex_ext, ex_pop, ex_dnew, ex_dset, ex_dupd, ex_expr, ex_parG, ex_pass, exs_nil, exs_cons, ex_for_, ex_whl, ev_comp, binI_add, binI_sub, binI_mulL, binI_mulR, binI_div, binI_mod, bin_int, cmp_int, cmpI_eq, cmpI_ne, cmpI_lt, cmpI_le, cmpI_gt, cmpI_ge, view_d, viewS_d, viewS_scr, b1_len_list, b1_len_tuple, b1_int_int, b1_tuple_list, b1_list_list, b1_list_tuple, ix_list, ix_tuple, asg_name, asg_tupT, asg_tupL, asg_tupK, viewS_kt, globR_tup, globR_str, slR_d, slR_scr, slR_kt, dict_dic, key_int, asgs_nil, asgs_cons, back_rt, back_nx, st_F, te_W, bd_W, st_C0, st_C1, wipe_nil, wipe_cons, sets_nil, sets_cons, pures_nil, pures_cons, rng_n, seq_n, rng_get, seq_list, seq_tuple, seq_getT, seq_getL, seq_getS, rng_fin, start_eq, iL_len, iL_snoc, iL_nil, padd, binD, szk, iL]
    · simp (decide := true) [d11, ev_var, ev_glob, ev_int, ev_bl, ev_non, ev_str, ev_bin, ev_neg, ev_not, ev_and, ev_or, ev_cmp, ev_chain, ev_ite, ev_ix, ev_slo, ev_shi, ev_rev, ev_tup, ev_lst, ev_b1, ev_b2, ev_isi, ev_call, ev_lcnt, ev_lidx, ev_dget, ev_dix, ev_din, ev_dkeys, evs_nil, evs_cons, evi_rng1, evi_rng2, evi_rng3, evi_seq, evi_zip, ex_asg, ex_thaw, ex_par, ex_aug, ex_seti, ex_augi, ex_if_, ex_ret, ex_app, ex_ext, ex_pop, ex_dnew, ex_dset, ex_dupd, ex_expr, ex_parG, ex_pass, exs_nil, exs_cons, ex_for_, ex_whl, ev_comp, binI_add, binI_sub, binI_mulL, binI_mulR, binI_div, binI_mod, bin_int, cmp_int, cmpI_eq, cmpI_ne, cmpI_lt, cmpI_le, cmpI_gt, cmpI_ge, view_d, viewS_d, viewS_scr, b1_len_list, b1_len_tuple, b1_int_int, b1_tuple_list, b1_list_list, b1_list_tuple, ix_list, ix_tuple, asg_name, asg_tupT, asg_tupL, asg_tupK, viewS_kt, globR_tup, globR_str, slR_d, slR_scr, slR_kt, dict_dic, key_int, asgs_nil, asgs_cons, back_rt, back_nx, st_F, te_W, bd_W, st_C0, st_C1, wipe_nil, wipe_cons, sets_nil, sets_cons, pures_nil, pures_cons, rng_n, seq_n, rng_get, seq_list, seq_tuple, seq_getT, seq_getL, seq_getS, rng_fin, start_eq, iL_len, iL_snoc, iL_nil, padd, binD, szk, iL]
  · rcases hQ with rfl | ⟨z, w, rfl, z0, z1, w0, w1⟩
    · simp (decide := true) [d11, ev_var, ev_glob, ev_int, ev_bl, ev_non, ev_str, ev_bin, ev_neg, ev_not, ev_and, ev_or, ev_cmp, ev_chain, ev_ite, ev_ix, ev_slo, ev_shi, ev_rev, ev_tup, ev_lst, ev_b1, ev_b2, ev_isi, ev_call, ev_lcnt, ev_lidx, ev_dget, ev_dix, ev_din, ev_dkeys, evs_nil, evs_cons, evi_rng1, evi_rng2, evi_rng3, evi_seq, evi_zip, ex_asg, ex_thaw, ex_par, ex_aug, ex_seti, ex_augi, ex_if_, ex_ret, ex_app, ex_ext, ex_pop, ex_dnew, ex_dset, ex_dupd, ex_expr, ex_parG, ex_pass, exs_nil, exs_cons, ex_for_, ex_whl, ev_comp, binI_add, binI_sub, binI_mulL, binI_mulR, binI_div, binI_mod, bin_int, cmp_int, cmpI_eq, cmpI_ne, cmpI_lt, cmpI_le, cmpI_gt, cmpI_ge, view_d, viewS_d, viewS_scr, b1_len_list, b1_len_tuple, b1_int_int, b1_tuple_list, b1_list_list, b1_list_tuple, ix_list, ix_tuple, asg_name, asg_tupT, asg_tupL, asg_tupK, viewS_kt, globR_tup, globR_str, slR_d, slR_scr, slR_kt, dict_dic, key_int, asgs_nil, asgs_cons, back_rt, back_nx, st_F, te_W, bd_W, st_C0, st_C1, wipe_nil, wipe_cons, sets_nil, sets_cons, pures_nil, pures_cons, rng_n, seq_n, rng_get, seq_list, seq_tuple, seq_getT, seq_getL, seq_getS, rng_fin, start_eq, iL_len, iL_snoc, iL_nil, padd, binD, szk, iL]
    · exact added2 (hTurned k) (hInv k) p a b x y z w S hp a0 a1 x0 x1 y0 y1 z0 z1 w0 w1
end LAW
end
section
namespace LAW
open PC
/-! ### is it a point -/
def HWhole (Cl : Call) : Prop := ∀ (i : Int) (S : Store), Cl 0 [.d (.int i)] S = some (.d (.bool true), S)
theorem hWhole (k : Nat) : HWhole (C (k+1)) := fun i S => by
  rw [c0]
  simp (decide := true) [d0, ev_var, ev_glob, ev_int, ev_bl, ev_non, ev_str, ev_bin, ev_neg, ev_not, ev_and, ev_or, ev_cmp, ev_chain, ev_ite, ev_ix, ev_slo, ev_shi, ev_rev, ev_tup, ev_lst, ev_b1, ev_b2, ev_isi, ev_call, ev_lcnt, ev_lidx, ev_dget, ev_dix, ev_din, ev_dkeys, evs_nil, evs_cons, evi_rng1, evi_rng2, evi_rng3, evi_seq, evi_zip, ex_asg, ex_thaw, ex_par, ex_aug, ex_seti, ex_augi, ex_if_, ex_ret, ex_app, ex_ext, ex_pop, ex_dnew, ex_dset, ex_dupd, ex_expr, ex_parG, ex_pass, exs_nil, exs_cons, ex_for_, ex_whl, ev_comp, binI_add, binI_sub, binI_mulL, binI_mulR, binI_div, binI_mod, bin_int, cmp_int, cmpI_eq, cmpI_ne, cmpI_lt, cmpI_le, cmpI_gt, cmpI_ge, view_d, viewS_d, viewS_scr, b1_len_list, b1_len_tuple, b1_int_int, b1_tuple_list, b1_list_list, b1_list_tuple, ix_list, ix_tuple, asg_name, asg_tupT, asg_tupL, asg_tupK, viewS_kt, globR_tup, globR_str, slR_d, slR_scr, slR_kt, dict_dic, key_int, asgs_nil, asgs_cons, back_rt, back_nx, st_F, te_W, bd_W, st_C0, st_C1, wipe_nil, wipe_cons, sets_nil, sets_cons, pures_nil, pures_cons, rng_n, seq_n, rng_get, seq_list, seq_tuple, seq_getT, seq_getL, seq_getS, rng_fin, start_eq, iL_len, iL_snoc, iL_nil, isD]
def HWholes (Cl : Call) : Prop := ∀ (l : List Int) (m : Int) (S : Store), l.length < 1000 → Cl 1 [.d (tI l), .d (.int m)] S = some (.d (.bool (decide ((l.length : Int) = m))), S)
theorem bools_t : ∀ l : List Int, bools? (l.map fun _ => PySem.PyData.bool true) = some (l.map fun _ => true)
  | [] => rfl
  | _ :: l => by simp only [List.map_cons, bools?, bools_t l]
theorem wholes_ok {Cl : Call} (h : HWhole Cl) (l : List Int) (m : Int) (S : Store) (hl : l.length < 1000) : back S.length (exSs Cl 1000000 d1.body (start d1.names.length [.d (tI l), .d (.int m)]) S) = some (.d (.bool (decide ((l.length : Int) = m))), S) := by
  have e1 := ev_compL (C := Cl) (g := .name 2) (vs := [2]) (it := .seq (.var 0)) (hc := false) (c := .bl true) (e := .call 0 (.cons (.var 2) .nil)) (ρ := [some (.d (tI l)), some (.d (.int m)), none]) (s := S) (s1 := S) (J := .seq (.d (tI l)) l.length) l (fun _ => .bool true) (by simp [ev_var, ev_glob, ev_int, ev_bl, ev_non, ev_str, ev_bin, ev_neg, ev_not, ev_and, ev_or, ev_cmp, ev_chain, ev_ite, ev_ix, ev_slo, ev_shi, ev_rev, ev_tup, ev_lst, ev_b1, ev_b2, ev_isi, ev_call, ev_lcnt, ev_lidx, ev_dget, ev_dix, ev_din, ev_dkeys, evs_nil, evs_cons, evi_rng1, evi_rng2, evi_rng3, evi_seq, evi_zip, ex_asg, ex_thaw, ex_par, ex_aug, ex_seti, ex_augi, ex_if_, ex_ret, ex_app, ex_ext, ex_pop, ex_dnew, ex_dset, ex_dupd, ex_expr, ex_parG, ex_pass, exs_nil, exs_cons, ex_for_, ex_whl, ev_comp, binI_add, binI_sub, binI_mulL, binI_mulR, binI_div, binI_mod, bin_int, cmp_int, cmpI_eq, cmpI_ne, cmpI_lt, cmpI_le, cmpI_gt, cmpI_ge, view_d, viewS_d, viewS_scr, b1_len_list, b1_len_tuple, b1_int_int, b1_tuple_list, b1_list_list, b1_list_tuple, ix_list, ix_tuple, asg_name, asg_tupT, asg_tupL, asg_tupK, viewS_kt, globR_tup, globR_str, slR_d, slR_scr, slR_kt, dict_dic, key_int, asgs_nil, asgs_cons, back_rt, back_nx, st_F, te_W, bd_W, st_C0, st_C1, wipe_nil, wipe_cons, sets_nil, sets_cons, pures_nil, pures_cons, rng_n, seq_n, rng_get, seq_list, seq_tuple, seq_getT, seq_getL, seq_getS, rng_fin, start_eq, iL_len, iL_snoc, iL_nil]) rfl (by omega) (fun i acc hi => rfl) (fun acc => seq_fin rfl rfl (Nat.le_of_eq (iL_len _))) (fun x hx acc => by
    rw [st_C0, asg_name]
    simp only [wipe_cons, wipe_nil, List.set]
    rw [(call1 (C := Cl) (f := 0) (a := .var 2) (ρ := [some (.d (tI l)), some (.d (.int m)), some (.d (.int x))]) (s := (S ++ [Cell.lst acc] : Store)) (s1 := (S ++ [Cell.lst acc] : Store)) (va := .d (.int x)) (var_of rfl)).trans (h x _)])
  have e2 : evE Cl (.b1 .all (.comp (.name 2) [2] (.seq (.var 0)) false (.bl true) (.call 0 (.cons (.var 2) .nil)))) [some (.d (tI l)), some (.d (.int m)), none] S = some (.d (.bool true), S) := by
    refine b1_of e1 rfl ?_
    show (match bools? (l.map fun _ => PySem.PyData.bool true) with
      | some is => some (PySem.PyData.bool (is.all id))
      | none => none) = _
    rw [bools_t]
    simp
  rw [d1]
  refine (back_of (x := .bool (decide ((l.length : Int) = m))) (s := S) ?_).trans (by simp)
  refine rt_of (ret_of ?_)
  show evE Cl _ [some (.d (tI l)), some (.d (.int m)), none] S = _
  have e3 : evE Cl (.isi (.var 0) .tuple) [some (.d (tI l)), some (.d (.int m)), none] S = some (.d (.bool true), S) := by simp [ev_var, ev_glob, ev_int, ev_bl, ev_non, ev_str, ev_bin, ev_neg, ev_not, ev_and, ev_or, ev_cmp, ev_chain, ev_ite, ev_ix, ev_slo, ev_shi, ev_rev, ev_tup, ev_lst, ev_b1, ev_b2, ev_isi, ev_call, ev_lcnt, ev_lidx, ev_dget, ev_dix, ev_din, ev_dkeys, evs_nil, evs_cons, evi_rng1, evi_rng2, evi_rng3, evi_seq, evi_zip, ex_asg, ex_thaw, ex_par, ex_aug, ex_seti, ex_augi, ex_if_, ex_ret, ex_app, ex_ext, ex_pop, ex_dnew, ex_dset, ex_dupd, ex_expr, ex_parG, ex_pass, exs_nil, exs_cons, ex_for_, ex_whl, ev_comp, binI_add, binI_sub, binI_mulL, binI_mulR, binI_div, binI_mod, bin_int, cmp_int, cmpI_eq, cmpI_ne, cmpI_lt, cmpI_le, cmpI_gt, cmpI_ge, view_d, viewS_d, viewS_scr, b1_len_list, b1_len_tuple, b1_int_int, b1_tuple_list, b1_list_list, b1_list_tuple, ix_list, ix_tuple, asg_name, asg_tupT, asg_tupL, asg_tupK, viewS_kt, globR_tup, globR_str, slR_d, slR_scr, slR_kt, dict_dic, key_int, asgs_nil, asgs_cons, back_rt, back_nx, st_F, te_W, bd_W, st_C0, st_C1, wipe_nil, wipe_cons, sets_nil, sets_cons, pures_nil, pures_cons, rng_n, seq_n, rng_get, seq_list, seq_tuple, seq_getT, seq_getL, seq_getS, rng_fin, start_eq, iL_len, iL_snoc, iL_nil, isD]
  have e4 : evE Cl (.cmp .eq (.b1 .len (.var 0)) (.var 1)) [some (.d (tI l)), some (.d (.int m)), none] S = some (.d (.bool (decide ((l.length : Int) = m))), S) := by simp [ev_var, ev_glob, ev_int, ev_bl, ev_non, ev_str, ev_bin, ev_neg, ev_not, ev_and, ev_or, ev_cmp, ev_chain, ev_ite, ev_ix, ev_slo, ev_shi, ev_rev, ev_tup, ev_lst, ev_b1, ev_b2, ev_isi, ev_call, ev_lcnt, ev_lidx, ev_dget, ev_dix, ev_din, ev_dkeys, evs_nil, evs_cons, evi_rng1, evi_rng2, evi_rng3, evi_seq, evi_zip, ex_asg, ex_thaw, ex_par, ex_aug, ex_seti, ex_augi, ex_if_, ex_ret, ex_app, ex_ext, ex_pop, ex_dnew, ex_dset, ex_dupd, ex_expr, ex_parG, ex_pass, exs_nil, exs_cons, ex_for_, ex_whl, ev_comp, binI_add, binI_sub, binI_mulL, binI_mulR, binI_div, binI_mod, bin_int, cmp_int, cmpI_eq, cmpI_ne, cmpI_lt, cmpI_le, cmpI_gt, cmpI_ge, view_d, viewS_d, viewS_scr, b1_len_list, b1_len_tuple, b1_int_int, b1_tuple_list, b1_list_list, b1_list_tuple, ix_list, ix_tuple, asg_name, asg_tupT, asg_tupL, asg_tupK, viewS_kt, globR_tup, globR_str, slR_d, slR_scr, slR_kt, dict_dic, key_int, asgs_nil, asgs_cons, back_rt, back_nx, st_F, te_W, bd_W, st_C0, st_C1, wipe_nil, wipe_cons, sets_nil, sets_cons, pures_nil, pures_cons, rng_n, seq_n, rng_get, seq_list, seq_tuple, seq_getT, seq_getL, seq_getS, rng_fin, start_eq, iL_len, iL_snoc, iL_nil]
  rw [ev_and, e3]
  simp only []
  rw [ev_and, e4]
  by_cases hm : (l.length : Int) = m
  · rw [decide_eq_true hm]
    exact e2
  · rw [decide_eq_false hm]
theorem hWholes (k : Nat) : HWholes (C (k+2)) := fun l m S hl => by
  rw [c1]
  exact wholes_ok (hWhole k) l m S hl
def HIsPt (Cl : Call) : Prop := ∀ (p a b : Int) (P : List Int) (S : Store), p ∈ primes → On p a b P → Cl 4 [.d (tI [p, a, b]), .d (tI P)] S = some (.d (.bool true), S)
theorem hIsPt (k : Nat) : HIsPt (C (k+3)) := fun p a b P S hp hP => by
  rw [c4]
  refine (if_pos rfl).trans ?_
  have hb := pr_bd p hp
  have hp0 : 0 < p := by omega
  rcases hP with rfl | ⟨x, y, rfl, x0, x1, y0, y1, he⟩
  · simp (decide := true) [d4, ev_var, ev_glob, ev_int, ev_bl, ev_non, ev_str, ev_bin, ev_neg, ev_not, ev_and, ev_or, ev_cmp, ev_chain, ev_ite, ev_ix, ev_slo, ev_shi, ev_rev, ev_tup, ev_lst, ev_b1, ev_b2, ev_isi, ev_call, ev_lcnt, ev_lidx, ev_dget, ev_dix, ev_din, ev_dkeys, evs_nil, evs_cons, evi_rng1, evi_rng2, evi_rng3, evi_seq, evi_zip, ex_asg, ex_thaw, ex_par, ex_aug, ex_seti, ex_augi, ex_if_, ex_ret, ex_app, ex_ext, ex_pop, ex_dnew, ex_dset, ex_dupd, ex_expr, ex_parG, ex_pass, exs_nil, exs_cons, ex_for_, ex_whl, ev_comp, binI_add, binI_sub, binI_mulL, binI_mulR, binI_div, binI_mod, bin_int, cmp_int, cmpI_eq, cmpI_ne, cmpI_lt, cmpI_le, cmpI_gt, cmpI_ge, view_d, viewS_d, viewS_scr, b1_len_list, b1_len_tuple, b1_int_int, b1_tuple_list, b1_list_list, b1_list_tuple, ix_list, ix_tuple, asg_name, asg_tupT, asg_tupL, asg_tupK, viewS_kt, globR_tup, globR_str, slR_d, slR_scr, slR_kt, dict_dic, key_int, asgs_nil, asgs_cons, back_rt, back_nx, st_F, te_W, bd_W, st_C0, st_C1, wipe_nil, wipe_cons, sets_nil, sets_cons, pures_nil, pures_cons, rng_n, seq_n, rng_get, seq_list, seq_tuple, seq_getT, seq_getL, seq_getS, rng_fin, start_eq, iL_len, iL_snoc, iL_nil, isD, iL]
  · have sx : smI x = true := smI_of x0 (by omega)
    have sy : smI y = true := smI_of y0 (by omega)
    have hw : ∀ S, C (k+2) 1 [.d (.tuple [.int x, .int y]), .d (.int 2)] S = some (.d (.bool true), S) := fun S => hWholes k [x, y] 2 S (Nat.lt_of_sub_eq_succ rfl)
    have hr : ∀ S, C (k+2) 3 [.d (.tuple [.int p, .int a, .int b]), .d (.int x)] S = some (.d (.int (rsd p a b x)), S) := fun S => hRight (k+1) p a b x S hp0 sx
    show back S.length (exSs (C (k+2)) 1000000 d4.body (start d4.names.length [.d (.tuple [.int p, .int a, .int b]), .d (.tuple [.int x, .int y])]) S) = _
    simp (decide := true) [d4, ev_var, ev_glob, ev_int, ev_bl, ev_non, ev_str, ev_bin, ev_neg, ev_not, ev_and, ev_or, ev_cmp, ev_chain, ev_ite, ev_ix, ev_slo, ev_shi, ev_rev, ev_tup, ev_lst, ev_b1, ev_b2, ev_isi, ev_call, ev_lcnt, ev_lidx, ev_dget, ev_dix, ev_din, ev_dkeys, evs_nil, evs_cons, evi_rng1, evi_rng2, evi_rng3, evi_seq, evi_zip, ex_asg, ex_thaw, ex_par, ex_aug, ex_seti, ex_augi, ex_if_, ex_ret, ex_app, ex_ext, ex_pop, ex_dnew, ex_dset, ex_dupd, ex_expr, ex_parG, ex_pass, exs_nil, exs_cons, ex_for_, ex_whl, ev_comp, binI_add, binI_sub, binI_mulL, binI_mulR, binI_div, binI_mod, bin_int, cmp_int, cmpI_eq, cmpI_ne, cmpI_lt, cmpI_le, cmpI_gt, cmpI_ge, view_d, viewS_d, viewS_scr, b1_len_list, b1_len_tuple, b1_int_int, b1_tuple_list, b1_list_list, b1_list_tuple, ix_list, ix_tuple, asg_name, asg_tupT, asg_tupL, asg_tupK, viewS_kt, globR_tup, globR_str, slR_d, slR_scr, slR_kt, dict_dic, key_int, asgs_nil, asgs_cons, back_rt, back_nx, st_F, te_W, bd_W, st_C0, st_C1, wipe_nil, wipe_cons, sets_nil, sets_cons, pures_nil, pures_cons, rng_n, seq_n, rng_get, seq_list, seq_tuple, seq_getT, seq_getL, seq_getS, rng_fin, start_eq, iL_len, iL_snoc, iL_nil, isD, hw, hr, L2.atI, L2.ixN, x0, x1, y0, y1, hp0, sy, he]
def HNeed (Cl : Call) : Prop := ∀ (p a b : Int) (P Q : List Int) (S : Store), p ∈ primes → On p a b P → On p a b Q → Cl 9 [.d (tI [p, a, b]), .d (.tuple [tI P, tI Q])] S = some (.d .none, S)
theorem hNeed (k : Nat) : HNeed (C (k+4)) := fun p a b P Q S hp hP hQ => by
  rw [c9]
  refine (if_pos rfl).trans ?_
  have h1 := fun S => hIsPt k p a b P S hp hP
  have h2 := fun S => hIsPt k p a b Q S hp hQ
  have step : ∀ (R : List Int) (z : Option PC.R), On p a b R → stepF (C (k+3)) 1000000 (.name 2) (.cons (.if_ (.not (.call 4 (.cons (.var 0) (.cons (.var 2) .nil)))) (.cons .dead .nil) .nil) .nil) (tI R) [some (.d (tI [p, a, b])), some (.d (.tuple [tI P, tI Q])), z] S = some (.nx [some (.d (tI [p, a, b])), some (.d (.tuple [tI P, tI Q])), some (.d (tI R))] S) := fun R z hR => by
    have e := hIsPt k p a b R S hp hR
    rw [st_F, asg_name]
    simp only [List.set]
    refine (nx_of ((if_f (s1 := S) ?_).trans (exs_nil _ _ _ _))).trans (exs_nil _ _ _ _)
    rw [ev_not, (call2 (s1 := S) (s2 := S) (va := .d (tI [p, a, b])) (vb := .d (tI R)) (var_of rfl) (var_of rfl)).trans e]
    rfl
  have e5 : forN (.seq (.d (.tuple [tI P, tI Q])) 2) (stepF (C (k+3)) 1000000 (.name 2) (.cons (.if_ (.not (.call 4 (.cons (.var 0) (.cons (.var 2) .nil)))) (.cons .dead .nil) .nil) .nil)) 2 0 [some (.d (tI [p, a, b])), some (.d (.tuple [tI P, tI Q])), none] S = some (.nx [some (.d (tI [p, a, b])), some (.d (.tuple [tI P, tI Q])), some (.d (tI Q))] S) := by
    have g0 : (Items.seq (.d (.tuple [tI P, tI Q])) 2).get 0 S = some (tI P) := rfl
    have g1 : (Items.seq (.d (.tuple [tI P, tI Q])) 2).get 1 S = some (tI Q) := rfl
    have g2 : (Items.seq (.d (.tuple [tI P, tI Q])) 2).fin S = true := rfl
    unfold forN
    rw [g0]
    simp only []
    rw [step P none hP]
    simp only []
    unfold forN
    rw [g1]
    simp only []
    rw [step Q _ hQ]
    simp only []
    unfold forN
    rw [g2]
    rfl
  have e6 : exSs (C (k+3)) 1000000 d9.body (start d9.names.length [.d (tI [p, a, b]), .d (.tuple [tI P, tI Q])]) S = some (.nx [some (.d (tI [p, a, b])), some (.d (.tuple [tI P, tI Q])), some (.d (tI Q))] S) := by
    refine (nx_of (for_of (J := .seq (.d (.tuple [tI P, tI Q])) 2) (s1 := S) ?_ e5)).trans (exs_nil _ _ _ _)
    rw [evi_seq, var_of (r := .d (.tuple [tI P, tI Q])) rfl]
    rfl
  rw [e6]
  simp [back_nx]
def HSum (Cl : Call) : Prop := ∀ (p a b : Int) (P Q : List Int) (S : Store), p ∈ primes → 0 ≤ a → a < p → On p a b P → On p a b Q → Cl 12 [.d (tI [p, a, b]), .d (tI P), .d (tI Q)] S = some (.d (tI (padd p a P Q)), S)
theorem hSum (k : Nat) : HSum (C (k+5)) := fun p a b P Q S hp a0 a1 hP hQ => by
  rw [c12]
  refine (if_pos rfl).trans ?_
  have e1 := hNeed k p a b P Q S hp hP hQ
  have e2 := hAdded (k+2) p a b P Q S hp a0 a1 hP.pt hQ.pt
  have et : evE (C (k+4)) (.tup (.cons (.var 1) (.cons (.var 2) .nil))) [some (.d (tI [p, a, b])), some (.d (tI P)), some (.d (tI Q))] S = some (.d (.tuple [tI P, tI Q]), S) := by simp [ev_var, ev_glob, ev_int, ev_bl, ev_non, ev_str, ev_bin, ev_neg, ev_not, ev_and, ev_or, ev_cmp, ev_chain, ev_ite, ev_ix, ev_slo, ev_shi, ev_rev, ev_tup, ev_lst, ev_b1, ev_b2, ev_isi, ev_call, ev_lcnt, ev_lidx, ev_dget, ev_dix, ev_din, ev_dkeys, evs_nil, evs_cons, evi_rng1, evi_rng2, evi_rng3, evi_seq, evi_zip, ex_asg, ex_thaw, ex_par, ex_aug, ex_seti, ex_augi, ex_if_, ex_ret, ex_app, ex_ext, ex_pop, ex_dnew, ex_dset, ex_dupd, ex_expr, ex_parG, ex_pass, exs_nil, exs_cons, ex_for_, ex_whl, ev_comp, binI_add, binI_sub, binI_mulL, binI_mulR, binI_div, binI_mod, bin_int, cmp_int, cmpI_eq, cmpI_ne, cmpI_lt, cmpI_le, cmpI_gt, cmpI_ge, view_d, viewS_d, viewS_scr, b1_len_list, b1_len_tuple, b1_int_int, b1_tuple_list, b1_list_list, b1_list_tuple, ix_list, ix_tuple, asg_name, asg_tupT, asg_tupL, asg_tupK, viewS_kt, globR_tup, globR_str, slR_d, slR_scr, slR_kt, dict_dic, key_int, asgs_nil, asgs_cons, back_rt, back_nx, st_F, te_W, bd_W, st_C0, st_C1, wipe_nil, wipe_cons, sets_nil, sets_cons, pures_nil, pures_cons, rng_n, seq_n, rng_get, seq_list, seq_tuple, seq_getT, seq_getL, seq_getS, rng_fin, start_eq, iL_len, iL_snoc, iL_nil, szk]
  refine (back_of (x := tI (padd p a P Q)) (s := S) ?_).trans (by simp)
  refine (nx_of (ρ' := [some (.d (tI [p, a, b])), some (.d (tI P)), some (.d (tI Q))]) (s1 := S) ?_).trans (rt_of (ret_of ((call3 (s1 := S) (s2 := S) (s3 := S) (va := .d (tI [p, a, b])) (vb := .d (tI P)) (vc := .d (tI Q)) (var_of rfl) (var_of rfl) (var_of rfl)).trans e2)))
  have e3 := (call2 (C := C (k+4)) (f := 9) (ρ := [some (.d (tI [p, a, b])), some (.d (tI P)), some (.d (tI Q))]) (a := .var 0) (s := S) (s1 := S) (s2 := S) (va := .d (tI [p, a, b])) (var_of rfl) et).trans e1
  show exS _ _ (.expr _) [some (.d (tI [p, a, b])), some (.d (tI P)), some (.d (tI Q))] S = _
  rw [ex_expr, e3]
end LAW
end
section
namespace LAW
open PC
/-! ### the law's own sums -/
def rr (p : Int) : List Int := (List.range (p - 1).toNat).map fun i : Nat => 1 + (i : Int)
theorem rr_len (p : Int) : (rr p).length = (p - 1).toNat := by simp [rr]
theorem rr_get (p : Int) (i : Nat) (S : Store) (h : i < (rr p).length) : (Items.rng 1 1 (p - 1).toNat).get i S = (iL (rr p))[i]? := by
  rw [rr_len] at h
  rw [rng_get, iL_get]
  have e : (rr p)[i]? = some (1 + (i : Int)) := by
    unfold rr
    rw [List.getElem?_map, List.getElem?_range h]
    rfl
  rw [e]
  simp
theorem rr_mem {p x : Int} : x ∈ rr p ↔ 0 < x ∧ x < p := by
  unfold rr
  rw [List.mem_map]
  constructor
  · rintro ⟨i, hi, rfl⟩
    have := List.mem_range.mp hi
    omega
  · rintro ⟨h0, h1⟩
    exact ⟨(x - 1).toNat, List.mem_range.mpr (by omega), by omega⟩
theorem rng2_ok {Cl : Call} {b : E} {ρ : Env} {s : Store} {p : Int} (h : evE Cl b ρ s = some (.d (.int p), s)) (h0 : 0 < p) (h1 : p < 1000) : evIt Cl (.rng2 (.int 1) b) ρ s = some (.rng 1 1 (p - 1).toNat, s) := by
  rw [evi_rng2, ev_int]
  simp only []
  rw [h]
  simp only []
  have r1 : rngOk 1 = true := rfl
  have r2 : rngOk p = true := by
    have := rngOk_nat (n := p.toNat) (by omega)
    have e : ((p.toNat : Nat) : Int) = p := by omega
    rwa [e] at this
  rw [r1, r2]
  rfl
/-- what a filtering comprehension over 1 .. p - 1 gives -/
theorem comp_rr {Cl : Call} {b c : E} {i : Nat} {ρ : Env} {s : Store} {p : Int} (f : Int → Bool) (h : evE Cl b ρ s = some (.d (.int p), s)) (h0 : 0 < p) (h1 : p < 1000) (hi : i < ρ.length)
    (hstep : ∀ x, 0 < x → x < p → ∀ acc, evE Cl c ((wipeE ρ [i]).set i (some (.d (.int x)))) (s ++ [.lst acc]) = some (.d (.bool (f x)), s ++ [.lst acc])) :
    evE Cl (.comp (.name i) [i] (.rng2 (.int 1) b) true c (.var i)) ρ s = some (.d (lI ((rr p).filter f)), s) := by
  have e1 := ev_compF (C := Cl) (g := .name i) (vs := [i]) (it := .rng2 (.int 1) b) (hc := true) (c := c) (e := .var i) (ρ := ρ) (s := s) (s1 := s) (J := .rng 1 1 (p - 1).toNat) (rr p) (fun x => if f x = true then some (.int x) else none) (rng2_ok h h0 h1) (rr_len p).symm (by rw [rr_len]; omega) (fun i acc hi => rr_get _ _ _ hi) (fun acc => rfl) (fun x hx acc => by
    obtain ⟨q0, q1⟩ := rr_mem.mp hx
    rw [st_C1, asg_name]
    simp only []
    rw [hstep x q0 q1 acc]
    by_cases hf : f x = true
    · rw [hf]
      simp only [if_true]
      rw [var_of (r := .d (.int x))]
      rw [List.getElem?_set_self]
      simpa [wipe_cons, wipe_nil] using hi
    · have hf' : f x = false := by simpa using hf
      rw [hf']
      simp)
  rw [e1]
  have e2 : ∀ l : List Int, l.filterMap (fun x => if f x = true then some (PySem.PyData.int x) else none) = iL (l.filter f) := by
    intro l
    induction l with
    | nil => rfl
    | cons x l ih =>
      rw [List.filterMap_cons, List.filter_cons]
      by_cases hf : f x = true
      · simp only [hf, if_true, iL_cons, ih]
      · simp only [hf, if_false, ih]
        rfl
  rw [e2]
def ovl (p n : Int) : List Int := (rr p).filter fun k => decide (k * n % p = 1)
theorem ovl_mod (p n : Int) : ovl p (n % p) = ovl p n := by
  unfold ovl
  congr 1
  funext k
  have : k * (n % p) % p = k * n % p := (Cg.refl p k).mul (Cg.modl (Cg.refl p n))
  rw [this]
theorem ovl_ok {p n : Int} (hp : p ∈ primes) (h : n % p ≠ 0) : (ovl p n)[0]? = some (ivp p n) := by
  have hb := pr_bd p hp
  have hi := ivp_ok hp h
  have hbd := ivp_bd hp n
  have hm : ivp p n ∈ ovl p n := by
    refine List.mem_filter.mpr ⟨rr_mem.mpr ⟨?_, hbd.2⟩, decide_eq_true ?_⟩
    · have : ivp p n ≠ 0 := fun e => by
        rw [e, Int.mul_zero] at hi
        have hi' : (0 : Int) % p = 1 % p := hi
        rw [one_mod hp, zero_mod] at hi'
        cases hi'
      omega
    · rw [Int.mul_comm, ← one_mod hp]
      exact hi
  cases ho : ovl p n with
  | nil => rw [ho] at hm; cases hm
  | cons k r =>
    have hk : k ∈ ovl p n := by rw [ho]; exact List.mem_cons_self
    obtain ⟨k1, k2⟩ := List.mem_filter.mp hk
    have k3 := rr_mem.mp k1
    have k4 := of_decide_eq_true k2
    have : k = ivp p n := Cg.red (ivp_uniq hp (by rw [Int.mul_comm]; show _ % p = 1 % p; rw [k4, one_mod hp])) (by omega) k3.2 hbd.1 hbd.2
    rw [this]
    rfl
def HOver (Cl : Call) : Prop := ∀ (n p : Int) (S : Store), p ∈ primes → n % p ≠ 0 → Cl 28 [.d (.int n), .d (.int p)] S = some (.d (.int (ivp p n)), S)
theorem hOver (k : Nat) : HOver (C (k+1)) := fun n p S hp hn => by
  have hb := pr_bd p hp
  have hp0 : 0 < p := by omega
  rw [c28]
  refine (if_pos rfl).trans ?_
  have e1 := comp_rr (Cl := C k) (b := .var 1) (c := .cmp .eq (.bin .mod (.b1 .int (.bin .mul (.var 2) (.var 0))) (.var 1)) (.int 1)) (i := 2) (ρ := [some (.d (.int n)), some (.d (.int p)), none]) (s := S) (p := p) (fun k => decide (k * n % p = 1)) (var_of rfl) hp0 (by omega) (by simp) (fun x x0 x1 acc => by
    have sx : smI x = true := smI_of (by omega) (by omega)
    simp [ev_var, ev_glob, ev_int, ev_bl, ev_non, ev_str, ev_bin, ev_neg, ev_not, ev_and, ev_or, ev_cmp, ev_chain, ev_ite, ev_ix, ev_slo, ev_shi, ev_rev, ev_tup, ev_lst, ev_b1, ev_b2, ev_isi, ev_call, ev_lcnt, ev_lidx, ev_dget, ev_dix, ev_din, ev_dkeys, evs_nil, evs_cons, evi_rng1, evi_rng2, evi_rng3, evi_seq, evi_zip, ex_asg, ex_thaw, ex_par, ex_aug, ex_seti, ex_augi, ex_if_, ex_ret, ex_app, ex_ext, ex_pop, ex_dnew, ex_dset, ex_dupd, ex_expr, ex_parG, ex_pass, exs_nil, exs_cons, ex_for_, ex_whl, ev_comp, binI_add, binI_sub, binI_mulL, binI_mulR, binI_div, binI_mod, bin_int, cmp_int, cmpI_eq, cmpI_ne, cmpI_lt, cmpI_le, cmpI_gt, cmpI_ge, view_d, viewS_d, viewS_scr, b1_len_list, b1_len_tuple, b1_int_int, b1_tuple_list, b1_list_list, b1_list_tuple, ix_list, ix_tuple, asg_name, asg_tupT, asg_tupL, asg_tupK, viewS_kt, globR_tup, globR_str, slR_d, slR_scr, slR_kt, dict_dic, key_int, asgs_nil, asgs_cons, back_rt, back_nx, st_F, te_W, bd_W, st_C0, st_C1, wipe_nil, wipe_cons, sets_nil, sets_cons, pures_nil, pures_cons, rng_n, seq_n, rng_get, seq_list, seq_tuple, seq_getT, seq_getL, seq_getS, rng_fin, start_eq, iL_len, iL_snoc, iL_nil, sx, hp0])
  have e2 : ixD (lI (ovl p n)) (.int 0) = some (.int (ivp p n)) := atI_nat (xs := iL (ovl p n)) (i := 0) (x := .int (ivp p n)) (by rw [iL_get, ovl_ok hp hn]; rfl)
  refine (back_of (x := .int (ivp p n)) (s := S) (rt_of (ret_of (ix_of (rb := .d (.int 0)) (s2 := S) e1 (ev_int _ _ _ _) rfl rfl e2)))).trans (by simp)
theorem turn_iff {p y w : Int} (y0 : 0 ≤ y) (y1 : y < p) (w0 : 0 ≤ w) (w1 : w < p) : (y + w) % p = 0 ↔ w = -y % p := by
  have hp0 : 0 < p := by omega
  constructor
  · intro h
    have h' : Cg p (y + w) 0 := cg0_iff.mpr h
    have : Cg p w (-y % p) := by
      refine Cg.trans ?_ (Cg.modl (Cg.refl p (-y))).symm
      have := h'.sub (Cg.refl p y)
      exact (Cg.of_eq (by omega)).trans (this.trans (Cg.of_eq (by omega)))
    exact this.red w0 w1 (Int.emod_nonneg _ (by omega)) (Int.emod_lt_of_pos _ hp0)
  · intro h
    rw [h]
    refine cg0_iff.mp ?_
    have := (Cg.refl p y).add (Cg.modl (Cg.refl p (-y)))
    exact this.trans (Cg.of_eq (by omega))
theorem eqT0 (P : List Int) : cmpD .eq (tI P) (.tuple []) = some (decide (P = [])) := eq_tI P []
def HLAdd (Cl : Call) : Prop := ∀ (p a b : Int) (P Q : List Int) (S : Store), p ∈ primes → 0 ≤ a → a < p → On p a b P → On p a b Q → Cl 29 [.d (tI [p, a, b]), .d (tI P), .d (tI Q)] S = some (.d (tI (padd p a P Q)), S)
theorem two_ne {p : Int} (hp : p ∈ primes) : (2 : Int) % p ≠ 0 := by
  have := pr_bd p hp
  rw [Int.emod_eq_of_lt (by omega) (by omega)]
  decide
/-- no division by what p divides -/
theorem two_y {p y : Int} (hp : p ∈ primes) (y0 : 0 ≤ y) (y1 : y < p) (h : ¬ y = -y % p) : (2 * y) % p ≠ 0 := fun e => by
  rcases cg_zero hp (cg0_iff.mpr e) with h2 | h2
  · exact two_ne hp h2
  · rw [Int.emod_eq_of_lt y0 y1] at h2
    subst h2
    exact h (by simp)
theorem diff_x {p a b x y z w : Int} (hp : p ∈ primes) (x0 : 0 ≤ x) (x1 : x < p) (y0 : 0 ≤ y) (y1 : y < p) (z0 : 0 ≤ z) (z1 : z < p) (w0 : 0 ≤ w) (w1 : w < p) (he : y * y % p = rsd p a b x) (he2 : w * w % p = rsd p a b z) (h0 : ¬ (z = x ∧ w = -y % p)) (h1 : ¬ (x = z ∧ y = w)) : (z - x) % p ≠ 0 := fun e => by
  have ex : z = x := Cg.red (Cg.iff0.mpr (cg0_iff.mpr e)) z0 z1 x0 x1
  subst ex
  have h : Cg p (w * w) (y * y) := he2.trans he.symm
  have h2 : Cg p ((w - y) * (w + y)) 0 := (Cg.of_eq (by grind)).trans (Cg.iff0.mp h)
  rcases cg_zero hp h2 with q | q
  · exact h1 ⟨rfl, (Cg.red (Cg.iff0.mpr (cg0_iff.mpr q)) w0 w1 y0 y1).symm⟩
  · exact h0 ⟨rfl, (turn_iff y0 y1 w0 w1).mp (by rw [Int.add_comm]; exact q)⟩
theorem ladd2 {Cl : Call} (hO : HOver Cl) (p a b x y z w : Int) (S : Store) (hp : p ∈ primes) (a0 : 0 ≤ a) (a1 : a < p) (x0 : 0 ≤ x) (x1 : x < p) (y0 : 0 ≤ y) (y1 : y < p) (z0 : 0 ≤ z) (z1 : z < p) (w0 : 0 ≤ w) (w1 : w < p) (he : y * y % p = rsd p a b x) (he2 : w * w % p = rsd p a b z) :
    back S.length (exSs Cl 1000000 d29.body (start d29.names.length [.d (.tuple [.int p, .int a, .int b]), .d (.tuple [.int x, .int y]), .d (.tuple [.int z, .int w])]) S) = some (.d (tI (padd p a [x, y] [z, w])), S) := by
  have hb := pr_bd p hp
  have hp0 : 0 < p := by omega
  have sx : smI x = true := smI_of x0 (by omega)
  have hs := smI_sl (z := z) hp a0 a1 x0 x1 y0 y1 w0 w1
  have ti := turn_iff y0 y1 w0 w1
  have s2 : smI 2 = true := by decide
  have s3 : smI 3 = true := by decide
  by_cases h0 : z = x ∧ w = -y % p
  · have q := ti.mpr h0.2
    have h00 := h0.1
    subst h00
    have e0 : padd p a [z, y] [z, w] = [] := if_pos h0
    rw [e0]
    simp (decide := true) [d29, ev_var, ev_glob, ev_int, ev_bl, ev_non, ev_str, ev_bin, ev_neg, ev_not, ev_and, ev_or, ev_cmp, ev_chain, ev_ite, ev_ix, ev_slo, ev_shi, ev_rev, ev_tup, ev_lst, ev_b1, ev_b2, ev_isi, ev_call, ev_lcnt, ev_lidx, ev_dget, ev_dix, ev_din, ev_dkeys, evs_nil, evs_cons, evi_rng1, evi_rng2, evi_rng3, evi_seq, evi_zip, ex_asg, ex_thaw, ex_par, ex_aug, ex_seti, ex_augi, ex_if_, ex_ret, ex_app, ex_ext, ex_pop, ex_dnew, ex_dset, ex_dupd, ex_expr, ex_parG, ex_pass, exs_nil, exs_cons, ex_for_, ex_whl, ev_comp, binI_add, binI_sub, binI_mulL, binI_mulR, binI_div, binI_mod, bin_int, cmp_int, cmpI_eq, cmpI_ne, cmpI_lt, cmpI_le, cmpI_gt, cmpI_ge, view_d, viewS_d, viewS_scr, b1_len_list, b1_len_tuple, b1_int_int, b1_tuple_list, b1_list_list, b1_list_tuple, ix_list, ix_tuple, asg_name, asg_tupT, asg_tupL, asg_tupK, viewS_kt, globR_tup, globR_str, slR_d, slR_scr, slR_kt, dict_dic, key_int, asgs_nil, asgs_cons, back_rt, back_nx, st_F, te_W, bd_W, st_C0, st_C1, wipe_nil, wipe_cons, sets_nil, sets_cons, pures_nil, pures_cons, rng_n, seq_n, rng_get, seq_list, seq_tuple, seq_getT, seq_getL, seq_getS, rng_fin, start_eq, iL_len, iL_snoc, iL_nil, eq20, eq2, q, L2.atI, L2.ixN, hp0, iL_nil]
  · have e0 : padd p a [x, y] [z, w] = [px p a x y z w, py p a x y z w] := by simp only [padd, if_neg h0]
    rw [e0]
    by_cases h1 : x = z ∧ y = w
    · obtain ⟨rfl, rfl⟩ := h1
      have h0' : ¬ y = -y % p := fun e => h0 ⟨rfl, e⟩
      have q : ¬ (y + y) % p = 0 := fun e => h0' (ti.mp e)
      have hi : ∀ S, Cl 28 [.d (.int (2 * y)), .d (.int p)] S = some (.d (.int (ivp p (2 * y))), S) := fun S => hO _ p S hp (two_y hp y0 y1 h0')
      have e1 : sl p a x y x y = (3 * x * x + a) * ivp p (2 * y) := if_pos ⟨rfl, rfl⟩
      have i0 := ivp_bd hp (2 * y)
      have si : smI (ivp p (2 * y)) = true := smI_of i0.1 (by omega)
      have ht0 : 0 ≤ px p a x y x y := Int.emod_nonneg _ (by omega)
      have ht1 : px p a x y x y < p := Int.emod_lt_of_pos _ hp0
      have st : smI (x - px p a x y x y) = true := by unfold smI; exact decide_eq_true (by omega)
      unfold px at st
      rw [e1] at st
      simp (decide := true) [d29, ev_var, ev_glob, ev_int, ev_bl, ev_non, ev_str, ev_bin, ev_neg, ev_not, ev_and, ev_or, ev_cmp, ev_chain, ev_ite, ev_ix, ev_slo, ev_shi, ev_rev, ev_tup, ev_lst, ev_b1, ev_b2, ev_isi, ev_call, ev_lcnt, ev_lidx, ev_dget, ev_dix, ev_din, ev_dkeys, evs_nil, evs_cons, evi_rng1, evi_rng2, evi_rng3, evi_seq, evi_zip, ex_asg, ex_thaw, ex_par, ex_aug, ex_seti, ex_augi, ex_if_, ex_ret, ex_app, ex_ext, ex_pop, ex_dnew, ex_dset, ex_dupd, ex_expr, ex_parG, ex_pass, exs_nil, exs_cons, ex_for_, ex_whl, ev_comp, binI_add, binI_sub, binI_mulL, binI_mulR, binI_div, binI_mod, bin_int, cmp_int, cmpI_eq, cmpI_ne, cmpI_lt, cmpI_le, cmpI_gt, cmpI_ge, view_d, viewS_d, viewS_scr, b1_len_list, b1_len_tuple, b1_int_int, b1_tuple_list, b1_list_list, b1_list_tuple, ix_list, ix_tuple, asg_name, asg_tupT, asg_tupL, asg_tupK, viewS_kt, globR_tup, globR_str, slR_d, slR_scr, slR_kt, dict_dic, key_int, asgs_nil, asgs_cons, back_rt, back_nx, st_F, te_W, bd_W, st_C0, st_C1, wipe_nil, wipe_cons, sets_nil, sets_cons, pures_nil, pures_cons, rng_n, seq_n, rng_get, seq_list, seq_tuple, seq_getT, seq_getL, seq_getS, rng_fin, start_eq, iL_len, iL_snoc, iL_nil, hi, eq2, eq20, q, h0', L2.atI, L2.ixN, si, sx, szk, hp0, hs.1, py, px, e1, st, iL_cons]
    · have e1 : sl p a x y z w = (w - y) * ivp p (z - x) := if_neg h1
      have hi : ∀ S, Cl 28 [.d (.int (z - x)), .d (.int p)] S = some (.d (.int (ivp p (z - x))), S) := fun S => hO _ p S hp (diff_x hp x0 x1 y0 y1 z0 z1 w0 w1 he he2 h0 h1)
      have i0 := ivp_bd hp (z - x)
      have si : smI (ivp p (z - x)) = true := smI_of i0.1 (by omega)
      have ht0 : 0 ≤ px p a x y z w := Int.emod_nonneg _ (by omega)
      have ht1 : px p a x y z w < p := Int.emod_lt_of_pos _ hp0
      have st : smI (x - px p a x y z w) = true := by unfold smI; exact decide_eq_true (by omega)
      unfold px at st
      rw [e1] at st
      by_cases h2 : x = z
      · subst h2
        have q : ¬ (y + w) % p = 0 := fun e => h0 ⟨rfl, ti.mp e⟩
        have h1' : ¬ y = w := fun e => h1 ⟨rfl, e⟩
        have hi' := hi
        rw [Int.sub_self] at hi' e1 si st
        have hs2 := hs.2
        rw [Int.sub_self] at hs2
        simp (decide := true) [d29, ev_var, ev_glob, ev_int, ev_bl, ev_non, ev_str, ev_bin, ev_neg, ev_not, ev_and, ev_or, ev_cmp, ev_chain, ev_ite, ev_ix, ev_slo, ev_shi, ev_rev, ev_tup, ev_lst, ev_b1, ev_b2, ev_isi, ev_call, ev_lcnt, ev_lidx, ev_dget, ev_dix, ev_din, ev_dkeys, evs_nil, evs_cons, evi_rng1, evi_rng2, evi_rng3, evi_seq, evi_zip, ex_asg, ex_thaw, ex_par, ex_aug, ex_seti, ex_augi, ex_if_, ex_ret, ex_app, ex_ext, ex_pop, ex_dnew, ex_dset, ex_dupd, ex_expr, ex_parG, ex_pass, exs_nil, exs_cons, ex_for_, ex_whl, ev_comp, binI_add, binI_sub, binI_mulL, binI_mulR, binI_div, binI_mod, bin_int, cmp_int, cmpI_eq, cmpI_ne, cmpI_lt, cmpI_le, cmpI_gt, cmpI_ge, view_d, viewS_d, viewS_scr, b1_len_list, b1_len_tuple, b1_int_int, b1_tuple_list, b1_list_list, b1_list_tuple, ix_list, ix_tuple, asg_name, asg_tupT, asg_tupL, asg_tupK, viewS_kt, globR_tup, globR_str, slR_d, slR_scr, slR_kt, dict_dic, key_int, asgs_nil, asgs_cons, back_rt, back_nx, st_F, te_W, bd_W, st_C0, st_C1, wipe_nil, wipe_cons, sets_nil, sets_cons, pures_nil, pures_cons, rng_n, seq_n, rng_get, seq_list, seq_tuple, seq_getT, seq_getL, seq_getS, rng_fin, start_eq, iL_len, iL_snoc, iL_nil, hi', eq2, eq20, q, h1', L2.atI, L2.ixN, si, sx, szk, hp0, hs2, py, px, e1, st, iL_cons]
      · simp (decide := true) [d29, ev_var, ev_glob, ev_int, ev_bl, ev_non, ev_str, ev_bin, ev_neg, ev_not, ev_and, ev_or, ev_cmp, ev_chain, ev_ite, ev_ix, ev_slo, ev_shi, ev_rev, ev_tup, ev_lst, ev_b1, ev_b2, ev_isi, ev_call, ev_lcnt, ev_lidx, ev_dget, ev_dix, ev_din, ev_dkeys, evs_nil, evs_cons, evi_rng1, evi_rng2, evi_rng3, evi_seq, evi_zip, ex_asg, ex_thaw, ex_par, ex_aug, ex_seti, ex_augi, ex_if_, ex_ret, ex_app, ex_ext, ex_pop, ex_dnew, ex_dset, ex_dupd, ex_expr, ex_parG, ex_pass, exs_nil, exs_cons, ex_for_, ex_whl, ev_comp, binI_add, binI_sub, binI_mulL, binI_mulR, binI_div, binI_mod, bin_int, cmp_int, cmpI_eq, cmpI_ne, cmpI_lt, cmpI_le, cmpI_gt, cmpI_ge, view_d, viewS_d, viewS_scr, b1_len_list, b1_len_tuple, b1_int_int, b1_tuple_list, b1_list_list, b1_list_tuple, ix_list, ix_tuple, asg_name, asg_tupT, asg_tupL, asg_tupK, viewS_kt, globR_tup, globR_str, slR_d, slR_scr, slR_kt, dict_dic, key_int, asgs_nil, asgs_cons, back_rt, back_nx, st_F, te_W, bd_W, st_C0, st_C1, wipe_nil, wipe_cons, sets_nil, sets_cons, pures_nil, pures_cons, rng_n, seq_n, rng_get, seq_list, seq_tuple, seq_getT, seq_getL, seq_getS, rng_fin, start_eq, iL_len, iL_snoc, iL_nil, hi, eq2, eq20, h2, L2.atI, L2.ixN, si, sx, szk, hp0, hs.2, py, px, e1, st, iL_cons]
theorem hLAdd (k : Nat) : HLAdd (C (k+2)) := fun p a b P Q S hp a0 a1 hP hQ => by
  rw [c29]
  refine (if_pos rfl).trans ?_
  rcases hP with rfl | ⟨x, y, rfl, x0, x1, y0, y1, he⟩
  · have e : padd p a [] Q = Q := by unfold padd; rfl
    rw [e]
    simp (decide := true) [d29, ev_var, ev_glob, ev_int, ev_bl, ev_non, ev_str, ev_bin, ev_neg, ev_not, ev_and, ev_or, ev_cmp, ev_chain, ev_ite, ev_ix, ev_slo, ev_shi, ev_rev, ev_tup, ev_lst, ev_b1, ev_b2, ev_isi, ev_call, ev_lcnt, ev_lidx, ev_dget, ev_dix, ev_din, ev_dkeys, evs_nil, evs_cons, evi_rng1, evi_rng2, evi_rng3, evi_seq, evi_zip, ex_asg, ex_thaw, ex_par, ex_aug, ex_seti, ex_augi, ex_if_, ex_ret, ex_app, ex_ext, ex_pop, ex_dnew, ex_dset, ex_dupd, ex_expr, ex_parG, ex_pass, exs_nil, exs_cons, ex_for_, ex_whl, ev_comp, binI_add, binI_sub, binI_mulL, binI_mulR, binI_div, binI_mod, bin_int, cmp_int, cmpI_eq, cmpI_ne, cmpI_lt, cmpI_le, cmpI_gt, cmpI_ge, view_d, viewS_d, viewS_scr, b1_len_list, b1_len_tuple, b1_int_int, b1_tuple_list, b1_list_list, b1_list_tuple, ix_list, ix_tuple, asg_name, asg_tupT, asg_tupL, asg_tupK, viewS_kt, globR_tup, globR_str, slR_d, slR_scr, slR_kt, dict_dic, key_int, asgs_nil, asgs_cons, back_rt, back_nx, st_F, te_W, bd_W, st_C0, st_C1, wipe_nil, wipe_cons, sets_nil, sets_cons, pures_nil, pures_cons, rng_n, seq_n, rng_get, seq_list, seq_tuple, seq_getT, seq_getL, seq_getS, rng_fin, start_eq, iL_len, iL_snoc, iL_nil, eqT0, L2.atI, L2.ixN, iL_cons]
  · rcases hQ with rfl | ⟨z, w, rfl, z0, z1, w0, w1, he2⟩
    · show back S.length (exSs (C (k+1)) 1000000 d29.body (start d29.names.length [.d (.tuple [.int p, .int a, .int b]), .d (.tuple [.int x, .int y]), .d (.tuple [])]) S) = some (.d (.tuple [.int x, .int y]), S)
      simp (decide := true) [d29, ev_var, ev_glob, ev_int, ev_bl, ev_non, ev_str, ev_bin, ev_neg, ev_not, ev_and, ev_or, ev_cmp, ev_chain, ev_ite, ev_ix, ev_slo, ev_shi, ev_rev, ev_tup, ev_lst, ev_b1, ev_b2, ev_isi, ev_call, ev_lcnt, ev_lidx, ev_dget, ev_dix, ev_din, ev_dkeys, evs_nil, evs_cons, evi_rng1, evi_rng2, evi_rng3, evi_seq, evi_zip, ex_asg, ex_thaw, ex_par, ex_aug, ex_seti, ex_augi, ex_if_, ex_ret, ex_app, ex_ext, ex_pop, ex_dnew, ex_dset, ex_dupd, ex_expr, ex_parG, ex_pass, exs_nil, exs_cons, ex_for_, ex_whl, ev_comp, binI_add, binI_sub, binI_mulL, binI_mulR, binI_div, binI_mod, bin_int, cmp_int, cmpI_eq, cmpI_ne, cmpI_lt, cmpI_le, cmpI_gt, cmpI_ge, view_d, viewS_d, viewS_scr, b1_len_list, b1_len_tuple, b1_int_int, b1_tuple_list, b1_list_list, b1_list_tuple, ix_list, ix_tuple, asg_name, asg_tupT, asg_tupL, asg_tupK, viewS_kt, globR_tup, globR_str, slR_d, slR_scr, slR_kt, dict_dic, key_int, asgs_nil, asgs_cons, back_rt, back_nx, st_F, te_W, bd_W, st_C0, st_C1, wipe_nil, wipe_cons, sets_nil, sets_cons, pures_nil, pures_cons, rng_n, seq_n, rng_get, seq_list, seq_tuple, seq_getT, seq_getL, seq_getS, rng_fin, start_eq, iL_len, iL_snoc, iL_nil, eq00, eq20]
    · exact ladd2 (hOver k) p a b x y z w S hp a0 a1 x0 x1 y0 y1 z0 z1 w0 w1 he he2
end LAW
end
section
namespace LAW
open PC
/-! ### lists of tuples of numbers, in order -/
theorem ints_iL : ∀ l : List Int, ints? (iL l) = some l
  | [] => rfl
  | a :: l => by rw [iL_cons, ints?, ints_iL l]
theorem ltD_tI (x y : List Int) : ltD (tI x) (tI y) = ltL x y := ltD_t (ints_iL x) (ints_iL y)
def tIs (l : List (List Int)) : List D := l.map fun x => tI x
theorem tIs_cons (x : List Int) (l : List (List Int)) : tIs (x :: l) = tI x :: tIs l := rfl
theorem tIs_len (l : List (List Int)) : (tIs l).length = l.length := by simp [tIs]
theorem tIs_app (l m : List (List Int)) : tIs (l ++ m) = tIs l ++ tIs m := by simp [tIs]
def minL : List Int → List (List Int) → List Int
  | m, [] => m
  | m, x :: r => minL (if ltL x m = true then x else m) r
theorem minD_tI : ∀ (r : List (List Int)) (m : List Int), minD (tI m) (tIs r) = tI (minL m r)
  | [], m => rfl
  | x :: r, m => by
    rw [tIs_cons, minD, ltD_tI, minL]
    by_cases h : ltL x m = true
    · rw [if_pos h, if_pos h, minD_tI r x]
    · rw [if_neg h, if_neg h, minD_tI r m]
theorem ltL_irr : ∀ x : List Int, ltL x x = false
  | [] => rfl
  | a :: x => by unfold ltL; rw [if_pos rfl]; exact ltL_irr x
/-- the least is in the list and no greater than any -/
theorem minL_ok : ∀ (r : List (List Int)) (m : List Int), minL m r ∈ m :: r ∧ ∀ x ∈ m :: r, ltL x (minL m r) = false
  | [], m => ⟨List.mem_cons_self, fun x hx => by rw [List.mem_singleton.mp hx]; exact ltL_irr m⟩
  | y :: r, m => by
    unfold minL
    by_cases h : ltL y m = true
    · rw [if_pos h]
      obtain ⟨h1, h2⟩ := minL_ok r y
      refine ⟨List.mem_cons_of_mem _ h1, fun x hx => ?_⟩
      rcases List.mem_cons.mp hx with rfl | hx
      · have q1 := h2 y List.mem_cons_self
        exact ltL_tr _ _ _ q1 (ltL_asym _ _ h)
      · exact h2 x hx
    · rw [if_neg h]
      have h' : ltL y m = false := by simpa using h
      obtain ⟨h1, h2⟩ := minL_ok r m
      refine ⟨?_, fun x hx => ?_⟩
      · rcases List.mem_cons.mp h1 with e | e
        · rw [e]; exact List.mem_cons_self
        · exact List.mem_cons_of_mem _ (List.mem_cons_of_mem _ e)
      · rcases List.mem_cons.mp hx with rfl | hx
        · exact h2 x List.mem_cons_self
        · rcases List.mem_cons.mp hx with rfl | hx
          · exact ltL_tr _ _ _ (h2 m List.mem_cons_self) h'
          · exact h2 x (List.mem_cons_of_mem _ hx)
theorem least_uniq {l m : List (List Int)} {x y : List Int} (h : ∀ z, z ∈ l ↔ z ∈ m) (hx : x ∈ l) (hx2 : ∀ z ∈ l, ltL z x = false) (hy : y ∈ m) (hy2 : ∀ z ∈ m, ltL z y = false) : x = y :=
  ltL_anti _ _ (hy2 x ((h x).mp hx)) (hx2 y ((h y).mpr hy))
theorem isTI_tI {x : List Int} (h : x ≠ []) : isTI (tI x) = true := by
  cases x with
  | nil => exact absurd rfl h
  | cons a x =>
    show (match ints? (iL (a :: x)) with
      | some _ => true
      | none => false) = true
    rw [ints_iL]
theorem isTE_tI (x : List Int) : isTE (tI x) = true := by
  show (match ints? (iL x) with
      | some _ => true
      | none => false) = true
  rw [ints_iL]
theorem all_TI {l : List (List Int)} (h : ∀ x ∈ l, x ≠ []) : (tIs l).all isTI = true := by
  rw [List.all_eq_true]
  intro d hd
  obtain ⟨x, hx, rfl⟩ := List.mem_map.mp hd
  exact isTI_tI (h x hx)
theorem all_TE (l : List (List Int)) : (tIs l).all isTE = true := by
  rw [List.all_eq_true]
  intro d hd
  obtain ⟨x, _, rfl⟩ := List.mem_map.mp hd
  exact isTE_tI x
theorem smin_tI {m : List Int} {r : List (List Int)} (h : ∀ x ∈ m :: r, x ≠ []) : b1D .smin (.list (tIs (m :: r))) = some (tI (minL m r)) := by
  have h1 : ints? (tIs (m :: r)) = none := rfl
  show (match ints? (tIs (m :: r)) with
    | some (i :: is) => some (PySem.PyData.int (minI i is))
    | _ => (match tIs (m :: r) with
      | x :: r => if (x :: r).all isTI = true then some (minD x r) else none
      | [] => none)) = _
  rw [h1]
  simp only [tIs_cons]
  rw [← tIs_cons, all_TI h, if_pos rfl, minD_tI]
theorem isort_tI {l m : List (List Int)} (hp : m.Perm l) (hs : m.Pairwise fun a b => ltL b a = false) : isort (tIs l) = tIs m := by
  refine (isort_is ordTE (fun y hy => List.all_eq_true.mp (all_TE l) y hy) (hp.map _) ?_).symm
  exact List.pairwise_map.mpr (hs.imp fun {a b} h => by rw [ltD_tI]; exact h)
theorem sorted_tI {l m : List (List Int)} (h : (∀ x ∈ l, x ≠ []) ∨ l.head? = some []) (hp : m.Perm l) (hs : m.Pairwise fun a b => ltL b a = false) : b1D .sorted (.list (tIs l)) = some (.list (tIs m)) := by
  have e : sortD (tIs l) = some (tIs m) := by
    unfold sortD
    rw [isort_tI hp hs]
    rcases h with h | h
    · rw [all_TI h, Bool.or_true, if_pos rfl]
    · cases l with
      | nil => cases h
      | cons x r =>
        cases h
        have e2 : (tIs ([] :: r)).all isTI = false := rfl
        have e1 : (tIs ([] :: r)).all isI = false := rfl
        rw [e1, e2]
        show (if (tIs r).all isTE = true then some (tIs m) else none) = _
        rw [all_TE, if_pos rfl]
  show (match sortD (tIs l) with
    | some ys => some (PySem.PyData.list ys)
    | none => none) = _
  rw [e]
theorem perm_of {l m : List (List Int)} (h1 : l.Nodup) (h2 : m.Nodup) (h : ∀ x, x ∈ l ↔ x ∈ m) : l.Perm m := (List.perm_ext_iff_of_nodup h1 h2).mpr h
theorem nodup_lt {l : List (List Int)} (h : l.Pairwise fun a b => ltL a b = true) : l.Nodup := h.imp fun {a b} h e => by rw [e, ltL_irr] at h; cases h
theorem le_lt {l : List (List Int)} (h : l.Pairwise fun a b => ltL a b = true) : l.Pairwise fun a b => ltL b a = false := h.imp fun {a b} h => ltL_asym _ _ h
/-! ### a comprehension over any list -/
theorem ev_compG {α : Type} {C : Call} {g : G} {vs : List Nat} {it : It} {hc : Bool} {c e : E} {ρ : Env} {s s1 : Store} {J : Items} (l : List α) (gg : α → D) (f : α → Option D) (hit : evIt C it ρ s = some (J, s1)) (hn : J.n = l.length) (hz : l.length ≤ 1000000)
    (hget : ∀ i acc x, l[i]? = some x → J.get i (s1 ++ [.lst acc]) = some (gg x)) (hfin : ∀ acc, J.fin (s1 ++ [.lst acc]) = true) (hstep : ∀ x ∈ l, ∀ acc, stepC C g vs hc c e ρ (gg x) (s1 ++ [.lst acc]) = some (f x, s1 ++ [.lst acc])) :
    evE C (.comp g vs it hc c e) ρ s = some (.d (.list (l.filterMap f)), s1) := by
  have key : ∀ m i acc, i + m = l.length → acc.length ≤ i → compN J s1.length (stepC C g vs hc c e ρ) m i (s1 ++ [.lst acc]) = some (s1 ++ [.lst (acc ++ (l.drop i).filterMap f)]) := by
    intro m
    induction m with
    | zero =>
      intro i acc hi _
      have : l.drop i = [] := List.drop_eq_nil_of_le (by omega)
      simp [compN, hfin, this]
    | succ m ih =>
      intro i acc hi ha
      have hlt : i < l.length := by omega
      have hx : l[i]? = some l[i] := List.getElem?_eq_getElem hlt
      have hd : l.drop i = l[i] :: l.drop (i + 1) := List.drop_eq_getElem_cons hlt
      have hs := hstep l[i] (List.getElem_mem hlt) acc
      have hsz : szOk acc.length = true := Nat.ble_eq.mpr (by omega)
      unfold compN
      rw [hget i acc _ hx]
      simp only []
      rw [hs]
      cases hf : f l[i] with
      | none =>
        simp only []
        rw [ih (i + 1) acc (by omega) (by omega), hd, List.filterMap_cons, hf]
      | some y =>
        simp only [at_last, set_last]
        rw [if_pos hsz, ih (i + 1) (acc ++ [y]) (by omega) (by simp; omega), hd, List.filterMap_cons, hf, List.append_assoc]
        rfl
  rw [ev_comp, hit]
  simp only []
  rw [hn, key l.length 0 [] (by omega) (by simp)]
  simp [at_last]
/-- .. each turn gives a value -/
theorem ev_compM {α : Type} {C : Call} {g : G} {vs : List Nat} {it : It} {hc : Bool} {c e : E} {ρ : Env} {s s1 : Store} {J : Items} (l : List α) (gg f : α → D) (hit : evIt C it ρ s = some (J, s1)) (hn : J.n = l.length) (hz : l.length ≤ 1000000)
    (hget : ∀ i acc x, l[i]? = some x → J.get i (s1 ++ [.lst acc]) = some (gg x)) (hfin : ∀ acc, J.fin (s1 ++ [.lst acc]) = true) (hstep : ∀ x ∈ l, ∀ acc, stepC C g vs hc c e ρ (gg x) (s1 ++ [.lst acc]) = some (some (f x), s1 ++ [.lst acc])) :
    evE C (.comp g vs it hc c e) ρ s = some (.d (.list (l.map f)), s1) := by
  rw [ev_compG l gg (fun x => some (f x)) hit hn hz hget hfin hstep]
  have e1 : l.filterMap (fun x => some (f x)) = l.map f := by
    rw [← List.filterMap_eq_map]; rfl
  rw [e1]
/-- .. some are kept -/
theorem ev_compK {α : Type} {C : Call} {i : Nat} {it : It} {c : E} {ρ : Env} {s s1 : Store} {J : Items} (l : List α) (gg : α → D) (f : α → Bool) (hit : evIt C it ρ s = some (J, s1)) (hn : J.n = l.length) (hz : l.length ≤ 1000000) (hi : i < ρ.length)
    (hget : ∀ i acc x, l[i]? = some x → J.get i (s1 ++ [.lst acc]) = some (gg x)) (hfin : ∀ acc, J.fin (s1 ++ [.lst acc]) = true) (hstep : ∀ x ∈ l, ∀ acc, evE C c ((wipeE ρ [i]).set i (some (.d (gg x)))) (s1 ++ [.lst acc]) = some (.d (.bool (f x)), s1 ++ [.lst acc])) :
    evE C (.comp (.name i) [i] it true c (.var i)) ρ s = some (.d (.list ((l.filter f).map gg)), s1) := by
  rw [ev_compG l gg (fun x => if f x = true then some (gg x) else none) hit hn hz hget hfin (fun x hx acc => by
    rw [st_C1, asg_name]
    simp only []
    rw [hstep x hx acc]
    by_cases hf : f x = true
    · rw [hf]
      simp only [if_true]
      rw [var_of (r := .d (gg x))]
      rw [List.getElem?_set_self]
      simpa [wipe_cons, wipe_nil] using hi
    · have hf' : f x = false := by simpa using hf
      rw [hf']
      simp)]
  have e2 : ∀ l : List α, l.filterMap (fun x => if f x = true then some (gg x) else none) = (l.filter f).map gg := by
    intro l
    induction l with
    | nil => rfl
    | cons x l ih =>
      rw [List.filterMap_cons, List.filter_cons]
      by_cases hf : f x = true
      · simp only [hf, if_true, List.map_cons, ih]
      · simp only [hf, if_false, ih]
        rfl
  rw [e2]
theorem seqL_get {α : Type} {gg : α → D} {l : List α} {n i : Nat} {s : Store} {x : α} (h : l[i]? = some x) : (Items.seq (.d (.list (l.map gg))) n).get i s = some (gg x) := by
  rw [seq_getL, List.getElem?_map, h]; rfl
end LAW
end
section
namespace LAW
open PC
/-! ### dicts whose keys are tuples of numbers, by their keys -/
def KS (kvs : List (D × D)) (ks : List (List Int)) : Prop := kvs.map (·.1) = tIs ks
def insK (ks : List (List Int)) (l : List Int) : List (List Int) := if l ∈ ks then ks else ks ++ [l]
theorem KS.nil : KS [] [] := rfl
theorem KS.find : ∀ {kvs : List (D × D)} {ks : List (List Int)}, KS kvs ks → ∀ l, (dFind kvs (tI l)).isSome = decide (l ∈ ks)
  | [], ks, h, l => by
    cases ks with
    | nil => simp [dFind]
    | cons k ks => cases h
  | (k, v) :: r, ks, h, l => by
    cases ks with
    | nil => cases h
    | cons k' ks =>
      obtain ⟨h1, h2⟩ := List.cons.inj (show k :: r.map (·.1) = tI k' :: tIs ks from h)
      subst h1
      unfold dFind
      rw [same_tI]
      by_cases e : k' = l
      · subst e; simp
      · rw [if_neg (by simpa using e), KS.find h2 l]
        have e' : ¬ l = k' := fun q => e q.symm
        simp [e']
theorem dRep_keys (u d : D) : ∀ kvs : List (D × D), (dRep kvs u d).map (·.1) = kvs.map (·.1)
  | [] => rfl
  | (k, z) :: r => by
    unfold dRep
    by_cases h : sameD k u = true
    · rw [if_pos h, List.map_cons, List.map_cons, dRep_keys u d r]
    · rw [if_neg h, List.map_cons, List.map_cons, dRep_keys u d r]
theorem KS.put {kvs : List (D × D)} {ks : List (List Int)} (h : KS kvs ks) (l : List Int) (v : D) : KS (dPut kvs (tI l) v) (insK ks l) := by
  have hf := h.find l
  unfold dPut insK KS
  cases e : dFind kvs (tI l) with
  | none =>
    rw [e] at hf
    have hm : ¬ l ∈ ks := by simpa using hf.symm
    rw [if_neg hm]
    simp only []
    rw [List.map_append, show kvs.map (·.1) = tIs ks from h, tIs_app]
    rfl
  | some z =>
    rw [e] at hf
    have hm : l ∈ ks := by simpa using hf.symm
    rw [if_pos hm]
    simp only []
    rw [dRep_keys]
    exact h
theorem mem_insK {ks : List (List Int)} {l x : List Int} : x ∈ insK ks l ↔ x ∈ ks ∨ x = l := by
  unfold insK
  by_cases h : l ∈ ks
  · rw [if_pos h]
    constructor
    · exact .inl
    · rintro (q | rfl)
      · exact q
      · exact h
  · rw [if_neg h]; simp
theorem insK_nodup {ks : List (List Int)} (h : ks.Nodup) (l : List Int) : (insK ks l).Nodup := by
  unfold insK
  by_cases hl : l ∈ ks
  · rwa [if_pos hl]
  · rw [if_neg hl, List.nodup_append]
    refine ⟨h, by simp, fun a ha b hb => ?_⟩
    rw [List.mem_singleton.mp hb]
    exact fun e => hl (e ▸ ha)
theorem mem_insKs {x : List Int} : ∀ {ms ks : List (List Int)}, x ∈ ms.foldl insK ks ↔ x ∈ ks ∨ x ∈ ms
  | [], ks => by simp
  | m :: ms, ks => by
    rw [List.foldl_cons, mem_insKs, mem_insK, List.mem_cons]
    constructor
    · rintro ((h | h) | h)
      · exact .inl h
      · exact .inr (.inl h)
      · exact .inr (.inr h)
    · rintro (h | h | h)
      · exact .inl (.inl h)
      · exact .inl (.inr h)
      · exact .inr h
theorem KS.merge : ∀ {more kvs : List (D × D)} {ms ks : List (List Int)}, KS more ms → KS kvs ks → KS (dMerge kvs more) (ms.foldl insK ks)
  | [], kvs, ms, ks, h, hk => by
    cases ms with
    | nil => exact hk
    | cons m ms => cases h
  | (k, v) :: more, kvs, ms, ks, h, hk => by
    cases ms with
    | nil => cases h
    | cons m ms =>
      obtain ⟨h1, h2⟩ := List.cons.inj (show k :: more.map (·.1) = tI m :: tIs ms from h)
      subst h1
      show KS (dMerge (dPut kvs (tI m) v) more) (ms.foldl insK (insK ks m))
      exact KS.merge h2 (hk.put m v)
theorem KS.len {kvs : List (D × D)} {ks : List (List Int)} (h : KS kvs ks) : kvs.length = ks.length := by
  have := congrArg List.length (show kvs.map (·.1) = tIs ks from h)
  rwa [List.length_map, tIs_len] at this
theorem insK_len (ks : List (List Int)) (l : List Int) : (insK ks l).length ≤ ks.length + 1 := by
  unfold insK
  split
  · omega
  · simp
theorem insKs_len : ∀ (ms ks : List (List Int)), (ms.foldl insK ks).length ≤ ks.length + ms.length
  | [], ks => Nat.le_refl _
  | m :: ms, ks => by
    rw [List.foldl_cons, List.length_cons]
    have := insKs_len ms (insK ks m)
    have := insK_len ks m
    omega
theorem dPut_ne (kvs : List (D × D)) (u d : D) : dPut kvs u d ≠ [] := by
  unfold dPut
  cases h : dFind kvs u with
  | none => simp
  | some z =>
    simp only []
    intro e
    have := dRep_len u d kvs
    rw [e] at this
    cases kvs with
    | nil => cases h
    | cons a r => cases this
theorem dMerge_ne : ∀ (more kvs : List (D × D)), (kvs ≠ [] ∨ more ≠ []) → dMerge kvs more ≠ []
  | [], kvs, h => by
    rcases h with h | h
    · exact h
    · exact absurd rfl h
  | (k, v) :: more, kvs, _ => dMerge_ne more (dPut kvs k v) (.inl (dPut_ne _ _ _))
/-- the keys of a dict comprehension -/
def putsT (ls : List (List Int)) (v : D) (kvs : List (D × D)) : List (D × D) := ls.foldl (fun kvs l => dPut kvs (tI l) v) kvs
theorem KS.puts (v : D) : ∀ {ls : List (List Int)} {kvs : List (D × D)} {ks : List (List Int)}, KS kvs ks → KS (putsT ls v kvs) (ls.foldl insK ks)
  | [], kvs, ks, h => h
  | l :: ls, kvs, ks, h => KS.puts v (ls := ls) (h.put l v)
theorem puts_len (v : D) : ∀ (ls : List (List Int)) (kvs : List (D × D)), (putsT ls v kvs).length ≤ kvs.length + ls.length
  | [], kvs => Nat.le_refl _
  | l :: ls, kvs => by
    have := puts_len v ls (dPut kvs (tI l) v)
    have := dPut_len kvs (tI l) v
    show (putsT ls v (dPut kvs (tI l) v)).length ≤ _
    rw [List.length_cons]
    omega
theorem ev_dcompT {α : Type} {C : Call} {g : G} {vs : List Nat} {it : It} {k v : E} {ρ : Env} {s s1 : Store} {J : Items} (l : List α) (gg : α → D) (f : α → List Int) (z : D) (hit : evIt C it ρ s = some (J, s1)) (hn : J.n = l.length) (hz : l.length < 1000000)
    (hget : ∀ i c x, l[i]? = some x → J.get i (s1 ++ [c]) = some (gg x)) (hfin : ∀ c, J.fin (s1 ++ [c]) = true) (hstep : ∀ x ∈ l, ∀ c, stepDC C g vs k v ρ (gg x) (s1 ++ [c]) = some (tI (f x), z, s1 ++ [c])) :
    evE C (.dcomp g vs it k v) ρ s = some (.dic true (putsT (l.map f) z []), s1) := by
  have key : ∀ m i kvs, i + m = l.length → kvs.length ≤ i → dcompN J s1.length (stepDC C g vs k v ρ) m i (s1 ++ [.dct true kvs]) = some (s1 ++ [.dct true (putsT ((l.drop i).map f) z kvs)]) := by
    intro m
    induction m with
    | zero =>
      intro i kvs hi _
      have : l.drop i = [] := List.drop_eq_nil_of_le (by omega)
      simp [dcompN, hfin, this, putsT]
    | succ m ih =>
      intro i kvs hi ha
      have hlt : i < l.length := by omega
      have hx : l[i]? = some l[i] := List.getElem?_eq_getElem hlt
      have hd : l.drop i = l[i] :: l.drop (i + 1) := List.drop_eq_getElem_cons hlt
      have hs := hstep l[i] (List.getElem_mem hlt) (.dct true kvs)
      have hsz : (keyOk true (tI (f l[i])) && szOk kvs.length) = true := by rw [keyT_tI, szk (by omega)]; rfl
      unfold dcompN
      rw [hget i _ _ hx]
      simp only []
      rw [hs]
      simp only []
      rw [dctAt_last]
      simp only []
      rw [if_pos hsz, dctSet_last, ih (i + 1) _ (by omega) (Nat.le_trans (dPut_len _ _ _) (by omega)), hd, List.map_cons]
      rfl
  rw [ev_dcomp, hit]
  simp only []
  rw [hn, key l.length 0 [] (by omega) (by simp)]
  simp
theorem dupd_of {C : Call} {W : Nat} {ρ : Env} {s s1 s2 : Store} {a e : E} {n : Nat} {kvs0 kvs more : List (D × D)} (h1 : evE C a ρ s = some (.loc n, s1)) (h0 : s1[n]? = some (.dct true kvs0)) (h2 : evE C e ρ s1 = some (.dic true more, s2)) (h3 : s2[n]? = some (.dct true kvs)) (h4 : upOk kvs more = true) (h5 : kvs.length + more.length < 1000000) :
    exS C W (.dupd a e) ρ s = some (.nx ρ (s2.set n (.dct true (dMerge kvs more)))) := by
  rw [ex_dupd, h1]; simp only []; rw [h0]; simp only []; rw [h2]; simp only []; rw [h3]; simp only []; rw [h4, szk h5]; rfl
theorem dkeys_of {C : Call} {ρ : Env} {s s1 : Store} {a : E} {r : R} {t : Bool} {kvs : List (D × D)} (h : evE C a ρ s = some (r, s1)) (h2 : dictOf r s1 = some (t, kvs)) : evE C (.dkeys a) ρ s = some (.d (.list (kvs.map (·.1))), s1) := by
  rw [ev_dkeys, h]; simp only []; rw [h2]
theorem upOk_ne {kvs more : List (D × D)} (h : kvs ≠ []) : upOk kvs more = true := by
  unfold upOk
  cases kvs with
  | nil => exact absurd rfl h
  | cons a r => rfl
end LAW
end
section
namespace LAW
open PC
/-! ### curves moved -/
def mvA (p a u : Int) : Int := a * u * u * u * u % p
def mvB (p b u : Int) : Int := b * u * u * u * u * u * u % p
abbrev mv (p a b u : Int) : List Int := [p, mvA p a u, mvB p b u]
def HMoved (Cl : Call) : Prop := ∀ (p a b u : Int) (S : Store), 0 < p → smI u = true → Cl 13 [.d (tI [p, a, b]), .d (.int u)] S = some (.d (tI (mv p a b u)), S)
theorem hMoved (k : Nat) : HMoved (C (k+1)) := fun p a b u S hp hu => by
  rw [c13]
  refine (if_pos rfl).trans ?_
  show back S.length (exSs (C k) 1000000 d13.body (start d13.names.length [.d (.tuple [.int p, .int a, .int b]), .d (.int u)]) S) = some (.d (.tuple [.int p, .int (mvA p a u), .int (mvB p b u)]), S)
  simp [d13, ev_var, ev_glob, ev_int, ev_bl, ev_non, ev_str, ev_bin, ev_neg, ev_not, ev_and, ev_or, ev_cmp, ev_chain, ev_ite, ev_ix, ev_slo, ev_shi, ev_rev, ev_tup, ev_lst, ev_b1, ev_b2, ev_isi, ev_call, ev_lcnt, ev_lidx, ev_dget, ev_dix, ev_din, ev_dkeys, evs_nil, evs_cons, evi_rng1, evi_rng2, evi_rng3, evi_seq, evi_zip, ex_asg, ex_thaw, ex_par, ex_aug, ex_seti, ex_augi, ex_if_, ex_ret, ex_app, ex_ext, ex_pop, ex_dnew, ex_dset, ex_dupd, ex_expr, ex_parG, ex_pass, exs_nil, exs_cons, ex_for_, ex_whl, ev_comp, binI_add, binI_sub, binI_mulL, binI_mulR, binI_div, binI_mod, bin_int, cmp_int, cmpI_eq, cmpI_ne, cmpI_lt, cmpI_le, cmpI_gt, cmpI_ge, view_d, viewS_d, viewS_scr, b1_len_list, b1_len_tuple, b1_int_int, b1_tuple_list, b1_list_list, b1_list_tuple, ix_list, ix_tuple, asg_name, asg_tupT, asg_tupL, asg_tupK, viewS_kt, globR_tup, globR_str, slR_d, slR_scr, slR_kt, dict_dic, key_int, asgs_nil, asgs_cons, back_rt, back_nx, st_F, te_W, bd_W, st_C0, st_C1, wipe_nil, wipe_cons, sets_nil, sets_cons, pures_nil, pures_cons, rng_n, seq_n, rng_get, seq_list, seq_tuple, seq_getT, seq_getL, seq_getS, rng_fin, start_eq, iL_len, iL_snoc, iL_nil, hp, hu, szk, mvA, mvB]
def HLMove (Cl : Call) : Prop := ∀ (p a b u : Int) (S : Store), 0 < p → smI a = true → smI b = true → smI u = true → Cl 30 [.d (tI [p, a, b]), .d (.int u)] S = some (.d (tI (mv p a b u)), S)
theorem binI_pw {x : Int} {n : Nat} (h : smI x = true) (hn : n ≤ 1000000) : binI .pow x (n : Int) = some (x ^ n) := by
  have h1 : (decide (0 ≤ (n : Int)) && decide ((n : Int) ≤ 1000000) && smI x) = true := by
    rw [h, Bool.and_true, Bool.and_eq_true]
    exact ⟨decide_eq_true (by omega), decide_eq_true (by omega)⟩
  show (if _ = true then _ else _) = _
  rw [if_pos h1]
  rfl
theorem hLMove (k : Nat) : HLMove (C (k+1)) := fun p a b u S hp ha hb hu => by
  rw [c30]
  refine (if_pos rfl).trans ?_
  show back S.length (exSs (C k) 1000000 d30.body (start d30.names.length [.d (.tuple [.int p, .int a, .int b]), .d (.int u)]) S) = some (.d (.tuple [.int p, .int (mvA p a u), .int (mvB p b u)]), S)
  have e4 : binI .pow u 4 = some (u ^ 4) := binI_pw hu (by decide)
  have e6 : binI .pow u 6 = some (u ^ 6) := binI_pw hu (by decide)
  have q4 : a * u ^ 4 = a * u * u * u * u := by grind
  have q6 : b * u ^ 6 = b * u * u * u * u * u * u := by grind
  simp [d30, ev_var, ev_glob, ev_int, ev_bl, ev_non, ev_str, ev_bin, ev_neg, ev_not, ev_and, ev_or, ev_cmp, ev_chain, ev_ite, ev_ix, ev_slo, ev_shi, ev_rev, ev_tup, ev_lst, ev_b1, ev_b2, ev_isi, ev_call, ev_lcnt, ev_lidx, ev_dget, ev_dix, ev_din, ev_dkeys, evs_nil, evs_cons, evi_rng1, evi_rng2, evi_rng3, evi_seq, evi_zip, ex_asg, ex_thaw, ex_par, ex_aug, ex_seti, ex_augi, ex_if_, ex_ret, ex_app, ex_ext, ex_pop, ex_dnew, ex_dset, ex_dupd, ex_expr, ex_parG, ex_pass, exs_nil, exs_cons, ex_for_, ex_whl, ev_comp, binI_add, binI_sub, binI_mulL, binI_mulR, binI_div, binI_mod, bin_int, cmp_int, cmpI_eq, cmpI_ne, cmpI_lt, cmpI_le, cmpI_gt, cmpI_ge, view_d, viewS_d, viewS_scr, b1_len_list, b1_len_tuple, b1_int_int, b1_tuple_list, b1_list_list, b1_list_tuple, ix_list, ix_tuple, asg_name, asg_tupT, asg_tupL, asg_tupK, viewS_kt, globR_tup, globR_str, slR_d, slR_scr, slR_kt, dict_dic, key_int, asgs_nil, asgs_cons, back_rt, back_nx, st_F, te_W, bd_W, st_C0, st_C1, wipe_nil, wipe_cons, sets_nil, sets_cons, pures_nil, pures_cons, rng_n, seq_n, rng_get, seq_list, seq_tuple, seq_getT, seq_getL, seq_getS, rng_fin, start_eq, iL_len, iL_snoc, iL_nil, hp, ha, hb, hu, szk, mvA, mvB, e4, e6, q4, q6]
/-! ### the curves it may be moved to -/
def orb (p a b : Int) : List (List Int) := (rr p).map (mv p a b)
def hm (p a b : Int) : List Int := match orb p a b with
  | [] => []
  | m :: r => minL m r
theorem orb_mem {p a b : Int} {x : List Int} : x ∈ orb p a b ↔ ∃ u, 0 < u ∧ u < p ∧ mv p a b u = x := by
  unfold orb
  rw [List.mem_map]
  constructor
  · rintro ⟨u, h, rfl⟩
    exact ⟨u, (rr_mem.mp h).1, (rr_mem.mp h).2, rfl⟩
  · rintro ⟨u, h0, h1, rfl⟩
    exact ⟨u, rr_mem.mpr ⟨h0, h1⟩, rfl⟩
theorem orb_len (p a b : Int) : (orb p a b).length = (p - 1).toNat := by unfold orb; rw [List.length_map, rr_len]
theorem orb_ne {p a b : Int} (hp : p ∈ primes) : ∃ m r, orb p a b = m :: r := by
  have hb := pr_bd p hp
  have := orb_len p a b
  cases h : orb p a b with
  | nil => rw [h] at this; have : 0 = (p - 1).toNat := this; omega
  | cons m r => exact ⟨m, r, rfl⟩
theorem hm_ok {p : Int} (hp : p ∈ primes) (a b : Int) : hm p a b ∈ orb p a b ∧ ∀ x ∈ orb p a b, ltL x (hm p a b) = false := by
  obtain ⟨m, r, h⟩ := orb_ne (a := a) (b := b) hp
  unfold hm
  rw [h]
  exact minL_ok r m
/-- a curve with its numbers in place -/
def Rc (p a b : Int) : Prop := p ∈ primes ∧ 0 ≤ a ∧ a < p ∧ 0 ≤ b ∧ b < p
theorem Crv.rc {p a b : Int} (h : Crv p a b) : Rc p a b := ⟨h.1, h.2.1, h.2.2.1, h.2.2.2.1, h.2.2.2.2.1⟩
theorem mv_bd {p : Int} (hp : p ∈ primes) (a b u : Int) : Rc p (mvA p a u) (mvB p b u) := by
  have := pr_bd p hp
  exact ⟨hp, Int.emod_nonneg _ (by omega), Int.emod_lt_of_pos _ (by omega), Int.emod_nonneg _ (by omega), Int.emod_lt_of_pos _ (by omega)⟩
theorem mv_one {p a b : Int} (h : Rc p a b) : mv p a b 1 = [p, a, b] := by
  have e1 : mvA p a 1 = a := by unfold mvA; simp only [Int.mul_one]; exact Int.emod_eq_of_lt h.2.1 h.2.2.1
  have e2 : mvB p b 1 = b := by unfold mvB; simp only [Int.mul_one]; exact Int.emod_eq_of_lt h.2.2.2.1 h.2.2.2.2
  show [p, mvA p a 1, mvB p b 1] = _
  rw [e1, e2]
theorem mv_mul (p a b u v : Int) : mv p (mvA p a u) (mvB p b u) v = mv p a b (u * v % p) := by
  have e1 : mvA p (mvA p a u) v = mvA p a (u * v % p) := by
    show Cg p _ _
    unfold mvA
    apply Cg.both
    · repeat' first | apply Cg.modl | apply Cg.add | apply Cg.sub | apply Cg.mul | apply Cg.neg | apply Cg.refl
    · repeat' first | apply Cg.modl | apply Cg.add | apply Cg.sub | apply Cg.mul | apply Cg.neg | apply Cg.refl
    · exact Cg.of_eq (by grind)
  have e2 : mvB p (mvB p b u) v = mvB p b (u * v % p) := by
    show Cg p _ _
    unfold mvB
    apply Cg.both
    · repeat' first | apply Cg.modl | apply Cg.add | apply Cg.sub | apply Cg.mul | apply Cg.neg | apply Cg.refl
    · repeat' first | apply Cg.modl | apply Cg.add | apply Cg.sub | apply Cg.mul | apply Cg.neg | apply Cg.refl
    · exact Cg.of_eq (by grind)
  show [p, _, _] = [p, _, _]
  rw [e1, e2]
theorem unit_mod {p u : Int} (h0 : 0 < u) (h1 : u < p) : u % p ≠ 0 := by rw [Int.emod_eq_of_lt (by omega) h1]; omega
theorem unit_mul {p u v : Int} (hp : p ∈ primes) (h0 : u % p ≠ 0) (h1 : v % p ≠ 0) : 0 < u * v % p ∧ u * v % p < p := by
  have hb := pr_bd p hp
  refine ⟨?_, Int.emod_lt_of_pos _ (by omega)⟩
  have h2 : 0 ≤ u * v % p := Int.emod_nonneg _ (by omega)
  have h3 : u * v % p ≠ 0 := fun e => by
    rcases cg_zero hp (cg0_iff.mpr e) with q | q
    · exact h0 q
    · exact h1 q
  omega
theorem ivp_unit {p u : Int} (hp : p ∈ primes) (h : u % p ≠ 0) : ivp p u % p ≠ 0 := fun e => by
  have h1 := ivp_ok hp h
  have h2 := (Cg.refl p u).mul (cg0_iff.mpr e)
  rw [Int.mul_zero] at h2
  have h3 : (0 : Int) % p = 1 % p := h2.symm.trans h1
  rw [one_mod hp, zero_mod] at h3
  cases h3
theorem orb_mv {p a b u : Int} (hp : p ∈ primes) (h0 : 0 < u) (h1 : u < p) (x : List Int) : x ∈ orb p (mvA p a u) (mvB p b u) ↔ x ∈ orb p a b := by
  have hu := unit_mod h0 h1
  rw [orb_mem, orb_mem]
  constructor
  · rintro ⟨v, v0, v1, rfl⟩
    obtain ⟨q0, q1⟩ := unit_mul hp hu (unit_mod v0 v1)
    exact ⟨u * v % p, q0, q1, (mv_mul p a b u v).symm⟩
  · rintro ⟨w, w0, w1, rfl⟩
    obtain ⟨q0, q1⟩ := unit_mul hp (ivp_unit hp hu) (unit_mod w0 w1)
    refine ⟨ivp p u * w % p, q0, q1, ?_⟩
    rw [mv_mul]
    have e : Cg p (u * (ivp p u * w % p)) w := by
      refine Cg.trans (y := u * ivp p u * w) ?_ ?_
      · apply Cg.both
        · repeat' first | apply Cg.modl | apply Cg.add | apply Cg.sub | apply Cg.mul | apply Cg.neg | apply Cg.refl
        · repeat' first | apply Cg.modl | apply Cg.add | apply Cg.sub | apply Cg.mul | apply Cg.neg | apply Cg.refl
        · exact Cg.of_eq (by grind)
      · have := (ivp_ok hp hu).mul (Cg.refl p w)
        rwa [Int.one_mul] at this
    have e2 : u * (ivp p u * w % p) % p = w := by
      have : u * (ivp p u * w % p) % p = w % p := e
      rw [this, Int.emod_eq_of_lt (by omega) w1]
    rw [e2]
theorem hm_mv {p a b u : Int} (hp : p ∈ primes) (h0 : 0 < u) (h1 : u < p) : hm p (mvA p a u) (mvB p b u) = hm p a b := by
  obtain ⟨q1, q2⟩ := hm_ok hp (mvA p a u) (mvB p b u)
  obtain ⟨q3, q4⟩ := hm_ok hp a b
  exact least_uniq (orb_mv hp h0 h1) q1 q2 q3 q4
/-! ### home, kind, movers -/
def HHome (Cl : Call) : Prop := ∀ (p a b : Int) (S : Store), p ∈ primes → Cl 16 [.d (tI [p, a, b])] S = some (.d (tI (hm p a b)), S)
theorem ix0 {Cl : Call} {ρ : Env} {s : Store} {p a b : Int} (h : ρ[0]? = some (some (.d (tI [p, a, b])))) : evE Cl (.ix (.var 0) (.int 0)) ρ s = some (.d (.int p), s) := ix_of (ra := .d (tI [p, a, b])) (rb := .d (.int 0)) (s1 := s) (var_of h) (ev_int _ _ _ _) rfl rfl rfl
theorem rr_sm {p x : Int} (hp : p ∈ primes) (h : x ∈ rr p) : smI x = true := by
  have := pr_bd p hp
  have := rr_mem.mp h
  exact smI_of (by omega) (by omega)
/-- the comprehension of all moves -/
theorem comp_orb {Cl : Call} {f i : Nat} {ρ : Env} {s : Store} {p a b : Int} (hp : p ∈ primes) (h0 : ρ[0]? = some (some (.d (tI [p, a, b])))) (hi : i < ρ.length) (hi0 : i ≠ 0) (hf : ∀ u, u ∈ rr p → ∀ S, Cl f [.d (tI [p, a, b]), .d (.int u)] S = some (.d (tI (mv p a b u)), S)) :
    evE Cl (.comp (.name i) [i] (.rng2 (.int 1) (.ix (.var 0) (.int 0))) false (.bl true) (.call f (.cons (.var 0) (.cons (.var i) .nil)))) ρ s = some (.d (.list (tIs (orb p a b))), s) := by
  have hb := pr_bd p hp
  have e1 := ev_compM (C := Cl) (g := .name i) (vs := [i]) (it := .rng2 (.int 1) (.ix (.var 0) (.int 0))) (hc := false) (c := .bl true) (e := .call f (.cons (.var 0) (.cons (.var i) .nil))) (ρ := ρ) (s := s) (s1 := s) (J := .rng 1 1 (p - 1).toNat) (rr p) PySem.PyData.int (fun u => tI (mv p a b u)) (rng2_ok (ix0 h0) (by omega) (by omega)) (rr_len p).symm (by rw [rr_len]; omega) (fun j acc x hx => by
    have hj : j < (rr p).length := (List.getElem?_eq_some_iff.mp hx).1
    rw [rr_get _ _ _ hj, iL_get, hx]
    rfl) (fun acc => rfl) (fun x hx acc => by
    rw [st_C0, asg_name]
    simp only []
    rw [(call2 (C := Cl) (f := f) (a := .var 0) (b := .var i) (ρ := (wipeE ρ [i]).set i (some (.d (.int x)))) (s := (s ++ [Cell.lst acc] : Store)) (s1 := (s ++ [Cell.lst acc] : Store)) (s2 := (s ++ [Cell.lst acc] : Store)) (va := .d (tI [p, a, b])) (vb := .d (.int x)) (var_of ?_) (var_of ?_)).trans (hf x hx _)]
    · rw [List.getElem?_set_ne hi0, wipe_cons, wipe_nil, List.getElem?_set_ne hi0]
      exact h0
    · rw [List.getElem?_set_self]
      simpa [wipe_cons, wipe_nil] using hi)
  rw [e1]
  unfold tIs orb
  rw [List.map_map]
  rfl
theorem hHome (k : Nat) : HHome (C (k+2)) := fun p a b S hp => by
  rw [c16]
  refine (if_pos rfl).trans ?_
  have hb := pr_bd p hp
  have e1 := comp_orb (Cl := C (k+1)) (f := 13) (i := 1) (ρ := [some (.d (tI [p, a, b])), none]) (s := S) hp rfl (by simp) (by decide) (fun u hu S => hMoved k p a b u S (by omega) (rr_sm hp hu))
  obtain ⟨m, r, h⟩ := orb_ne (a := a) (b := b) hp
  have hne : ∀ x ∈ m :: r, x ≠ [] := fun x hx => by
    rw [← h] at hx
    obtain ⟨u, _, _, rfl⟩ := orb_mem.mp hx
    exact List.cons_ne_nil _ _
  have e2 : b1D .smin (.list (tIs (orb p a b))) = some (tI (hm p a b)) := by
    unfold hm
    rw [h]
    exact smin_tI hne
  exact (back_of (x := tI (hm p a b)) (s := S) (rt_of (ret_of (b1_of e1 rfl e2)))).trans (by simp)
def HKind (Cl : Call) : Prop := ∀ (p a b : Int) (S : Store), Rc p a b → Cl 31 [.d (tI [p, a, b])] S = some (.d (tI (hm p a b)), S)
theorem head_isort {l : List (List Int)} {x : List Int} (hx : x ∈ l) (hx2 : ∀ z ∈ l, ltL z x = false) : (isort (tIs l))[0]? = some (tI x) := by
  have hp := isort_perm (tIs l)
  have hs := isort_srt ordTE (l := tIs l) (fun y hy => List.all_eq_true.mp (all_TE l) y hy)
  cases h : isort (tIs l) with
  | nil =>
    rw [h] at hp
    have := hp.mem_iff.mpr (List.mem_map.mpr ⟨x, hx, rfl⟩)
    cases this
  | cons d r =>
    rw [h] at hp hs
    have hd : d ∈ tIs l := hp.mem_iff.mp List.mem_cons_self
    obtain ⟨y, hy, rfl⟩ := List.mem_map.mp hd
    have hle : ∀ z ∈ l, ltL z y = false := fun z hz => by
      have hm : tI z ∈ tI y :: r := hp.mem_iff.mpr (List.mem_map.mpr ⟨z, hz, rfl⟩)
      rcases List.mem_cons.mp hm with e | e
      · have e' : sameD (tI z) (tI y) = true := by
          rw [e]
          exact (same_tI y y).trans (decide_eq_true rfl)
        rw [same_tI] at e'
        rw [of_decide_eq_true e']
        exact ltL_irr y
      · have := (List.pairwise_cons.mp hs).1 _ e
        rwa [ltD_tI] at this
    rw [least_uniq (l := l) (m := l) (fun z => Iff.rfl) hx hx2 hy hle]
    rfl
theorem sorted_ne {l : List (List Int)} (h : ∀ x ∈ l, x ≠ []) : b1D .sorted (.list (tIs l)) = some (.list (isort (tIs l))) := by
  have e : sortD (tIs l) = some (isort (tIs l)) := by
    unfold sortD
    rw [all_TI h, Bool.or_true, if_pos rfl]
  show (match sortD (tIs l) with
    | some ys => some (PySem.PyData.list ys)
    | none => none) = _
  rw [e]
theorem Rc.sm {p a b : Int} (h : Rc p a b) : smI a = true ∧ smI b = true := by
  have hb := pr_bd p h.1
  obtain ⟨_, h0, h1, h2, h3⟩ := h
  exact ⟨smI_of h0 (by omega), smI_of h2 (by omega)⟩
theorem hKind (k : Nat) : HKind (C (k+2)) := fun p a b S hc => by
  have hp := hc.1
  rw [c31]
  refine (if_pos rfl).trans ?_
  have hb := pr_bd p hp
  have e1 := comp_orb (Cl := C (k+1)) (f := 30) (i := 1) (ρ := [some (.d (tI [p, a, b])), none]) (s := S) hp rfl (by simp) (by decide) (fun u hu S => hLMove k p a b u S (by omega) hc.sm.1 hc.sm.2 (rr_sm hp hu))
  have e2 : b1D .sorted (.list (tIs (orb p a b))) = some (.list (isort (tIs (orb p a b)))) := sorted_ne fun x hx => by
    obtain ⟨u, _, _, rfl⟩ := orb_mem.mp hx
    exact List.cons_ne_nil _ _
  obtain ⟨q1, q2⟩ := hm_ok hp a b
  have e3 : ixD (.list (isort (tIs (orb p a b)))) (.int 0) = some (tI (hm p a b)) := atI_nat (i := 0) (head_isort q1 q2)
  exact (back_of (x := tI (hm p a b)) (s := S) (rt_of (ret_of (ix_of (rb := .d (.int 0)) (s2 := S) (b1_of e1 rfl e2) (ev_int _ _ _ _) rfl rfl e3)))).trans (by simp)
def mvr (p a b : Int) (g : List Int) : List Int := (rr p).filter fun u => decide (mv p a b u = g)
def HMovers (Cl : Call) : Prop := ∀ (p a b : Int) (g : List Int) (S : Store), p ∈ primes → Cl 15 [.d (tI [p, a, b]), .d (tI g)] S = some (.d (lI (mvr p a b g)), S)
theorem hMovers (k : Nat) : HMovers (C (k+2)) := fun p a b g S hp => by
  rw [c15]
  refine (if_pos rfl).trans ?_
  have hb := pr_bd p hp
  have e1 := comp_rr (Cl := C (k+1)) (b := .ix (.var 0) (.int 0)) (c := .cmp .eq (.call 13 (.cons (.var 0) (.cons (.var 2) .nil))) (.var 1)) (i := 2) (ρ := [some (.d (tI [p, a, b])), some (.d (tI g)), none]) (s := S) (p := p) (fun u => decide (mv p a b u = g)) (ix0 rfl) (by omega) (by omega) (by simp) (fun x x0 x1 acc => by
    refine cmp_of (x := tI (mv p a b x)) (y := tI g) (rb := .d (tI g)) (s2 := (S ++ [Cell.lst acc] : Store)) ((call2 (s1 := (S ++ [Cell.lst acc] : Store)) (s2 := (S ++ [Cell.lst acc] : Store)) (va := .d (tI [p, a, b])) (vb := .d (.int x)) (var_of rfl) (var_of rfl)).trans (hMoved k p a b x _ (by omega) (smI_of (by omega) (by omega)))) (var_of rfl) rfl rfl (eq_tI _ _))
  exact (back_of (s := S) (rt_of (ret_of e1))).trans (by simp [mvr])
end LAW
end
section
namespace LAW
open PC
/-! ### one curve of each kind -/
def rep (p a b : Int) : Bool := !decide (dsc p a b = 0) && decide (hm p a b = [p, a, b])
def row (p a : Int) (n : Nat) : List (List Int) := ((rg n).filter fun b => rep p a b).map fun b => [p, a, b]
def rows (p : Int) (n : Nat) : List (List Int) := (rg n).flatMap fun a => row p a p.toNat
def kinds (p : Int) : List (List Int) := rows p p.toNat
theorem row_succ (p a : Int) (n : Nat) : row p a (n + 1) = if rep p a n = true then row p a n ++ [[p, a, (n : Int)]] else row p a n := by
  unfold row
  rw [rg_succ, List.filter_append, List.map_append]
  by_cases h : rep p a n = true
  · rw [if_pos h]; simp [h]
  · rw [if_neg h]; simp [h]
theorem rows_succ (p : Int) (n : Nat) : rows p (n + 1) = rows p n ++ row p n p.toNat := by
  unfold rows
  rw [rg_succ, List.flatMap_append]
  simp
theorem rg_in {n : Nat} {x : Int} : x ∈ rg n ↔ 0 ≤ x ∧ x < n := by
  constructor
  · intro h
    obtain ⟨i, hi, rfl⟩ := rg_mem h
    omega
  · rintro ⟨h0, h1⟩
    exact List.mem_map.mpr ⟨x.toNat, List.mem_range.mpr (by omega), by omega⟩
theorem mem_row {p a : Int} {n : Nat} {x : List Int} : x ∈ row p a n ↔ ∃ d, x = [p, a, d] ∧ rep p a d = true ∧ 0 ≤ d ∧ d < n := by
  unfold row
  rw [List.mem_map]
  constructor
  · rintro ⟨d, hd, rfl⟩
    obtain ⟨h1, h2⟩ := List.mem_filter.mp hd
    exact ⟨d, rfl, h2, (rg_in.mp h1).1, (rg_in.mp h1).2⟩
  · rintro ⟨d, rfl, h, h0, h1⟩
    exact ⟨d, List.mem_filter.mpr ⟨rg_in.mpr ⟨h0, h1⟩, h⟩, rfl⟩
theorem mem_F {p : Int} {i j : Nat} {x : List Int} (hp : 0 ≤ p) : x ∈ rows p i ++ row p i j ↔ ∃ c d, x = [p, c, d] ∧ rep p c d = true ∧ 0 ≤ c ∧ 0 ≤ d ∧ ((c < i ∧ d < p) ∨ (c = i ∧ d < j)) := by
  rw [List.mem_append, mem_row]
  unfold rows
  rw [List.mem_flatMap]
  constructor
  · rintro (⟨a, ha, h⟩ | ⟨d, rfl, h, h0, h1⟩)
    · obtain ⟨d, rfl, h, h0, h1⟩ := mem_row.mp h
      have := rg_in.mp ha
      exact ⟨a, d, rfl, h, this.1, h0, .inl ⟨this.2, by omega⟩⟩
    · exact ⟨i, d, rfl, h, by omega, h0, .inr ⟨rfl, h1⟩⟩
  · rintro ⟨c, d, rfl, h, h0, h1, (⟨h2, h3⟩ | ⟨rfl, h3⟩)⟩
    · exact .inl ⟨c, rg_in.mpr ⟨h0, h2⟩, mem_row.mpr ⟨d, rfl, h, h1, by omega⟩⟩
    · exact .inr ⟨d, rfl, h, h1, h3⟩
theorem mem_kinds {p : Int} {x : List Int} (hp : 0 ≤ p) : x ∈ kinds p ↔ ∃ c d, x = [p, c, d] ∧ rep p c d = true ∧ 0 ≤ c ∧ c < p ∧ 0 ≤ d ∧ d < p := by
  have h := mem_F (p := p) (i := p.toNat) (j := 0) (x := x) hp
  have e : row p (p.toNat : Nat) 0 = [] := rfl
  rw [e, List.append_nil] at h
  refine h.trans ⟨?_, ?_⟩
  · rintro ⟨c, d, rfl, h, h0, h1, (⟨h2, h3⟩ | ⟨rfl, h3⟩)⟩
    · exact ⟨c, d, rfl, h, h0, by omega, h1, h3⟩
    · omega
  · rintro ⟨c, d, rfl, h, h0, h1, h2, h3⟩
    exact ⟨c, d, rfl, h, h0, h2, .inl ⟨by omega, h3⟩⟩
theorem ltL3 (p a b c d : Int) : ltL [p, a, b] [p, c, d] = decide (a < c ∨ (a = c ∧ b < d)) := by
  unfold ltL
  rw [if_pos rfl]
  unfold ltL
  by_cases h : a = c
  · rw [if_pos h]
    unfold ltL
    by_cases h2 : b = d
    · rw [if_pos h2]
      subst h h2
      have : ltL [] [] = false := rfl
      rw [this]
      symm
      exact decide_eq_false (by omega)
    · rw [if_neg h2]
      subst h
      by_cases h3 : b < d
      · rw [decide_eq_true h3]; symm; exact decide_eq_true (.inr ⟨rfl, h3⟩)
      · rw [decide_eq_false h3]; symm; exact decide_eq_false (by omega)
  · rw [if_neg h]
    by_cases h3 : a < c
    · rw [decide_eq_true h3]; symm; exact decide_eq_true (.inl h3)
    · rw [decide_eq_false h3]; symm; exact decide_eq_false (by omega)
theorem orb_self {p a b : Int} (h : Rc p a b) : [p, a, b] ∈ orb p a b := orb_mem.mpr ⟨1, by decide, by have := pr_bd p h.1; omega, mv_one h⟩
theorem ne_mul {p u v : Int} (hp : p ∈ primes) (h0 : u % p ≠ 0) (h1 : v % p ≠ 0) : u * v % p ≠ 0 := fun e => by
  rcases cg_zero hp (cg0_iff.mpr e) with q | q
  · exact h0 q
  · exact h1 q
theorem dsc_mv {p a b u : Int} (hp : p ∈ primes) (hu : u % p ≠ 0) (h : dsc p a b ≠ 0) : dsc p (mvA p a u) (mvB p b u) ≠ 0 := by
  have u2 := ne_mul hp hu hu
  have u4 := ne_mul hp u2 u2
  have u8 := ne_mul hp u4 u4
  have q := ne_mul hp (ne_mul hp u8 u4) (show (4 * a * a * a + 27 * b * b) % p ≠ 0 from h)
  have e : Cg p (4 * mvA p a u * mvA p a u * mvA p a u + 27 * mvB p b u * mvB p b u) (u * u * (u * u) * (u * u * (u * u)) * (u * u * (u * u)) * (4 * a * a * a + 27 * b * b)) := by
    unfold mvA mvB
    apply Cg.both
    · repeat' first | apply Cg.modl | apply Cg.add | apply Cg.sub | apply Cg.mul | apply Cg.neg | apply Cg.refl
    · repeat' first | apply Cg.modl | apply Cg.add | apply Cg.sub | apply Cg.mul | apply Cg.neg | apply Cg.refl
    · exact Cg.of_eq (by grind)
  unfold dsc
  rw [show (4 * mvA p a u * mvA p a u * mvA p a u + 27 * mvB p b u * mvB p b u) % p = _ from e]
  exact q
theorem hm_rep {p a b : Int} (h : Rc p a b) (hd : dsc p a b ≠ 0) : ∃ c d, hm p a b = [p, c, d] ∧ Rc p c d ∧ rep p c d = true ∧ [p, a, b] ∈ orb p c d ∧ ltL [p, a, b] [p, c, d] = false := by
  have hp := h.1
  obtain ⟨q1, q2⟩ := hm_ok hp a b
  obtain ⟨u, u0, u1, hu⟩ := orb_mem.mp q1
  refine ⟨mvA p a u, mvB p b u, hu.symm, mv_bd hp a b u, ?_, (orb_mv hp u0 u1 _).mpr (orb_self h), ?_⟩
  · unfold rep
    rw [hm_mv hp u0 u1, ← hu, decide_eq_true rfl, decide_eq_false (dsc_mv hp (unit_mod u0 u1) hd)]
    rfl
  · have := q2 _ (orb_self h)
    rwa [← hu] at this
theorem rep_iff {p a b : Int} : rep p a b = true ↔ dsc p a b ≠ 0 ∧ hm p a b = [p, a, b] := by
  unfold rep
  rw [Bool.and_eq_true]
  constructor
  · rintro ⟨h1, h2⟩
    exact ⟨fun e => (by rw [decide_eq_true e] at h1; exact Bool.noConfusion h1), of_decide_eq_true h2⟩
  · rintro ⟨h1, h2⟩
    exact ⟨by rw [decide_eq_false h1]; rfl, decide_eq_true h2⟩
def Known (p : Int) (F ks : List (List Int)) : Prop := ∀ x, x ∈ ks ↔ ∃ c d, [p, c, d] ∈ F ∧ x ∈ orb p c d
/-- a curve is known just when another stands for it -/
theorem known_iff {p : Int} {i j : Nat} {ks : List (List Int)} (hp : p ∈ primes) (hi : (i : Int) < p) (hj : (j : Int) < p) (hd : dsc p i j ≠ 0) (hk : Known p (rows p i ++ row p i j) ks) : decide ([p, (i : Int), (j : Int)] ∈ ks) = !rep p i j := by
  have hb := pr_bd p hp
  have hc : Rc p i j := ⟨hp, by omega, hi, by omega, hj⟩
  by_cases hr : rep p i j = true
  · rw [hr]
    refine decide_eq_false fun hm => ?_
    obtain ⟨c, d, h1, h2⟩ := (hk _).mp hm
    obtain ⟨c', d', e, r, c0, d0, hlt⟩ := (mem_F (by omega)).mp h1
    obtain ⟨rfl, rfl⟩ : c = c' ∧ d = d' := by simpa using e
    obtain ⟨u, u0, u1, hu⟩ := orb_mem.mp h2
    obtain ⟨e1, e2⟩ : mvA p c u = i ∧ mvB p d u = j := by simpa [mv] using hu
    have q := hm_mv (a := c) (b := d) hp u0 u1
    rw [e1, e2, (rep_iff.mp hr).2, (rep_iff.mp r).2] at q
    obtain ⟨rfl, rfl⟩ : (i : Int) = c ∧ (j : Int) = d := by simpa using q
    omega
  · have hr' : rep p i j = false := by simpa using hr
    rw [hr']
    refine decide_eq_true ((hk _).mpr ?_)
    obtain ⟨c, d, e, hc2, r, ho, hl⟩ := hm_rep hc hd
    refine ⟨c, d, (mem_F (by omega)).mpr ⟨c, d, rfl, r, hc2.2.1, hc2.2.2.2.1, ?_⟩, ho⟩
    rw [ltL3] at hl
    have hl := of_decide_eq_false hl
    have hne : ¬ (c = i ∧ d = j) := fun ⟨e1, e2⟩ => hr (rep_iff.mpr ⟨hd, by rw [e, e1, e2]⟩)
    have := hc2.2.2.1
    have := hc2.2.2.2.2
    omega
theorem Known.add {p : Int} {F ks : List (List Int)} {c d : Int} (h : Known p F ks) : Known p (F ++ [[p, c, d]]) (((orb p c d).foldl insK []).foldl insK ks) := fun x => by
  rw [mem_insKs, mem_insKs, h x]
  constructor
  · rintro (⟨c', d', h1, h2⟩ | h | h)
    · exact ⟨c', d', List.mem_append_left _ h1, h2⟩
    · cases h
    · exact ⟨c, d, List.mem_append_right _ (List.mem_singleton.mpr rfl), h⟩
  · rintro ⟨c', d', h1, h2⟩
    rcases List.mem_append.mp h1 with h1 | h1
    · exact .inl ⟨c', d', h1, h2⟩
    · obtain ⟨rfl, rfl⟩ : c' = c ∧ d' = d := by simpa using List.mem_singleton.mp h1
      exact .inr (.inr h2)
theorem first_up : (primes.all fun p => upOk [] (putsT (orb p 0 1) (.bool true) [])) = true := by decide +kernel
theorem kinds_lt {p : Int} : (kinds p).Pairwise fun a b => ltL a b = true := by
  have hrg : ∀ n, (rg n).Pairwise fun a b : Int => a < b := fun n => List.pairwise_map.mpr (List.pairwise_lt_range.imp fun {a b} h => by omega)
  unfold kinds rows
  rw [List.pairwise_flatMap]
  refine ⟨fun a _ => ?_, (hrg _).imp fun {a b} hab x hx y hy => ?_⟩
  · unfold row
    refine List.pairwise_map.mpr (((hrg _).filter _).imp fun {x y} h => ?_)
    rw [ltL3]
    exact decide_eq_true (.inr ⟨rfl, h⟩)
  · obtain ⟨d, rfl, _⟩ := mem_row.mp hx
    obtain ⟨e, rfl, _⟩ := mem_row.mp hy
    rw [ltL3]
    exact decide_eq_true (.inl hab)
end LAW
end
section
namespace LAW
open PC
/-! ### the walk through the kinds -/
abbrev st2 (S : Store) (F : List (List Int)) (kvs : List (D × D)) : Store := S ++ [Cell.lst (tIs F), Cell.dct true kvs]
theorem two0 (S : Store) (a b : Cell) : (S ++ [a, b])[S.length]? = some a := by simp
theorem two1 (S : Store) (a b : Cell) : (S ++ [a, b])[S.length + 1]? = some b := by simp
theorem dict2 (S : Store) (F : List (List Int)) (kvs : List (D × D)) : dictOf (.loc (S.length + 1)) (st2 S F kvs) = some (true, kvs) := by simp [dictOf, st2]
theorem twoS0 (S : Store) (a b c : Cell) : (S ++ [a, b]).set S.length c = S ++ [c, b] := by simp
theorem twoS1 (S : Store) (a b c : Cell) : (S ++ [a, b]).set (S.length + 1) c = S ++ [a, c] := by simp
theorem rng1_ok {Cl : Call} {a : E} {ρ : Env} {s : Store} {p : Int} (h : evE Cl a ρ s = some (.d (.int p), s)) (h0 : 0 ≤ p) (h1 : p < 1000) : evIt Cl (.rng1 a) ρ s = some (.rng 0 1 p.toNat, s) := by
  rw [evi_rng1, h]
  simp only []
  have r2 : rngOk p = true := by
    have := rngOk_nat (n := p.toNat) (by omega)
    have e : ((p.toNat : Nat) : Int) = p := by omega
    rwa [e] at this
  rw [r2]
  rfl
theorem rg_it {n i : Nat} {x : D} (hx : (iL (rg n))[i]? = some x) : i < n ∧ x = .int (i : Int) := by
  have hi : i < n := by
    have := (List.getElem?_eq_some_iff.mp hx).1
    rwa [iL_len, rg_len] at this
  refine ⟨hi, ?_⟩
  rw [iL_get] at hx
  have : (rg n)[i]? = some (i : Int) := by simp [rg, hi]
  rw [this] at hx
  exact (Option.some.inj hx).symm
def HKinds (Cl : Call) : Prop := ∀ (p : Int) (S : Store), p ∈ primes → Cl 17 [.d (.int p)] S = some (.d (.list (tIs (kinds p))), S)
def innK : Ss := (.cons (.asg (.name 5) (.tup (.cons (.var 0) (.cons (.var 3) (.cons (.var 4) .nil)))))
    (.cons (.if_ (.and (.cmp .ne (.bin .mod (.bin .add (.bin .mul (.bin .mul (.bin .mul (.int 4) (.var 3)) (.var 3)) (.var 3)) (.bin .mul (.bin .mul (.int 27) (.var 4)) (.var 4))) (.var 0)) (.int 0)) (.din true (.var 5) (.var 2))) (.cons (.dupd (.var 2) (.dcomp (.name 6) [6] (.rng2 (.int 1) (.var 0)) (.call 13 (.cons (.var 5) (.cons (.var 6) .nil))) (.bl true)))
    (.cons (.app (.var 1) (.var 5))
    .nil)) .nil)
    .nil))
/-- the words of the loops -/
def KI (p : Int) (S : Store) (i j : Nat) (x3 x4 x5 : Option R) (ρ : Env) (s : Store) : Prop := ∃ kvs ks, KS kvs ks ∧ Known p (rows p i ++ row p i j) ks ∧ kvs.length ≤ 60 * (i * 62 + j) ∧ (kvs ≠ [] ∨ (i = 0 ∧ j ≤ 1)) ∧
  ρ = [some (.d (.int p)), some (.loc S.length), some (.loc (S.length + 1)), x3, x4, x5, none] ∧ s = st2 S (rows p i ++ row p i j) kvs
theorem rows_len (p : Int) (hp : p ∈ primes) : ∀ i j : Nat, j ≤ p.toNat → (rows p i ++ row p i j).length ≤ i * 62 + j := by
  have hb := pr_bd p hp
  have h1 : ∀ (a : Int) (n : Nat), (row p a n).length ≤ n := fun a n => by
    unfold row
    rw [List.length_map]
    exact Nat.le_trans (List.length_filter_le _ _) (by rw [rg_len]; exact Nat.le_refl _)
  have h2 : ∀ i, (rows p i).length ≤ i * 62 := fun i => by
    induction i with
    | zero => exact Nat.le_refl _
    | succ i ih =>
      rw [rows_succ, List.length_append]
      have := h1 i p.toNat
      omega
  intro i j _
  rw [List.length_append]
  have := h1 i j
  have := h2 i
  omega
theorem dcomp_mv {Cl : Call} (hM : HMoved Cl) {p a b : Int} {ρ : Env} {s : Store} (hp : p ∈ primes) (h0 : ρ[0]? = some (some (.d (.int p)))) (h5 : ρ[5]? = some (some (.d (tI [p, a, b])))) (hl : ρ.length = 7) :
    evE Cl (.dcomp (.name 6) [6] (.rng2 (.int 1) (.var 0)) (.call 13 (.cons (.var 5) (.cons (.var 6) .nil))) (.bl true)) ρ s = some (.dic true (putsT (orb p a b) (.bool true) []), s) := by
  have hb := pr_bd p hp
  refine ev_dcompT (J := .rng 1 1 (p - 1).toNat) (rr p) PySem.PyData.int (mv p a b) (.bool true) (rng2_ok (var_of h0) (by omega) (by omega)) (rr_len p).symm (by rw [rr_len]; omega) (fun j c x hx => ?_) (fun c => rfl) (fun x hx c => ?_)
  · have hj : j < (rr p).length := (List.getElem?_eq_some_iff.mp hx).1
    rw [rr_get _ _ _ hj, iL_get, hx]
    rfl
  · unfold stepDC
    rw [asg_name]
    simp only []
    rw [(call2 (C := Cl) (f := 13) (a := .var 5) (b := .var 6) (ρ := (wipeE ρ [6]).set 6 (some (.d (.int x)))) (s := (s ++ [c] : Store)) (s1 := (s ++ [c] : Store)) (s2 := (s ++ [c] : Store)) (va := .d (tI [p, a, b])) (vb := .d (.int x)) (var_of ?_) (var_of ?_)).trans (hM p a b x _ (by omega) (rr_sm hp hx))]
    · simp only []
      rw [ev_bl]
    · rw [List.getElem?_set_ne (by decide), wipe_cons, wipe_nil, List.getElem?_set_ne (by decide)]
      exact h5
    · rw [List.getElem?_set_self]
      simp [wipe_cons, wipe_nil, hl]
theorem inn_step {Cl : Call} (hM : HMoved Cl) (p : Int) (S : Store) (hp : p ∈ primes) (i j : Nat) (hi : i < p.toNat) (hj : j < p.toNat) (x4 x5 : Option R) (ρ : Env) (s : Store) (h : KI p S i j (some (.d (.int (i : Nat)))) x4 x5 ρ s) :
    ∃ ρ' s', stepF Cl 1000000 (.name 4) innK (.int (j : Nat)) ρ s = some (.nx ρ' s') ∧ KI p S i (j + 1) (some (.d (.int (i : Nat)))) (some (.d (.int (j : Nat)))) (some (.d (tI [p, i, j]))) ρ' s' := by
  obtain ⟨kvs, ks, hks, hk, hl, hne, rfl, rfl⟩ := h
  have hb := pr_bd p hp
  have hp0 : 0 < p := by omega
  have si : smI (i : Int) = true := smI_of (by omega) (by omega)
  have sj : smI (j : Int) = true := smI_of (by omega) (by omega)
  obtain ⟨F, hF⟩ : ∃ F, rows p i ++ row p i j = F := ⟨_, rfl⟩
  have hFl := rows_len p hp i j (by omega)
  rw [hF] at hk hFl ⊢
  let ρ1 : Env := [some (.d (.int p)), some (.loc S.length), some (.loc (S.length + 1)), some (.d (.int (i : Nat))), some (.d (.int (j : Nat))), some (.d (tI [p, i, j])), none]
  have e0 : evE Cl (.tup (.cons (.var 0) (.cons (.var 3) (.cons (.var 4) .nil)))) [some (.d (.int p)), some (.loc S.length), some (.loc (S.length + 1)), some (.d (.int (i : Nat))), some (.d (.int (j : Nat))), x5, none] (st2 S F kvs) = some (.d (tI [p, i, j]), st2 S F kvs) := by
    simp [ev_var, ev_glob, ev_int, ev_bl, ev_non, ev_str, ev_bin, ev_neg, ev_not, ev_and, ev_or, ev_cmp, ev_chain, ev_ite, ev_ix, ev_slo, ev_shi, ev_rev, ev_tup, ev_lst, ev_b1, ev_b2, ev_isi, ev_call, ev_lcnt, ev_lidx, ev_dget, ev_dix, ev_din, ev_dkeys, evs_nil, evs_cons, evi_rng1, evi_rng2, evi_rng3, evi_seq, evi_zip, ex_asg, ex_thaw, ex_par, ex_aug, ex_seti, ex_augi, ex_if_, ex_ret, ex_app, ex_ext, ex_pop, ex_dnew, ex_dset, ex_dupd, ex_expr, ex_parG, ex_pass, exs_nil, exs_cons, ex_for_, ex_whl, ev_comp, binI_add, binI_sub, binI_mulL, binI_mulR, binI_div, binI_mod, bin_int, cmp_int, cmpI_eq, cmpI_ne, cmpI_lt, cmpI_le, cmpI_gt, cmpI_ge, view_d, viewS_d, viewS_scr, b1_len_list, b1_len_tuple, b1_int_int, b1_tuple_list, b1_list_list, b1_list_tuple, ix_list, ix_tuple, asg_name, asg_tupT, asg_tupL, asg_tupK, viewS_kt, globR_tup, globR_str, slR_d, slR_scr, slR_kt, dict_dic, key_int, asgs_nil, asgs_cons, back_rt, back_nx, st_F, te_W, bd_W, st_C0, st_C1, wipe_nil, wipe_cons, sets_nil, sets_cons, pures_nil, pures_cons, rng_n, seq_n, rng_get, seq_list, seq_tuple, seq_getT, seq_getL, seq_getS, rng_fin, start_eq, iL_len, iL_snoc, iL_nil, szk, iL_cons]
  have e1 : evE Cl (.cmp .ne (.bin .mod (.bin .add (.bin .mul (.bin .mul (.bin .mul (.int 4) (.var 3)) (.var 3)) (.var 3)) (.bin .mul (.bin .mul (.int 27) (.var 4)) (.var 4))) (.var 0)) (.int 0)) ρ1 (st2 S F kvs) = some (.d (.bool (!decide (dsc p i j = 0))), st2 S F kvs) := by
    simp [ev_var, ev_glob, ev_int, ev_bl, ev_non, ev_str, ev_bin, ev_neg, ev_not, ev_and, ev_or, ev_cmp, ev_chain, ev_ite, ev_ix, ev_slo, ev_shi, ev_rev, ev_tup, ev_lst, ev_b1, ev_b2, ev_isi, ev_call, ev_lcnt, ev_lidx, ev_dget, ev_dix, ev_din, ev_dkeys, evs_nil, evs_cons, evi_rng1, evi_rng2, evi_rng3, evi_seq, evi_zip, ex_asg, ex_thaw, ex_par, ex_aug, ex_seti, ex_augi, ex_if_, ex_ret, ex_app, ex_ext, ex_pop, ex_dnew, ex_dset, ex_dupd, ex_expr, ex_parG, ex_pass, exs_nil, exs_cons, ex_for_, ex_whl, ev_comp, binI_add, binI_sub, binI_mulL, binI_mulR, binI_div, binI_mod, bin_int, cmp_int, cmpI_eq, cmpI_ne, cmpI_lt, cmpI_le, cmpI_gt, cmpI_ge, view_d, viewS_d, viewS_scr, b1_len_list, b1_len_tuple, b1_int_int, b1_tuple_list, b1_list_list, b1_list_tuple, ix_list, ix_tuple, asg_name, asg_tupT, asg_tupL, asg_tupK, viewS_kt, globR_tup, globR_str, slR_d, slR_scr, slR_kt, dict_dic, key_int, asgs_nil, asgs_cons, back_rt, back_nx, st_F, te_W, bd_W, st_C0, st_C1, wipe_nil, wipe_cons, sets_nil, sets_cons, pures_nil, pures_cons, rng_n, seq_n, rng_get, seq_list, seq_tuple, seq_getT, seq_getL, seq_getS, rng_fin, start_eq, iL_len, iL_snoc, iL_nil, hp0, si, sj, dsc, ρ1]
    exact decide_eq_decide.mpr Iff.rfl
  have e2 : evE Cl (.din true (.var 5) (.var 2)) ρ1 (st2 S F kvs) = some (.d (.bool (!decide ([p, (i : Int), (j : Int)] ∈ ks))), st2 S F kvs) := by
    refine (din_of (n := true) (k := tI [p, i, j]) (s1 := st2 S F kvs) (s2 := st2 S F kvs) (rb := .loc (S.length + 1)) (t := true) (kvs := kvs) (ρ := ρ1) (var_of rfl) (var_of rfl) (dict2 _ _ _) (keyT_tI _)).trans ?_
    rw [if_pos rfl, hks.find]
  have ec : evE Cl (.and (.cmp .ne (.bin .mod (.bin .add (.bin .mul (.bin .mul (.bin .mul (.int 4) (.var 3)) (.var 3)) (.var 3)) (.bin .mul (.bin .mul (.int 27) (.var 4)) (.var 4))) (.var 0)) (.int 0)) (.din true (.var 5) (.var 2))) ρ1 (st2 S F kvs) = some (.d (.bool (rep p i j)), st2 S F kvs) := by
    rw [ev_and, e1]
    by_cases hd : dsc p i j = 0
    · rw [decide_eq_true hd]
      have : rep p i j = false := by unfold rep; rw [decide_eq_true hd]; rfl
      rw [this]
      rfl
    · rw [decide_eq_false hd]
      show evE Cl (.din true (.var 5) (.var 2)) ρ1 _ = _
      rw [e2, known_iff hp (by omega) (by omega) hd (by rw [hF]; exact hk), Bool.not_not]
  by_cases hr : rep p i j = true
  · rw [hr] at ec
    have hd := (rep_iff.mp hr).1
    have hup : upOk kvs (putsT (orb p i j) (.bool true) []) = true := by
      by_cases hn : kvs = []
      · have h01 : i = 0 ∧ j = 1 := by
          rcases hne with h | ⟨h1, h2⟩
          · exact absurd hn h
          · refine ⟨h1, ?_⟩
            have : j ≠ 0 := fun e => by
              subst h1 e
              exact hd (by unfold dsc; simp)
            omega
        obtain ⟨rfl, rfl⟩ := h01
        rw [hn]
        exact List.all_eq_true.mp first_up p hp
      · exact upOk_ne hn
    have hol : (putsT (orb p i j) (.bool true) []).length ≤ 60 := by
      have := puts_len (.bool true) (orb p i j) []
      rw [orb_len] at this
      have : ([] : List (D × D)).length = 0 := rfl
      omega
    have ed := dcomp_mv (Cl := Cl) hM (p := p) (a := i) (b := j) (ρ := ρ1) (s := st2 S F kvs) hp rfl rfl rfl
    have hF2 : rows p i ++ row p i (j + 1) = F ++ [[p, (i : Int), (j : Int)]] := by rw [row_succ, if_pos hr, ← List.append_assoc, hF]
    have hKS := (KS.puts (.bool true) (ls := orb p i j) KS.nil).merge hks
    refine ⟨ρ1, st2 S (F ++ [[p, (i : Int), (j : Int)]]) (dMerge kvs (putsT (orb p i j) (.bool true) [])), ?_, dMerge kvs (putsT (orb p i j) (.bool true) []), _, hKS, ?_, ?_, .inl (dMerge_ne _ _ (.inr ?_)), rfl, by rw [hF2]⟩
    · rw [st_F, asg_name]
      simp only [List.set]
      refine (nx_of (ρ' := ρ1) (s1 := st2 S F kvs) (asg_of e0 rfl)).trans ?_
      refine (nx_of (ρ' := ρ1) (s1 := st2 S (F ++ [[p, (i : Int), (j : Int)]]) (dMerge kvs (putsT (orb p i j) (.bool true) []))) ((if_t (s1 := st2 S F kvs) ec).trans ?_)).trans (exs_nil _ _ _ _)
      refine (nx_of (ρ' := ρ1) (s1 := st2 S F (dMerge kvs (putsT (orb p i j) (.bool true) []))) ?_).trans ?_
      · refine (dupd_of (n := S.length + 1) (s1 := st2 S F kvs) (kvs0 := kvs) (kvs := kvs) (more := putsT (orb p i j) (.bool true) []) (s2 := st2 S F kvs) (var_of rfl) (two1 _ _ _) ed (two1 _ _ _) hup (by omega)).trans ?_
        rw [twoS1]
      · refine (nx_of (ρ' := ρ1) (s1 := st2 S (F ++ [[p, (i : Int), (j : Int)]]) (dMerge kvs (putsT (orb p i j) (.bool true) []))) ?_).trans (exs_nil _ _ _ _)
        have hc : cellAt (st2 S F (dMerge kvs (putsT (orb p i j) (.bool true) []))) S.length = some (tIs F) := by unfold cellAt; rw [two0]
        refine (app_of (n := S.length) (s1 := st2 S F (dMerge kvs (putsT (orb p i j) (.bool true) []))) (xs0 := tIs F) (xs := tIs F) (y := tI [p, i, j]) (s2 := st2 S F (dMerge kvs (putsT (orb p i j) (.bool true) []))) (var_of rfl) hc (var_of rfl) hc (by rw [tIs_len]; omega)).trans ?_
        unfold setCell
        have ea : tIs (F ++ [[p, (i : Int), (j : Int)]]) = tIs F ++ [tI [p, i, j]] := tIs_app _ _
        unfold st2
        rw [twoS0, ea]
    · rw [hF2]; exact hk.add
    · rw [hKS.len]
      have h1 := insKs_len ((orb p i j).foldl insK []) ks
      have h2 := insKs_len (orb p i j) []
      rw [orb_len] at h2
      have h3 := hks.len
      have : ([] : List (List Int)).length = 0 := rfl
      omega
    · intro e
      have q := KS.puts (.bool true) (ls := orb p i j) KS.nil
      rw [e] at q
      have hm : [p, (i : Int), (j : Int)] ∈ (orb p i j).foldl insK [] := mem_insKs.mpr (.inr (orb_self ⟨hp, by omega, by omega, by omega, by omega⟩))
      have q2 := q.len
      cases hq : (orb p i j).foldl insK [] with
      | nil => rw [hq] at hm; cases hm
      | cons _ _ => rw [hq] at q2; cases q2
  · have hr' : rep p i j = false := by simpa using hr
    rw [hr'] at ec
    have hF2 : rows p i ++ row p i (j + 1) = F := by rw [row_succ, if_neg hr, hF]
    refine ⟨ρ1, st2 S F kvs, ?_, kvs, ks, hks, by rw [hF2]; exact hk, by omega, ?_, rfl, by rw [hF2]⟩
    · rw [st_F, asg_name]
      simp only [List.set]
      refine (nx_of (ρ' := ρ1) (s1 := st2 S F kvs) (asg_of e0 rfl)).trans ?_
      refine (nx_of (ρ' := ρ1) (s1 := st2 S F kvs) ((if_f (s1 := st2 S F kvs) ec).trans (exs_nil _ _ _ _))).trans (exs_nil _ _ _ _)
    · rcases hne with h | ⟨h1, h2⟩
      · exact .inl h
      · by_cases hj1 : j = 1
        · exfalso
          subst h1 hj1
          have hd : dsc p (0 : Nat) (1 : Nat) ≠ 0 := by
            have : primes.all (fun p => !decide (dsc p (0 : Nat) (1 : Nat) = 0)) = true := by decide
            have := List.all_eq_true.mp this p hp
            intro e
            rw [decide_eq_true e] at this
            cases this
          have hq := known_iff (i := 0) (j := 1) hp (by omega) (by omega) hd (by rw [hF]; exact hk)
          rw [hr'] at hq
          have hm := of_decide_eq_true hq
          obtain ⟨c, d, h1, _⟩ := (hk _).mp hm
          rw [← hF] at h1
          obtain ⟨c', d', e, r, c0, d0, hlt⟩ := (mem_F (by omega)).mp h1
          have e1 : c' = 0 ∧ d' = 0 := by omega
          obtain ⟨rfl, rfl⟩ := e1
          exact (rep_iff.mp r).1 (by unfold dsc; simp)
        · exact .inr ⟨h1, by omega⟩
theorem kinds_ok {Cl : Call} (hM : HMoved Cl) (p : Int) (S : Store) (hp : p ∈ primes) : back S.length (exSs Cl 1000000 d17.body (start d17.names.length [.d (.int p)]) S) = some (.d (.list (tIs (kinds p))), S) := by
  have hb := pr_bd p hp
  have hr : ∀ (x1 x2 x3 x4 x5 x6 : Option R) (T : Store), evIt Cl (.rng1 (.var 0)) [some (.d (.int p)), x1, x2, x3, x4, x5, x6] T = some (.rng 0 1 p.toNat, T) := fun x1 x2 x3 x4 x5 x6 T => rng1_ok (var_of rfl) (by omega) (by omega)
  obtain ⟨ρ', s', h3, x3, x4, x5, kvs, ks, hks, hk, hl, hne, rfl, rfl⟩ := forN_inv (.rng 0 1 p.toNat) (stepF Cl 1000000 (.name 3) (.cons (.for_ (.name 4) (.rng1 (.var 0)) innK) .nil)) (iL (rg p.toNat)) (by rw [iL_len, rg_len]; rfl)
    (fun i ρ s => ∃ x3 x4 x5, KI p S i 0 x3 x4 x5 ρ s) (ρ := [some (.d (.int p)), some (.loc S.length), some (.loc (S.length + 1)), none, none, none, none]) (s := st2 S [] [])
    ⟨none, none, none, [], [], KS.nil, fun x => ⟨fun h => (by cases h), fun ⟨c, d, h, _⟩ => (by cases h)⟩, Nat.zero_le _, .inr ⟨rfl, Nat.zero_le _⟩, rfl, rfl⟩ (fun i ρ s _ hi => rg_get _ _ _ (by rwa [iL_len, rg_len] at hi)) (fun _ _ _ => rfl)
    (by
      rintro i x ρ s hx ⟨x3, x4, x5, kvs, ks, hks, hk, hl, hne, rfl, rfl⟩
      obtain ⟨hi, rfl⟩ := rg_it hx
      obtain ⟨ρ2, s2, h2, y4, y5, kvs2, ks2, hks2, hk2, hl2, hne2, rfl, rfl⟩ := forN_inv (.rng 0 1 p.toNat) (stepF Cl 1000000 (.name 4) innK) (iL (rg p.toNat)) (by rw [iL_len, rg_len]; rfl)
        (fun j ρ s => ∃ x4 x5, KI p S i j (some (.d (.int (i : Nat)))) x4 x5 ρ s) (ρ := [some (.d (.int p)), some (.loc S.length), some (.loc (S.length + 1)), some (.d (.int (i : Nat))), x4, x5, none]) (s := st2 S (rows p i ++ row p i 0) kvs)
        ⟨x4, x5, kvs, ks, hks, hk, hl, hne, rfl, rfl⟩ (fun j ρ s _ hj => rg_get _ _ _ (by rwa [iL_len, rg_len] at hj)) (fun _ _ _ => rfl)
        (by
          rintro j x ρ s hx ⟨x4, x5, h⟩
          obtain ⟨hj, rfl⟩ := rg_it hx
          obtain ⟨ρ', s', h1, h2⟩ := inn_step hM p S hp i j hi hj x4 x5 ρ s h
          exact ⟨ρ', s', h1, _, _, h2⟩)
      rw [iL_len, rg_len] at hk2 hl2 hne2 h2
      have e1 : rows p i ++ row p i p.toNat = rows p (i + 1) ++ row p ((i + 1 : Nat) : Int) 0 := by
        rw [rows_succ]
        exact (List.append_nil _).symm
      rw [e1] at hk2 h2
      refine ⟨_, _, ?_, some (.d (.int (i : Nat))), y4, y5, kvs2, ks2, hks2, hk2, by omega, ?_, rfl, rfl⟩
      · rw [st_F, asg_name]
        simp only [List.set]
        exact (nx_of (for_of (hr _ _ _ _ _ _ _) h2)).trans (exs_nil _ _ _ _)
      · rcases hne2 with h | ⟨h, h'⟩
        · exact .inl h
        · omega)
  rw [iL_len, rg_len] at h3
  have e1 : rows p p.toNat ++ row p (p.toNat : Nat) 0 = kinds p := List.append_nil _
  rw [e1] at h3
  rw [d17]
  refine (back_loc (s := st2 S (kinds p) kvs) (i := S.length) ?_ (Nat.le_refl _) (two0 _ _ _)).trans (by simp [st2])
  refine (nx_of (ρ' := [some (.d (.int p)), some (.loc S.length), none, none, none, none, none]) (s1 := S ++ [Cell.lst []]) (thaw_of (xs := []) (s1 := S) (by simp [ev_var, ev_glob, ev_int, ev_bl, ev_non, ev_str, ev_bin, ev_neg, ev_not, ev_and, ev_or, ev_cmp, ev_chain, ev_ite, ev_ix, ev_slo, ev_shi, ev_rev, ev_tup, ev_lst, ev_b1, ev_b2, ev_isi, ev_call, ev_lcnt, ev_lidx, ev_dget, ev_dix, ev_din, ev_dkeys, evs_nil, evs_cons, evi_rng1, evi_rng2, evi_rng3, evi_seq, evi_zip, ex_asg, ex_thaw, ex_par, ex_aug, ex_seti, ex_augi, ex_if_, ex_ret, ex_app, ex_ext, ex_pop, ex_dnew, ex_dset, ex_dupd, ex_expr, ex_parG, ex_pass, exs_nil, exs_cons, ex_for_, ex_whl, ev_comp, binI_add, binI_sub, binI_mulL, binI_mulR, binI_div, binI_mod, bin_int, cmp_int, cmpI_eq, cmpI_ne, cmpI_lt, cmpI_le, cmpI_gt, cmpI_ge, view_d, viewS_d, viewS_scr, b1_len_list, b1_len_tuple, b1_int_int, b1_tuple_list, b1_list_list, b1_list_tuple, ix_list, ix_tuple, asg_name, asg_tupT, asg_tupL, asg_tupK, viewS_kt, globR_tup, globR_str, slR_d, slR_scr, slR_kt, dict_dic, key_int, asgs_nil, asgs_cons, back_rt, back_nx, st_F, te_W, bd_W, st_C0, st_C1, wipe_nil, wipe_cons, sets_nil, sets_cons, pures_nil, pures_cons, rng_n, seq_n, rng_get, seq_list, seq_tuple, seq_getT, seq_getL, seq_getS, rng_fin, start_eq, iL_len, iL_snoc, iL_nil, szk]))).trans ?_
  refine (nx_of (ρ' := [some (.d (.int p)), some (.loc S.length), some (.loc (S.length + 1)), none, none, none, none]) (s1 := st2 S [] []) (by simp [ex_dnew, st2, tIs])).trans ?_
  refine (nx_of (for_of (hr _ _ _ _ _ _ _) h3)).trans (rt_of (ret_of (var_of rfl)))
theorem hKinds (k : Nat) : HKinds (C (k+2)) := fun p S hp => by
  rw [c17]
  exact kinds_ok (hMoved k) p S hp
end LAW
end
section
namespace LAW
open PC
/-! ### the law's own kinds -/
def HAllKinds (Cl : Call) : Prop := ∀ (p : Int) (S : Store), p ∈ primes → Cl 32 [.d (.int p)] S = some (.d (.list (tIs (kinds p))), S)
def innA : Ss := (.cons (.if_ (.cmp .ne (.bin .mod (.b1 .int (.bin .add (.bin .mul (.bin .mul (.bin .mul (.int 4) (.var 2)) (.var 2)) (.var 2)) (.bin .mul (.bin .mul (.int 27) (.var 3)) (.var 3)))) (.var 0)) (.int 0)) (.cons (.dset (.var 1) (.call 31 (.cons (.tup (.cons (.var 0) (.cons (.var 2) (.cons (.var 3) .nil)))) .nil)) (.bl true))
    .nil) .nil)
    .nil)
/-- the pairs met so far -/
def Met (p : Int) (i j : Nat) (c d : Int) : Prop := 0 ≤ c ∧ 0 ≤ d ∧ ((c < i ∧ d < p) ∨ (c = i ∧ d < j))
def AI (p : Int) (S : Store) (i j : Nat) (x2 x3 : Option R) (ρ : Env) (s : Store) : Prop := ∃ kvs ks, KS kvs ks ∧ ks.Nodup ∧ (∀ x, x ∈ ks ↔ ∃ c d, Met p i j c d ∧ dsc p c d ≠ 0 ∧ x = hm p c d) ∧ kvs.length ≤ i * 62 + j ∧
  ρ = [some (.d (.int p)), some (.loc S.length), x2, x3] ∧ s = S ++ [Cell.dct true kvs]
theorem met_succ {p : Int} {i j : Nat} {c d : Int} (hp : 0 ≤ p) : Met p i (j + 1) c d ↔ Met p i j c d ∨ (c = i ∧ d = j) := by
  unfold Met
  constructor
  · rintro ⟨h0, h1, (h | ⟨h2, h3⟩)⟩
    · exact .inl ⟨h0, h1, .inl h⟩
    · by_cases e : d = j
      · exact .inr ⟨h2, e⟩
      · exact .inl ⟨h0, h1, .inr ⟨h2, by omega⟩⟩
  · rintro (⟨h0, h1, (h | ⟨h2, h3⟩)⟩ | ⟨rfl, rfl⟩)
    · exact ⟨h0, h1, .inl h⟩
    · exact ⟨h0, h1, .inr ⟨h2, by omega⟩⟩
    · exact ⟨by omega, by omega, .inr ⟨rfl, by omega⟩⟩
theorem inn_stepA {Cl : Call} (hK : HKind Cl) (p : Int) (S : Store) (hp : p ∈ primes) (i j : Nat) (hi : i < p.toNat) (hj : j < p.toNat) (x3 : Option R) (ρ : Env) (s : Store) (h : AI p S i j (some (.d (.int (i : Nat)))) x3 ρ s) :
    ∃ ρ' s', stepF Cl 1000000 (.name 3) innA (.int (j : Nat)) ρ s = some (.nx ρ' s') ∧ AI p S i (j + 1) (some (.d (.int (i : Nat)))) (some (.d (.int (j : Nat)))) ρ' s' := by
  obtain ⟨kvs, ks, hks, hnd, hk, hl, rfl, rfl⟩ := h
  have hb := pr_bd p hp
  have hp0 : 0 < p := by omega
  have si : smI (i : Int) = true := smI_of (by omega) (by omega)
  have sj : smI (j : Int) = true := smI_of (by omega) (by omega)
  let ρ1 : Env := [some (.d (.int p)), some (.loc S.length), some (.d (.int (i : Nat))), some (.d (.int (j : Nat)))]
  have e1 : evE Cl (.cmp .ne (.bin .mod (.b1 .int (.bin .add (.bin .mul (.bin .mul (.bin .mul (.int 4) (.var 2)) (.var 2)) (.var 2)) (.bin .mul (.bin .mul (.int 27) (.var 3)) (.var 3)))) (.var 0)) (.int 0)) ρ1 (S ++ [Cell.dct true kvs]) = some (.d (.bool (!decide (dsc p i j = 0))), S ++ [Cell.dct true kvs]) := by
    simp [ev_var, ev_glob, ev_int, ev_bl, ev_non, ev_str, ev_bin, ev_neg, ev_not, ev_and, ev_or, ev_cmp, ev_chain, ev_ite, ev_ix, ev_slo, ev_shi, ev_rev, ev_tup, ev_lst, ev_b1, ev_b2, ev_isi, ev_call, ev_lcnt, ev_lidx, ev_dget, ev_dix, ev_din, ev_dkeys, evs_nil, evs_cons, evi_rng1, evi_rng2, evi_rng3, evi_seq, evi_zip, ex_asg, ex_thaw, ex_par, ex_aug, ex_seti, ex_augi, ex_if_, ex_ret, ex_app, ex_ext, ex_pop, ex_dnew, ex_dset, ex_dupd, ex_expr, ex_parG, ex_pass, exs_nil, exs_cons, ex_for_, ex_whl, ev_comp, binI_add, binI_sub, binI_mulL, binI_mulR, binI_div, binI_mod, bin_int, cmp_int, cmpI_eq, cmpI_ne, cmpI_lt, cmpI_le, cmpI_gt, cmpI_ge, view_d, viewS_d, viewS_scr, b1_len_list, b1_len_tuple, b1_int_int, b1_tuple_list, b1_list_list, b1_list_tuple, ix_list, ix_tuple, asg_name, asg_tupT, asg_tupL, asg_tupK, viewS_kt, globR_tup, globR_str, slR_d, slR_scr, slR_kt, dict_dic, key_int, asgs_nil, asgs_cons, back_rt, back_nx, st_F, te_W, bd_W, st_C0, st_C1, wipe_nil, wipe_cons, sets_nil, sets_cons, pures_nil, pures_cons, rng_n, seq_n, rng_get, seq_list, seq_tuple, seq_getT, seq_getL, seq_getS, rng_fin, start_eq, iL_len, iL_snoc, iL_nil, hp0, si, sj, dsc, ρ1]
    exact decide_eq_decide.mpr Iff.rfl
  by_cases hd : dsc p i j = 0
  · rw [decide_eq_true hd] at e1
    refine ⟨ρ1, S ++ [Cell.dct true kvs], ?_, kvs, ks, hks, hnd, fun x => (hk x).trans ⟨?_, ?_⟩, by omega, rfl, rfl⟩
    · rw [st_F, asg_name]
      simp only [List.set]
      exact (nx_of (ρ' := ρ1) (s1 := S ++ [Cell.dct true kvs]) ((if_f (s1 := S ++ [Cell.dct true kvs]) e1).trans (exs_nil _ _ _ _))).trans (exs_nil _ _ _ _)
    · rintro ⟨c, d, h1, h2, h3⟩
      exact ⟨c, d, (met_succ (by omega)).mpr (.inl h1), h2, h3⟩
    · rintro ⟨c, d, h1, h2, h3⟩
      rcases (met_succ (by omega)).mp h1 with h | ⟨rfl, rfl⟩
      · exact ⟨c, d, h, h2, h3⟩
      · exact absurd hd h2
  · rw [decide_eq_false hd] at e1
    have et : evE Cl (.tup (.cons (.var 0) (.cons (.var 2) (.cons (.var 3) .nil)))) ρ1 (S ++ [Cell.dct true kvs]) = some (.d (tI [p, i, j]), S ++ [Cell.dct true kvs]) := by
      simp [ev_var, ev_glob, ev_int, ev_bl, ev_non, ev_str, ev_bin, ev_neg, ev_not, ev_and, ev_or, ev_cmp, ev_chain, ev_ite, ev_ix, ev_slo, ev_shi, ev_rev, ev_tup, ev_lst, ev_b1, ev_b2, ev_isi, ev_call, ev_lcnt, ev_lidx, ev_dget, ev_dix, ev_din, ev_dkeys, evs_nil, evs_cons, evi_rng1, evi_rng2, evi_rng3, evi_seq, evi_zip, ex_asg, ex_thaw, ex_par, ex_aug, ex_seti, ex_augi, ex_if_, ex_ret, ex_app, ex_ext, ex_pop, ex_dnew, ex_dset, ex_dupd, ex_expr, ex_parG, ex_pass, exs_nil, exs_cons, ex_for_, ex_whl, ev_comp, binI_add, binI_sub, binI_mulL, binI_mulR, binI_div, binI_mod, bin_int, cmp_int, cmpI_eq, cmpI_ne, cmpI_lt, cmpI_le, cmpI_gt, cmpI_ge, view_d, viewS_d, viewS_scr, b1_len_list, b1_len_tuple, b1_int_int, b1_tuple_list, b1_list_list, b1_list_tuple, ix_list, ix_tuple, asg_name, asg_tupT, asg_tupL, asg_tupK, viewS_kt, globR_tup, globR_str, slR_d, slR_scr, slR_kt, dict_dic, key_int, asgs_nil, asgs_cons, back_rt, back_nx, st_F, te_W, bd_W, st_C0, st_C1, wipe_nil, wipe_cons, sets_nil, sets_cons, pures_nil, pures_cons, rng_n, seq_n, rng_get, seq_list, seq_tuple, seq_getT, seq_getL, seq_getS, rng_fin, start_eq, iL_len, iL_snoc, iL_nil, szk, iL_cons, ρ1]
    have ek := (call1 (C := Cl) (f := 31) (ρ := ρ1) (s1 := S ++ [Cell.dct true kvs]) et).trans (hK p i j _ ⟨hp, by omega, by omega, by omega, by omega⟩)
    refine ⟨ρ1, S ++ [Cell.dct true (dPut kvs (tI (hm p i j)) (.bool true))], ?_, _, _, hks.put (hm p i j) (.bool true), insK_nodup hnd _, fun x => ?_, Nat.le_trans (dPut_len _ _ _) (by omega), rfl, rfl⟩
    · rw [st_F, asg_name]
      simp only [List.set]
      refine (nx_of (ρ' := ρ1) (s1 := S ++ [Cell.dct true (dPut kvs (tI (hm p i j)) (.bool true))]) ((if_t (s1 := S ++ [Cell.dct true kvs]) e1).trans ((nx_of (ρ' := ρ1) (s1 := S ++ [Cell.dct true (dPut kvs (tI (hm p i j)) (.bool true))]) ?_).trans (exs_nil _ _ _ _)))).trans (exs_nil _ _ _ _)
      refine (dset_of (n := S.length) (x := .bool true) (k := tI (hm p i j)) (t := true) (kvs := kvs) (s1 := S ++ [Cell.dct true kvs]) (s2 := S ++ [Cell.dct true kvs]) (s3 := S ++ [Cell.dct true kvs]) (ev_bl _ _ _ _) (var_of rfl) ek (dctAt_last _ _) (keyT_tI _) (by omega)).trans ?_
      rw [dctSet_last]
    · rw [mem_insK, hk x]
      constructor
      · rintro (⟨c, d, h1, h2, h3⟩ | rfl)
        · exact ⟨c, d, (met_succ (by omega)).mpr (.inl h1), h2, h3⟩
        · exact ⟨i, j, (met_succ (by omega)).mpr (.inr ⟨rfl, rfl⟩), hd, rfl⟩
      · rintro ⟨c, d, h1, h2, h3⟩
        rcases (met_succ (by omega)).mp h1 with h | ⟨rfl, rfl⟩
        · exact .inl ⟨c, d, h, h2, h3⟩
        · exact .inr h3
theorem all_ok {Cl : Call} (hK : HKind Cl) (p : Int) (S : Store) (hp : p ∈ primes) : back S.length (exSs Cl 1000000 d32.body (start d32.names.length [.d (.int p)]) S) = some (.d (.list (tIs (kinds p))), S) := by
  have hb := pr_bd p hp
  have hr : ∀ (x1 x2 x3 : Option R) (T : Store), evIt Cl (.rng1 (.var 0)) [some (.d (.int p)), x1, x2, x3] T = some (.rng 0 1 p.toNat, T) := fun x1 x2 x3 T => rng1_ok (var_of rfl) (by omega) (by omega)
  obtain ⟨ρ', s', h3, x2, x3, kvs, ks, hks, hnd, hk, hl, rfl, rfl⟩ := forN_inv (.rng 0 1 p.toNat) (stepF Cl 1000000 (.name 2) (.cons (.for_ (.name 3) (.rng1 (.var 0)) innA) .nil)) (iL (rg p.toNat)) (by rw [iL_len, rg_len]; rfl)
    (fun i ρ s => ∃ x2 x3, AI p S i 0 x2 x3 ρ s) (ρ := [some (.d (.int p)), some (.loc S.length), none, none]) (s := S ++ [Cell.dct true []])
    ⟨none, none, [], [], KS.nil, List.nodup_nil, fun x => ⟨fun h => (by cases h), fun ⟨c, d, h, _⟩ => (by unfold Met at h; omega)⟩, Nat.zero_le _, rfl, rfl⟩ (fun i ρ s _ hi => rg_get _ _ _ (by rwa [iL_len, rg_len] at hi)) (fun _ _ _ => rfl)
    (by
      rintro i x ρ s hx ⟨x2, x3, kvs, ks, hks, hnd, hk, hl, rfl, rfl⟩
      obtain ⟨hi, rfl⟩ := rg_it hx
      obtain ⟨ρ2, s2, h2, y3, kvs2, ks2, hks2, hnd2, hk2, hl2, rfl, rfl⟩ := forN_inv (.rng 0 1 p.toNat) (stepF Cl 1000000 (.name 3) innA) (iL (rg p.toNat)) (by rw [iL_len, rg_len]; rfl)
        (fun j ρ s => ∃ x3, AI p S i j (some (.d (.int (i : Nat)))) x3 ρ s) (ρ := [some (.d (.int p)), some (.loc S.length), some (.d (.int (i : Nat))), x3]) (s := S ++ [Cell.dct true kvs])
        ⟨x3, kvs, ks, hks, hnd, hk, hl, rfl, rfl⟩ (fun j ρ s _ hj => rg_get _ _ _ (by rwa [iL_len, rg_len] at hj)) (fun _ _ _ => rfl)
        (by
          rintro j x ρ s hx ⟨x3, h⟩
          obtain ⟨hj, rfl⟩ := rg_it hx
          obtain ⟨ρ', s', h1, h2⟩ := inn_stepA hK p S hp i j hi hj x3 ρ s h
          exact ⟨ρ', s', h1, _, h2⟩)
      rw [iL_len, rg_len] at hk2 hl2
      refine ⟨_, _, ?_, some (.d (.int (i : Nat))), y3, kvs2, ks2, hks2, hnd2, fun x => (hk2 x).trans ⟨?_, ?_⟩, by omega, rfl, rfl⟩
      · rw [st_F, asg_name]
        simp only [List.set]
        exact (nx_of (for_of (hr _ _ _ _) h2)).trans (exs_nil _ _ _ _)
      · rintro ⟨c, d, h1, h2, h3⟩
        refine ⟨c, d, ?_, h2, h3⟩
        unfold Met at h1 ⊢
        omega
      · rintro ⟨c, d, h1, h2, h3⟩
        refine ⟨c, d, ?_, h2, h3⟩
        unfold Met at h1 ⊢
        omega)
  rw [iL_len, rg_len] at hk
  have hmem : ∀ x, x ∈ ks ↔ x ∈ kinds p := fun x => by
    rw [hk x, mem_kinds (by omega)]
    constructor
    · rintro ⟨c, d, h1, h2, rfl⟩
      unfold Met at h1
      obtain ⟨c', d', e, hc2, r, _, _⟩ := hm_rep (p := p) (a := c) (b := d) ⟨hp, h1.1, by omega, h1.2.1, by omega⟩ h2
      exact ⟨c', d', e, r, hc2.2.1, hc2.2.2.1, hc2.2.2.2.1, hc2.2.2.2.2⟩
    · rintro ⟨c, d, rfl, r, h0, h1, h2, h3⟩
      obtain ⟨q1, q2⟩ := rep_iff.mp r
      exact ⟨c, d, ⟨h0, h2, .inl ⟨by omega, h3⟩⟩, q1, q2.symm⟩
  have hne : ∀ x ∈ ks, x ≠ [] := fun x hx => by
    obtain ⟨c, d, rfl, _⟩ := (mem_kinds (by omega)).mp ((hmem x).mp hx)
    exact List.cons_ne_nil _ _
  have es : b1D .sorted (.list (kvs.map (·.1))) = some (.list (tIs (kinds p))) := by
    rw [show kvs.map (·.1) = tIs ks from hks]
    exact sorted_tI (.inl hne) (perm_of (nodup_lt kinds_lt) hnd fun x => (hmem x).symm) (le_lt kinds_lt)
  rw [d32]
  refine (back_of (x := .list (tIs (kinds p))) (s := S ++ [Cell.dct true kvs]) ?_).trans (by simp)
  refine (nx_of (ρ' := [some (.d (.int p)), some (.loc S.length), none, none]) (s1 := S ++ [Cell.dct true []]) (by simp [ex_dnew, start_eq])).trans ?_
  refine (nx_of (for_of (hr _ _ _ _) h3)).trans (rt_of (ret_of (b1_of (dkeys_of (var_of rfl) (dct_last _ _ _)) rfl es)))
theorem hAllKinds (k : Nat) : HAllKinds (C (k+3)) := fun p S hp => by
  rw [c32]
  exact all_ok (hKind k) p S hp
end LAW
end
section
namespace LAW
open PC
/-! ### points moved -/
def mp (p u : Int) : List Int → List Int
  | [x, y] => [x * u * u % p, y * u * u * u % p]
  | _ => []
def HMovedPt (Cl : Call) : Prop := ∀ (p a b u : Int) (P : List Int) (S : Store), 0 < p → smI u = true → Pt p P → Cl 14 [.d (tI [p, a, b]), .d (.int u), .d (tI P)] S = some (.d (tI (mp p u P)), S)
theorem hMovedPt (k : Nat) : HMovedPt (C (k+1)) := fun p a b u P S hp hu hP => by
  rw [c14]
  refine (if_pos rfl).trans ?_
  rcases hP with rfl | ⟨x, y, rfl, _⟩
  · show back S.length (exSs (C k) 1000000 d14.body (start d14.names.length [.d (.tuple [.int p, .int a, .int b]), .d (.int u), .d (.tuple [])]) S) = some (.d (.tuple []), S)
    simp (decide := true) [d14, ev_var, ev_glob, ev_int, ev_bl, ev_non, ev_str, ev_bin, ev_neg, ev_not, ev_and, ev_or, ev_cmp, ev_chain, ev_ite, ev_ix, ev_slo, ev_shi, ev_rev, ev_tup, ev_lst, ev_b1, ev_b2, ev_isi, ev_call, ev_lcnt, ev_lidx, ev_dget, ev_dix, ev_din, ev_dkeys, evs_nil, evs_cons, evi_rng1, evi_rng2, evi_rng3, evi_seq, evi_zip, ex_asg, ex_thaw, ex_par, ex_aug, ex_seti, ex_augi, ex_if_, ex_ret, ex_app, ex_ext, ex_pop, ex_dnew, ex_dset, ex_dupd, ex_expr, ex_parG, ex_pass, exs_nil, exs_cons, ex_for_, ex_whl, ev_comp, binI_add, binI_sub, binI_mulL, binI_mulR, binI_div, binI_mod, bin_int, cmp_int, cmpI_eq, cmpI_ne, cmpI_lt, cmpI_le, cmpI_gt, cmpI_ge, view_d, viewS_d, viewS_scr, b1_len_list, b1_len_tuple, b1_int_int, b1_tuple_list, b1_list_list, b1_list_tuple, ix_list, ix_tuple, asg_name, asg_tupT, asg_tupL, asg_tupK, viewS_kt, globR_tup, globR_str, slR_d, slR_scr, slR_kt, dict_dic, key_int, asgs_nil, asgs_cons, back_rt, back_nx, st_F, te_W, bd_W, st_C0, st_C1, wipe_nil, wipe_cons, sets_nil, sets_cons, pures_nil, pures_cons, rng_n, seq_n, rng_get, seq_list, seq_tuple, seq_getT, seq_getL, seq_getS, rng_fin, start_eq, iL_len, iL_snoc, iL_nil, szk]
  · show back S.length (exSs (C k) 1000000 d14.body (start d14.names.length [.d (.tuple [.int p, .int a, .int b]), .d (.int u), .d (.tuple [.int x, .int y])]) S) = some (.d (.tuple [.int (x * u * u % p), .int (y * u * u * u % p)]), S)
    simp (decide := true) [d14, ev_var, ev_glob, ev_int, ev_bl, ev_non, ev_str, ev_bin, ev_neg, ev_not, ev_and, ev_or, ev_cmp, ev_chain, ev_ite, ev_ix, ev_slo, ev_shi, ev_rev, ev_tup, ev_lst, ev_b1, ev_b2, ev_isi, ev_call, ev_lcnt, ev_lidx, ev_dget, ev_dix, ev_din, ev_dkeys, evs_nil, evs_cons, evi_rng1, evi_rng2, evi_rng3, evi_seq, evi_zip, ex_asg, ex_thaw, ex_par, ex_aug, ex_seti, ex_augi, ex_if_, ex_ret, ex_app, ex_ext, ex_pop, ex_dnew, ex_dset, ex_dupd, ex_expr, ex_parG, ex_pass, exs_nil, exs_cons, ex_for_, ex_whl, ev_comp, binI_add, binI_sub, binI_mulL, binI_mulR, binI_div, binI_mod, bin_int, cmp_int, cmpI_eq, cmpI_ne, cmpI_lt, cmpI_le, cmpI_gt, cmpI_ge, view_d, viewS_d, viewS_scr, b1_len_list, b1_len_tuple, b1_int_int, b1_tuple_list, b1_list_list, b1_list_tuple, ix_list, ix_tuple, asg_name, asg_tupT, asg_tupL, asg_tupK, viewS_kt, globR_tup, globR_str, slR_d, slR_scr, slR_kt, dict_dic, key_int, asgs_nil, asgs_cons, back_rt, back_nx, st_F, te_W, bd_W, st_C0, st_C1, wipe_nil, wipe_cons, sets_nil, sets_cons, pures_nil, pures_cons, rng_n, seq_n, rng_get, seq_list, seq_tuple, seq_getT, seq_getL, seq_getS, rng_fin, start_eq, iL_len, iL_snoc, iL_nil, szk, L2.atI, L2.ixN, hu, hp]
def ptl (p a b : Int) : List (List Int) := [] :: (rg p.toNat).flatMap fun x => (rt p p.toNat (rsd p a b x)).map fun y => [x, y]
theorem pts_tIs (p a b : Int) : pts p a b = tIs (ptl p a b) := by
  unfold pts ptsN ptl tIs ptsX
  rw [List.map_cons, List.map_flatMap]
  simp [Function.comp_def]
  rfl
theorem mem_ptl {p a b : Int} (hp : 0 < p) {P : List Int} : P ∈ ptl p a b ↔ On p a b P := by
  unfold ptl
  rw [List.mem_cons, List.mem_flatMap]
  constructor
  · rintro (rfl | ⟨x, hx, h⟩)
    · exact .inl rfl
    · obtain ⟨y, hy, rfl⟩ := List.mem_map.mp h
      obtain ⟨h1, h2⟩ := List.mem_filter.mp hy
      have hx := rg_in.mp hx
      have h1 := rg_in.mp h1
      exact .inr ⟨x, y, rfl, hx.1, by omega, h1.1, by omega, of_decide_eq_true h2⟩
  · rintro (rfl | ⟨x, y, rfl, x0, x1, y0, y1, h⟩)
    · exact .inl rfl
    · exact .inr ⟨x, rg_in.mpr ⟨x0, by omega⟩, List.mem_map.mpr ⟨y, List.mem_filter.mpr ⟨rg_in.mpr ⟨y0, by omega⟩, decide_eq_true h⟩, rfl⟩⟩
theorem ltL2 (a b c d : Int) : ltL [a, b] [c, d] = decide (a < c ∨ (a = c ∧ b < d)) := by
  have h := ltL3 0 a b c d
  unfold ltL at h
  rwa [if_pos rfl] at h
theorem ptl_lt (p a b : Int) : (ptl p a b).Pairwise fun a b => ltL a b = true := by
  have hrg : ∀ n, (rg n).Pairwise fun a b : Int => a < b := fun n => List.pairwise_map.mpr (List.pairwise_lt_range.imp fun {a b} h => by omega)
  unfold ptl
  refine List.pairwise_cons.mpr ⟨fun P hP => ?_, List.pairwise_flatMap.mpr ⟨fun x _ => ?_, (hrg _).imp fun {x z} hxz P hP Q hQ => ?_⟩⟩
  · obtain ⟨x, _, h⟩ := List.mem_flatMap.mp hP
    obtain ⟨y, _, rfl⟩ := List.mem_map.mp h
    rfl
  · unfold rt
    refine List.pairwise_map.mpr (((hrg _).filter _).imp fun {y w} h => ?_)
    rw [ltL2]
    exact decide_eq_true (.inr ⟨rfl, h⟩)
  · obtain ⟨y, _, rfl⟩ := List.mem_map.mp hP
    obtain ⟨w, _, rfl⟩ := List.mem_map.mp hQ
    rw [ltL2]
    exact decide_eq_true (.inl hxz)
theorem cg_m (p x : Int) : Cg p (x % p) x := Cg.modl (Cg.refl p x)
theorem mp_on {p a b u : Int} (hp : 0 < p) {P : List Int} (h : On p a b P) : On p (mvA p a u) (mvB p b u) (mp p u P) := by
  rcases h with rfl | ⟨x, y, rfl, x0, x1, y0, y1, h⟩
  · exact .inl rfl
  · refine .inr ⟨_, _, rfl, Int.emod_nonneg _ (by omega), Int.emod_lt_of_pos _ hp, Int.emod_nonneg _ (by omega), Int.emod_lt_of_pos _ hp, ?_⟩
    have h' : Cg p (y * y) (x * x * x + a * x + b) := h
    show Cg p _ _
    unfold mvA mvB
    have e1 : Cg p (y * u * u * u % p * (y * u * u * u % p)) (u * u * u * u * u * u * (y * y)) := by
      apply Cg.both
      · repeat' first | apply Cg.modl | apply Cg.add | apply Cg.sub | apply Cg.mul | apply Cg.neg | apply Cg.refl
      · repeat' first | apply Cg.modl | apply Cg.add | apply Cg.sub | apply Cg.mul | apply Cg.neg | apply Cg.refl
      · exact Cg.of_eq (by grind)
    refine e1.trans (((Cg.refl p (u * u * u * u * u * u)).mul h').trans ?_)
    apply Cg.both
    · repeat' first | apply Cg.modl | apply Cg.add | apply Cg.sub | apply Cg.mul | apply Cg.neg | apply Cg.refl
    · repeat' first | apply Cg.modl | apply Cg.add | apply Cg.sub | apply Cg.mul | apply Cg.neg | apply Cg.refl
    · exact Cg.of_eq (by grind)
theorem mp_inv {p u v : Int} (huv : Cg p (u * v) 1) {P : List Int} (h : Pt p P) : mp p v (mp p u P) = P := by
  rcases h with rfl | ⟨x, y, rfl, x0, x1, y0, y1⟩
  · rfl
  · have hp : 0 < p := by omega
    have u2 : Cg p (u * v * (u * v)) 1 := by simpa using huv.mul huv
    have u3 : Cg p (u * v * (u * v) * (u * v)) 1 := by simpa using u2.mul huv
    have e1 : x * u * u % p * v * v % p = x := by
      refine Cg.red (p := p) (Cg.modl ?_) (Int.emod_nonneg _ (by omega)) (Int.emod_lt_of_pos _ hp) x0 x1
      refine Cg.trans (y := x * (u * v * (u * v))) ?_ (((Cg.refl p x).mul u2).trans (Cg.of_eq (Int.mul_one x)))
      apply Cg.both
      · repeat' first | apply Cg.modl | apply Cg.add | apply Cg.sub | apply Cg.mul | apply Cg.neg | apply Cg.refl
      · repeat' first | apply Cg.modl | apply Cg.add | apply Cg.sub | apply Cg.mul | apply Cg.neg | apply Cg.refl
      · exact Cg.of_eq (by grind)
    have e2 : y * u * u * u % p * v * v * v % p = y := by
      refine Cg.red (p := p) (Cg.modl ?_) (Int.emod_nonneg _ (by omega)) (Int.emod_lt_of_pos _ hp) y0 y1
      refine Cg.trans (y := y * (u * v * (u * v) * (u * v))) ?_ (((Cg.refl p y).mul u3).trans (Cg.of_eq (Int.mul_one y)))
      apply Cg.both
      · repeat' first | apply Cg.modl | apply Cg.add | apply Cg.sub | apply Cg.mul | apply Cg.neg | apply Cg.refl
      · repeat' first | apply Cg.modl | apply Cg.add | apply Cg.sub | apply Cg.mul | apply Cg.neg | apply Cg.refl
      · exact Cg.of_eq (by grind)
    show [_, _] = _
    rw [e1, e2]
theorem mv_back {p a b u : Int} (h : Rc p a b) (hu : u % p ≠ 0) : mvA p (mvA p a u) (ivp p u) = a ∧ mvB p (mvB p b u) (ivp p u) = b := by
  have hp := h.1
  have e := mv_mul p a b u (ivp p u)
  have e1 : u * ivp p u % p = 1 := by
    have q := ivp_ok hp hu
    rw [← one_mod hp]
    exact q
  rw [e1, mv_one h] at e
  simpa [mv] using e
/-- the points of the moved curve -/
theorem ptl_mv {p a b u : Int} (h : Rc p a b) (u0 : 0 < u) (u1 : u < p) : (ptl p (mvA p a u) (mvB p b u)).Perm ((ptl p a b).map (mp p u)) := by
  have hp := h.1
  have hp0 : 0 < p := by omega
  have hu := unit_mod u0 u1
  have k1 := ivp_ok hp hu
  have k2 : Cg p (ivp p u * u) 1 := by rw [Int.mul_comm]; exact k1
  refine perm_of (nodup_lt (ptl_lt _ _ _)) ?_ fun Q => ?_
  · refine List.pairwise_map.mpr (List.Pairwise.imp_of_mem (fun {P Q} hP hQ hne e => hne ?_) (nodup_lt (ptl_lt p a b)))
    have e' := congrArg (mp p (ivp p u)) e
    rwa [mp_inv k1 ((mem_ptl hp0).mp hP).pt, mp_inv k1 ((mem_ptl hp0).mp hQ).pt] at e'
  · rw [mem_ptl hp0, List.mem_map]
    constructor
    · intro hQ
      have q := mp_on (u := ivp p u) hp0 hQ
      rw [(mv_back h hu).1, (mv_back h hu).2] at q
      exact ⟨_, (mem_ptl hp0).mpr q, mp_inv k2 hQ.pt⟩
    · rintro ⟨P, hP, rfl⟩
      exact mp_on hp0 ((mem_ptl hp0).mp hP)
/-! ### sums moved -/
theorem sq_unit {p u : Int} (hp : p ∈ primes) (hu : u % p ≠ 0) : u * u % p ≠ 0 ∧ u * u * u % p ≠ 0 := ⟨ne_mul hp hu hu, ne_mul hp (ne_mul hp hu hu) hu⟩
theorem mx_iff {p u x z : Int} (hp : p ∈ primes) (hu : u % p ≠ 0) (x0 : 0 ≤ x) (x1 : x < p) (z0 : 0 ≤ z) (z1 : z < p) : z * u * u % p = x * u * u % p ↔ z = x := by
  constructor
  · intro h
    have h' : Cg p (u * u * z) (u * u * x) := (Cg.of_eq (by grind)).trans (Cg.trans (y := z * u * u) (Cg.refl _ _) (Cg.trans (show Cg p (z * u * u) (x * u * u) from h) (Cg.of_eq (by grind))))
    exact (cg_cancel hp (sq_unit hp hu).1 h').red z0 z1 x0 x1
  · rintro rfl; rfl
theorem my_iff {p u x z : Int} (hp : p ∈ primes) (hu : u % p ≠ 0) (x0 : 0 ≤ x) (x1 : x < p) (z0 : 0 ≤ z) (z1 : z < p) : z * u * u * u % p = x * u * u * u % p ↔ z = x := by
  constructor
  · intro h
    have h' : Cg p (u * u * u * z) (u * u * u * x) := (Cg.of_eq (by grind)).trans (Cg.trans (show Cg p (z * u * u * u) (x * u * u * u) from h) (Cg.of_eq (by grind)))
    exact (cg_cancel hp (sq_unit hp hu).2 h').red z0 z1 x0 x1
  · rintro rfl; rfl
theorem mt_iff {p u y w : Int} (hp : p ∈ primes) (hu : u % p ≠ 0) (y0 : 0 ≤ y) (y1 : y < p) (w0 : 0 ≤ w) (w1 : w < p) : w * u * u * u % p = -(y * u * u * u % p) % p ↔ w = -y % p := by
  have hp0 : 0 < p := by omega
  rw [← turn_iff y0 y1 w0 w1, ← turn_iff (Int.emod_nonneg _ (by omega)) (Int.emod_lt_of_pos _ hp0) (Int.emod_nonneg _ (by omega)) (Int.emod_lt_of_pos _ hp0)]
  have e : Cg p (y * u * u * u % p + w * u * u * u % p) (u * u * u * (y + w)) := by
    apply Cg.both
    · repeat' first | apply Cg.modl | apply Cg.add | apply Cg.sub | apply Cg.mul | apply Cg.neg | apply Cg.refl
    · repeat' first | apply Cg.modl | apply Cg.add | apply Cg.sub | apply Cg.mul | apply Cg.neg | apply Cg.refl
    · exact Cg.of_eq (by grind)
  constructor
  · intro h
    have h' : Cg p (u * u * u * (y + w)) 0 := e.symm.trans (cg0_iff.mpr h)
    rcases cg_zero hp h' with q | q
    · exact absurd q (sq_unit hp hu).2
    · exact q
  · intro h
    refine cg0_iff.mp (e.trans ?_)
    exact (cg0_iff.mpr h).mul0 _
theorem sl_mv {p a b u x y z w : Int} (hp : p ∈ primes) (hu : u % p ≠ 0) (x0 : 0 ≤ x) (x1 : x < p) (y0 : 0 ≤ y) (y1 : y < p) (z0 : 0 ≤ z) (z1 : z < p) (w0 : 0 ≤ w) (w1 : w < p) (he : y * y % p = rsd p a b x) (he2 : w * w % p = rsd p a b z) (h0 : ¬ (z = x ∧ w = -y % p)) :
    Cg p (sl p (mvA p a u) (x * u * u % p) (y * u * u * u % p) (z * u * u % p) (w * u * u * u % p)) (u * sl p a x y z w) := by
  have hx := mx_iff hp hu x0 x1 z0 z1
  have hx' := mx_iff hp hu z0 z1 x0 x1
  have hy := my_iff hp hu w0 w1 y0 y1
  unfold sl
  by_cases h1 : x = z ∧ y = w
  · rw [if_pos h1, if_pos ⟨hx'.mpr h1.1, hy.mpr h1.2⟩]
    obtain ⟨rfl, rfl⟩ := h1
    have h0' : ¬ y = -y % p := fun e => h0 ⟨rfl, e⟩
    have n0 := two_y hp y0 y1 h0'
    have hn : Cg p (2 * (y * u * u * u % p)) (2 * y * (u * u * u)) := by
      apply Cg.both
      · repeat' first | apply Cg.modl | apply Cg.add | apply Cg.sub | apply Cg.mul | apply Cg.neg | apply Cg.refl
      · repeat' first | apply Cg.modl | apply Cg.add | apply Cg.sub | apply Cg.mul | apply Cg.neg | apply Cg.refl
      · exact Cg.of_eq (by grind)
    have n1 : 2 * (y * u * u * u % p) % p ≠ 0 := fun e => ne_mul hp n0 (sq_unit hp hu).2 (cg0_iff.mp (hn.symm.trans (cg0_iff.mpr e)))
    have k0 := ivp_ok hp n0
    have k1 := ivp_ok hp n1
    generalize ivp p (2 * (y * u * u * u % p)) = I1 at k1 ⊢
    generalize ivp p (2 * y) = I0 at k0 ⊢
    refine cg_cancel hp n1 ?_
    -- both are u^4 (3 x x + a)
    have e1 : Cg p (2 * (y * u * u * u % p) * ((3 * (x * u * u % p) * (x * u * u % p) + mvA p a u) * I1)) (u * u * u * u * (3 * x * x + a)) := by
      refine Cg.trans (y := (2 * (y * u * u * u % p) * I1) * (3 * (x * u * u % p) * (x * u * u % p) + mvA p a u)) (Cg.of_eq (by grind)) ?_
      refine (k1.mul (Cg.refl _ _)).trans ?_
      unfold mvA
      apply Cg.both
      · repeat' first | apply Cg.modl | apply Cg.add | apply Cg.sub | apply Cg.mul | apply Cg.neg | apply Cg.refl
      · repeat' first | apply Cg.modl | apply Cg.add | apply Cg.sub | apply Cg.mul | apply Cg.neg | apply Cg.refl
      · exact Cg.of_eq (by grind)
    have e2 : Cg p (2 * (y * u * u * u % p) * (u * ((3 * x * x + a) * I0))) (u * u * u * u * (3 * x * x + a)) := by
      refine (hn.mul (Cg.refl _ _)).trans ?_
      refine Cg.trans (y := (2 * y * I0) * (u * u * u * u * (3 * x * x + a))) (Cg.of_eq (by grind)) ?_
      exact (k0.mul (Cg.refl _ _)).trans (Cg.of_eq (Int.one_mul _))
    exact e1.trans e2.symm
  · rw [if_neg h1, if_neg (fun h => h1 ⟨hx'.mp h.1, hy.mp h.2⟩)]
    have n0 := diff_x hp x0 x1 y0 y1 z0 z1 w0 w1 he he2 h0 h1
    have hn : Cg p (z * u * u % p - x * u * u % p) ((z - x) * (u * u)) := by
      apply Cg.both
      · repeat' first | apply Cg.modl | apply Cg.add | apply Cg.sub | apply Cg.mul | apply Cg.neg | apply Cg.refl
      · repeat' first | apply Cg.modl | apply Cg.add | apply Cg.sub | apply Cg.mul | apply Cg.neg | apply Cg.refl
      · exact Cg.of_eq (by grind)
    have n1 : (z * u * u % p - x * u * u % p) % p ≠ 0 := fun e => ne_mul hp n0 (sq_unit hp hu).1 (cg0_iff.mp (hn.symm.trans (cg0_iff.mpr e)))
    have k0 := ivp_ok hp n0
    have k1 := ivp_ok hp n1
    generalize ivp p (z * u * u % p - x * u * u % p) = I1 at k1 ⊢
    generalize ivp p (z - x) = I0 at k0 ⊢
    refine cg_cancel hp n1 ?_
    have e1 : Cg p ((z * u * u % p - x * u * u % p) * ((w * u * u * u % p - y * u * u * u % p) * I1)) (u * u * u * (w - y)) := by
      refine Cg.trans (y := ((z * u * u % p - x * u * u % p) * I1) * (w * u * u * u % p - y * u * u * u % p)) (Cg.of_eq (by grind)) ?_
      refine (k1.mul (Cg.refl _ _)).trans ?_
      apply Cg.both
      · repeat' first | apply Cg.modl | apply Cg.add | apply Cg.sub | apply Cg.mul | apply Cg.neg | apply Cg.refl
      · repeat' first | apply Cg.modl | apply Cg.add | apply Cg.sub | apply Cg.mul | apply Cg.neg | apply Cg.refl
      · exact Cg.of_eq (by grind)
    have e2 : Cg p ((z * u * u % p - x * u * u % p) * (u * ((w - y) * I0))) (u * u * u * (w - y)) := by
      refine (hn.mul (Cg.refl _ _)).trans ?_
      refine Cg.trans (y := ((z - x) * I0) * (u * u * u * (w - y))) (Cg.of_eq (by grind)) ?_
      exact (k0.mul (Cg.refl _ _)).trans (Cg.of_eq (Int.one_mul _))
    exact e1.trans e2.symm
/-- the sum of the moved points is the moved sum -/
theorem padd_mv {p a b u : Int} {P Q : List Int} (hp : p ∈ primes) (hu : u % p ≠ 0) (hP : On p a b P) (hQ : On p a b Q) : padd p (mvA p a u) (mp p u P) (mp p u Q) = mp p u (padd p a P Q) := by
  rcases hP with rfl | ⟨x, y, rfl, x0, x1, y0, y1, he⟩
  · rfl
  · rcases hQ with rfl | ⟨z, w, rfl, z0, z1, w0, w1, he2⟩
    · rfl
    · show (if z * u * u % p = x * u * u % p ∧ w * u * u * u % p = -(y * u * u * u % p) % p then [] else _) = mp p u (if z = x ∧ w = -y % p then [] else _)
      have hx := mx_iff hp hu x0 x1 z0 z1
      have ht := mt_iff hp hu y0 y1 w0 w1
      by_cases h0 : z = x ∧ w = -y % p
      · rw [if_pos h0, if_pos ⟨hx.mpr h0.1, ht.mpr h0.2⟩]
        rfl
      · rw [if_neg h0, if_neg fun h => h0 ⟨hx.mp h.1, ht.mp h.2⟩]
        have hs := sl_mv hp hu x0 x1 y0 y1 z0 z1 w0 w1 he he2 h0
        have ex : px p (mvA p a u) (x * u * u % p) (y * u * u * u % p) (z * u * u % p) (w * u * u * u % p) = px p a x y z w * u * u % p := by
          show Cg p _ _
          refine ((hs.mul hs).sub (cg_m _ _) |>.sub (cg_m _ _)).trans ?_
          unfold px
          generalize sl p a x y z w = s
          apply Cg.both
          · repeat' first | apply Cg.modl | apply Cg.add | apply Cg.sub | apply Cg.mul | apply Cg.neg | apply Cg.refl
          · repeat' first | apply Cg.modl | apply Cg.add | apply Cg.sub | apply Cg.mul | apply Cg.neg | apply Cg.refl
          · exact Cg.of_eq (by grind)
        have ey : py p (mvA p a u) (x * u * u % p) (y * u * u * u % p) (z * u * u % p) (w * u * u * u % p) = py p a x y z w * u * u * u % p := by
          unfold py
          rw [ex]
          show Cg p _ _
          refine ((hs.mul ((cg_m _ _).sub (cg_m _ _))).sub (cg_m _ _)).trans ?_
          generalize px p a x y z w = t
          generalize sl p a x y z w = s
          apply Cg.both
          · repeat' first | apply Cg.modl | apply Cg.add | apply Cg.sub | apply Cg.mul | apply Cg.neg | apply Cg.refl
          · repeat' first | apply Cg.modl | apply Cg.add | apply Cg.sub | apply Cg.mul | apply Cg.neg | apply Cg.refl
          · exact Cg.of_eq (by grind)
        show [_, _] = [_, _]
        rw [ex, ey]
theorem padd_on_mp {p u : Int} {P : List Int} : mp p u P = [] ∨ ∃ x y, mp p u P = [x, y] := by
  unfold mp
  split
  · exact .inr ⟨_, _, rfl⟩
  · exact .inl rfl
end LAW
end
section
namespace LAW
open PC
theorem padd_pt {p a : Int} {P Q : List Int} (hp : 0 < p) (hP : Pt p P) (hQ : Pt p Q) : Pt p (padd p a P Q) := by
  rcases hP with rfl | ⟨x, y, rfl, x0, x1, y0, y1⟩
  · exact hQ
  · rcases hQ with rfl | ⟨z, w, rfl, z0, z1, w0, w1⟩
    · exact .inr ⟨x, y, rfl, x0, x1, y0, y1⟩
    · show Pt p (if z = x ∧ w = -y % p then [] else _)
      split
      · exact .inl rfl
      · exact .inr ⟨_, _, rfl, Int.emod_nonneg _ (by omega), Int.emod_lt_of_pos _ hp, Int.emod_nonneg _ (by omega), Int.emod_lt_of_pos _ hp⟩
/-! ### the mark -/
def mk (p a b : Int) : Int := 1728 * (4 * a * a * a) * ivp p (4 * a * a * a + 27 * b * b) % p
def HMark (Cl : Call) : Prop := ∀ (p a b : Int) (S : Store), Rc p a b → Cl 18 [.d (tI [p, a, b])] S = some (.d (.int (mk p a b)), S)
theorem hMark (k : Nat) : HMark (C (k+2)) := fun p a b S h => by
  have hp := h.1
  have hb := pr_bd p hp
  have hp0 : 0 < p := by omega
  rw [c18]
  refine (if_pos rfl).trans ?_
  have sa := h.sm.1
  have sb := h.sm.2
  have si : smI (ivp p (4 * a * a * a + 27 * b * b)) = true := smI_of (ivp_bd hp _).1 (by have := (ivp_bd hp (4 * a * a * a + 27 * b * b)).2; omega)
  have hi : ∀ n S, C (k+1) 2 [.d (.int n), .d (.int p)] S = some (.d (.int (ivp p n)), S) := fun n S => hInv k n p S hp
  show back S.length (exSs (C (k+1)) 1000000 d18.body (start d18.names.length [.d (.tuple [.int p, .int a, .int b])]) S) = some (.d (.int (mk p a b)), S)
  simp (decide := true) [d18, ev_var, ev_glob, ev_int, ev_bl, ev_non, ev_str, ev_bin, ev_neg, ev_not, ev_and, ev_or, ev_cmp, ev_chain, ev_ite, ev_ix, ev_slo, ev_shi, ev_rev, ev_tup, ev_lst, ev_b1, ev_b2, ev_isi, ev_call, ev_lcnt, ev_lidx, ev_dget, ev_dix, ev_din, ev_dkeys, evs_nil, evs_cons, evi_rng1, evi_rng2, evi_rng3, evi_seq, evi_zip, ex_asg, ex_thaw, ex_par, ex_aug, ex_seti, ex_augi, ex_if_, ex_ret, ex_app, ex_ext, ex_pop, ex_dnew, ex_dset, ex_dupd, ex_expr, ex_parG, ex_pass, exs_nil, exs_cons, ex_for_, ex_whl, ev_comp, binI_add, binI_sub, binI_mulL, binI_mulR, binI_div, binI_mod, bin_int, cmp_int, cmpI_eq, cmpI_ne, cmpI_lt, cmpI_le, cmpI_gt, cmpI_ge, view_d, viewS_d, viewS_scr, b1_len_list, b1_len_tuple, b1_int_int, b1_tuple_list, b1_list_list, b1_list_tuple, ix_list, ix_tuple, asg_name, asg_tupT, asg_tupL, asg_tupK, viewS_kt, globR_tup, globR_str, slR_d, slR_scr, slR_kt, dict_dic, key_int, asgs_nil, asgs_cons, back_rt, back_nx, st_F, te_W, bd_W, st_C0, st_C1, wipe_nil, wipe_cons, sets_nil, sets_cons, pures_nil, pures_cons, rng_n, seq_n, rng_get, seq_list, seq_tuple, seq_getT, seq_getL, seq_getS, rng_fin, start_eq, iL_len, iL_snoc, iL_nil, hi, sa, sb, si, hp0, mk]
theorem mk_bd {p : Int} (hp : 0 < p) (a b : Int) : 0 ≤ mk p a b ∧ mk p a b < p := ⟨Int.emod_nonneg _ (by omega), Int.emod_lt_of_pos _ hp⟩
theorem mk_cg {p a b : Int} (hp : p ∈ primes) (hd : dsc p a b ≠ 0) : Cg p ((4 * a * a * a + 27 * b * b) * mk p a b) (1728 * (4 * a * a * a)) := by
  have k := ivp_ok hp (show (4 * a * a * a + 27 * b * b) % p ≠ 0 from hd)
  unfold mk
  refine ((Cg.refl _ _).mul (cg_m _ _)).trans ?_
  generalize ivp p (4 * a * a * a + 27 * b * b) = I at k ⊢
  refine Cg.trans (y := ((4 * a * a * a + 27 * b * b) * I) * (1728 * (4 * a * a * a))) (Cg.of_eq (by grind)) ?_
  exact (k.mul (Cg.refl _ _)).trans (Cg.of_eq (Int.one_mul _))
theorem nrp_all : (primes.all fun p => decide (nrp p % p ≠ 0)) = true := by decide +kernel
theorem nrp_ne {p : Int} (hp : p ∈ primes) : nrp p % p ≠ 0 := of_decide_eq_true (List.all_eq_true.mp nrp_all p hp)
theorem mk_tw {p a b : Int} (hp : p ∈ primes) (hd : dsc p a b ≠ 0) : dsc p (twA p a) (twB p b) ≠ 0 ∧ mk p (twA p a) (twB p b) = mk p a b := by
  have hb := pr_bd p hp
  have hn := nrp_ne hp
  have h0 : (4 * a * a * a + 27 * b * b) % p ≠ 0 := hd
  have e0 : Cg p (4 * twA p a * twA p a * twA p a + 27 * twB p b * twB p b) (nrp p * nrp p * nrp p * (nrp p * nrp p * nrp p) * (4 * a * a * a + 27 * b * b)) := by
    unfold twA twB
    generalize nrp p = d
    apply Cg.both
    · repeat' first | apply Cg.modl | apply Cg.add | apply Cg.sub | apply Cg.mul | apply Cg.neg | apply Cg.refl
    · repeat' first | apply Cg.modl | apply Cg.add | apply Cg.sub | apply Cg.mul | apply Cg.neg | apply Cg.refl
    · exact Cg.of_eq (by grind)
  have hd6 := ne_mul hp (sq_unit hp hn).2 (sq_unit hp hn).2
  have hd' : dsc p (twA p a) (twB p b) ≠ 0 := fun e => ne_mul hp hd6 h0 (cg0_iff.mp (e0.symm.trans (cg0_iff.mpr e)))
  refine ⟨hd', ?_⟩
  refine Cg.red (p := p) (cg_cancel hp (show (4 * twA p a * twA p a * twA p a + 27 * twB p b * twB p b) % p ≠ 0 from hd') ((mk_cg hp hd').trans (Cg.symm ?_))) (mk_bd (by omega) _ _).1 (mk_bd (by omega) _ _).2 (mk_bd (by omega) _ _).1 (mk_bd (by omega) _ _).2
  refine (e0.mul (Cg.refl _ _)).trans ?_
  have k := mk_cg hp hd
  generalize mk p a b = m at k ⊢
  refine Cg.trans (y := nrp p * nrp p * nrp p * (nrp p * nrp p * nrp p) * ((4 * a * a * a + 27 * b * b) * m)) (Cg.of_eq (by grind)) ?_
  refine ((Cg.refl _ _).mul k).trans ?_
  unfold twA
  generalize nrp p = d
  apply Cg.both
  · repeat' first | apply Cg.modl | apply Cg.add | apply Cg.sub | apply Cg.mul | apply Cg.neg | apply Cg.refl
  · repeat' first | apply Cg.modl | apply Cg.add | apply Cg.sub | apply Cg.mul | apply Cg.neg | apply Cg.refl
  · exact Cg.of_eq (by grind)
/-! ### the symbol -/
def sy (p k : Int) : Int := if k % p = 0 then 0 else if 0 < ((rr p).filter fun j => decide (j * j % p = k % p)).length then 1 else -1
def HSymb (Cl : Call) : Prop := ∀ (p k : Int) (S : Store), p ∈ primes → Cl 25 [.d (.int k), .d (.int p)] S = some (.d (.int (sy p k)), S)
theorem hSymb (k : Nat) : HSymb (C (k+1)) := fun p n S hp => by
  have hb := pr_bd p hp
  have hp0 : 0 < p := by omega
  rw [c25]
  refine (if_pos rfl).trans ?_
  have e1 := comp_rr (Cl := C k) (b := .var 1) (c := .cmp .eq (.bin .mod (.b1 .int (.bin .mul (.var 3) (.var 3))) (.var 1)) (.var 2)) (i := 3) (ρ := [some (.d (.int n)), some (.d (.int p)), some (.d (.int (n % p))), none]) (s := S) (p := p) (fun j => decide (j * j % p = n % p)) (var_of rfl) hp0 (by omega) (by simp) (fun x x0 x1 acc => by
    have sx : smI x = true := smI_of (by omega) (by omega)
    simp [ev_var, ev_glob, ev_int, ev_bl, ev_non, ev_str, ev_bin, ev_neg, ev_not, ev_and, ev_or, ev_cmp, ev_chain, ev_ite, ev_ix, ev_slo, ev_shi, ev_rev, ev_tup, ev_lst, ev_b1, ev_b2, ev_isi, ev_call, ev_lcnt, ev_lidx, ev_dget, ev_dix, ev_din, ev_dkeys, evs_nil, evs_cons, evi_rng1, evi_rng2, evi_rng3, evi_seq, evi_zip, ex_asg, ex_thaw, ex_par, ex_aug, ex_seti, ex_augi, ex_if_, ex_ret, ex_app, ex_ext, ex_pop, ex_dnew, ex_dset, ex_dupd, ex_expr, ex_parG, ex_pass, exs_nil, exs_cons, ex_for_, ex_whl, ev_comp, binI_add, binI_sub, binI_mulL, binI_mulR, binI_div, binI_mod, bin_int, cmp_int, cmpI_eq, cmpI_ne, cmpI_lt, cmpI_le, cmpI_gt, cmpI_ge, view_d, viewS_d, viewS_scr, b1_len_list, b1_len_tuple, b1_int_int, b1_tuple_list, b1_list_list, b1_list_tuple, ix_list, ix_tuple, asg_name, asg_tupT, asg_tupL, asg_tupK, viewS_kt, globR_tup, globR_str, slR_d, slR_scr, slR_kt, dict_dic, key_int, asgs_nil, asgs_cons, back_rt, back_nx, st_F, te_W, bd_W, st_C0, st_C1, wipe_nil, wipe_cons, sets_nil, sets_cons, pures_nil, pures_cons, rng_n, seq_n, rng_get, seq_list, seq_tuple, seq_getT, seq_getL, seq_getS, rng_fin, start_eq, iL_len, iL_snoc, iL_nil, sx, hp0])
  have h0 : evE (C k) (.bin .mod (.b1 .int (.var 0)) (.var 1)) [some (.d (.int n)), some (.d (.int p)), none, none] S = some (.d (.int (n % p)), S) := by simp [ev_var, ev_glob, ev_int, ev_bl, ev_non, ev_str, ev_bin, ev_neg, ev_not, ev_and, ev_or, ev_cmp, ev_chain, ev_ite, ev_ix, ev_slo, ev_shi, ev_rev, ev_tup, ev_lst, ev_b1, ev_b2, ev_isi, ev_call, ev_lcnt, ev_lidx, ev_dget, ev_dix, ev_din, ev_dkeys, evs_nil, evs_cons, evi_rng1, evi_rng2, evi_rng3, evi_seq, evi_zip, ex_asg, ex_thaw, ex_par, ex_aug, ex_seti, ex_augi, ex_if_, ex_ret, ex_app, ex_ext, ex_pop, ex_dnew, ex_dset, ex_dupd, ex_expr, ex_parG, ex_pass, exs_nil, exs_cons, ex_for_, ex_whl, ev_comp, binI_add, binI_sub, binI_mulL, binI_mulR, binI_div, binI_mod, bin_int, cmp_int, cmpI_eq, cmpI_ne, cmpI_lt, cmpI_le, cmpI_gt, cmpI_ge, view_d, viewS_d, viewS_scr, b1_len_list, b1_len_tuple, b1_int_int, b1_tuple_list, b1_list_list, b1_list_tuple, ix_list, ix_tuple, asg_name, asg_tupT, asg_tupL, asg_tupK, viewS_kt, globR_tup, globR_str, slR_d, slR_scr, slR_kt, dict_dic, key_int, asgs_nil, asgs_cons, back_rt, back_nx, st_F, te_W, bd_W, st_C0, st_C1, wipe_nil, wipe_cons, sets_nil, sets_cons, pures_nil, pures_cons, rng_n, seq_n, rng_get, seq_list, seq_tuple, seq_getT, seq_getL, seq_getS, rng_fin, start_eq, iL_len, iL_snoc, iL_nil, hp0]
  have h1 : evE (C k) (.cmp .eq (.var 2) (.int 0)) [some (.d (.int n)), some (.d (.int p)), some (.d (.int (n % p))), none] S = some (.d (.bool (decide (n % p = 0))), S) := by simp [ev_var, ev_glob, ev_int, ev_bl, ev_non, ev_str, ev_bin, ev_neg, ev_not, ev_and, ev_or, ev_cmp, ev_chain, ev_ite, ev_ix, ev_slo, ev_shi, ev_rev, ev_tup, ev_lst, ev_b1, ev_b2, ev_isi, ev_call, ev_lcnt, ev_lidx, ev_dget, ev_dix, ev_din, ev_dkeys, evs_nil, evs_cons, evi_rng1, evi_rng2, evi_rng3, evi_seq, evi_zip, ex_asg, ex_thaw, ex_par, ex_aug, ex_seti, ex_augi, ex_if_, ex_ret, ex_app, ex_ext, ex_pop, ex_dnew, ex_dset, ex_dupd, ex_expr, ex_parG, ex_pass, exs_nil, exs_cons, ex_for_, ex_whl, ev_comp, binI_add, binI_sub, binI_mulL, binI_mulR, binI_div, binI_mod, bin_int, cmp_int, cmpI_eq, cmpI_ne, cmpI_lt, cmpI_le, cmpI_gt, cmpI_ge, view_d, viewS_d, viewS_scr, b1_len_list, b1_len_tuple, b1_int_int, b1_tuple_list, b1_list_list, b1_list_tuple, ix_list, ix_tuple, asg_name, asg_tupT, asg_tupL, asg_tupK, viewS_kt, globR_tup, globR_str, slR_d, slR_scr, slR_kt, dict_dic, key_int, asgs_nil, asgs_cons, back_rt, back_nx, st_F, te_W, bd_W, st_C0, st_C1, wipe_nil, wipe_cons, sets_nil, sets_cons, pures_nil, pures_cons, rng_n, seq_n, rng_get, seq_list, seq_tuple, seq_getT, seq_getL, seq_getS, rng_fin, start_eq, iL_len, iL_snoc, iL_nil]
  refine (back_of (x := .int (sy p n)) (s := S) ?_).trans (by simp)
  refine (nx_of (ρ' := [some (.d (.int n)), some (.d (.int p)), some (.d (.int (n % p))), none]) (s1 := S) (asg_of h0 rfl)).trans ?_
  by_cases hz : n % p = 0
  · rw [decide_eq_true hz] at h1
    have : sy p n = 0 := if_pos hz
    rw [this]
    exact rt_of ((if_t h1).trans (rt_of (ret_of (ev_int _ _ _ _))))
  · rw [decide_eq_false hz] at h1
    refine (nx_of ((if_f h1).trans (exs_nil _ _ _ _))).trans (rt_of (ret_of ?_))
    have h2 := cmp_of (o := .gt) (z := decide ((0 : Int) < (((rr p).filter fun j => decide (j * j % p = n % p)).length : Int))) (b := .int 0) (b1_of (f := .len) e1 rfl rfl) (ev_int _ 0 _ S) rfl rfl (by rw [cmp_int, cmpI_gt, iL_len])
    have hs : sy p n = if 0 < ((rr p).filter fun j => decide (j * j % p = n % p)).length then 1 else -1 := if_neg hz
    rw [hs]
    by_cases hl : 0 < ((rr p).filter fun j => decide (j * j % p = n % p)).length
    · rw [decide_eq_true (show (0 : Int) < _ by omega)] at h2
      rw [if_pos hl]
      exact ite_t h2 (ev_int _ _ _ _)
    · rw [decide_eq_false (show ¬ (0 : Int) < _ by omega)] at h2
      rw [if_neg hl]
      refine ite_f h2 ?_
      simp [ev_var, ev_glob, ev_int, ev_bl, ev_non, ev_str, ev_bin, ev_neg, ev_not, ev_and, ev_or, ev_cmp, ev_chain, ev_ite, ev_ix, ev_slo, ev_shi, ev_rev, ev_tup, ev_lst, ev_b1, ev_b2, ev_isi, ev_call, ev_lcnt, ev_lidx, ev_dget, ev_dix, ev_din, ev_dkeys, evs_nil, evs_cons, evi_rng1, evi_rng2, evi_rng3, evi_seq, evi_zip, ex_asg, ex_thaw, ex_par, ex_aug, ex_seti, ex_augi, ex_if_, ex_ret, ex_app, ex_ext, ex_pop, ex_dnew, ex_dset, ex_dupd, ex_expr, ex_parG, ex_pass, exs_nil, exs_cons, ex_for_, ex_whl, ev_comp, binI_add, binI_sub, binI_mulL, binI_mulR, binI_div, binI_mod, bin_int, cmp_int, cmpI_eq, cmpI_ne, cmpI_lt, cmpI_le, cmpI_gt, cmpI_ge, view_d, viewS_d, viewS_scr, b1_len_list, b1_len_tuple, b1_int_int, b1_tuple_list, b1_list_list, b1_list_tuple, ix_list, ix_tuple, asg_name, asg_tupT, asg_tupL, asg_tupK, viewS_kt, globR_tup, globR_str, slR_d, slR_scr, slR_kt, dict_dic, key_int, asgs_nil, asgs_cons, back_rt, back_nx, st_F, te_W, bd_W, st_C0, st_C1, wipe_nil, wipe_cons, sets_nil, sets_cons, pures_nil, pures_cons, rng_n, seq_n, rng_get, seq_list, seq_tuple, seq_getT, seq_getL, seq_getS, rng_fin, start_eq, iL_len, iL_snoc, iL_nil]
def sys (p : Int) : List Int := (rg p.toNat).filter fun k => decide (sy p k = -1)
theorem sys_all : (primes.all fun p => decide ((sys p)[0]? = some (nrp p))) = true := by decide +kernel
theorem sys_at {p : Int} (hp : p ∈ primes) : (sys p)[0]? = some (nrp p) := of_decide_eq_true (List.all_eq_true.mp sys_all p hp)
/-! ### a pick out of any list -/
def HPickL (Cl : Call) : Prop := ∀ (P : List D) (X : Store) (l : List (List Int)), PoolAt P → l ≠ [] → l.length < 100000 → ∃ x P', PoolAt P' ∧ x ∈ l ∧ Cl 24 [.loc 0, .d (.list (tIs l))] (.lst P :: X) = some (.d (tI x), .lst P' :: X)
theorem hPickL (k : Nat) : HPickL (C (k+3)) := fun P X l hP hl hl2 => by
  have hl0 : 0 < l.length := List.length_pos_iff.mpr hl
  obtain ⟨v, P', h1, h2, h3, h4⟩ := hDraw k P X l.length hP (by omega) (by omega)
  have hv : v.toNat < l.length := by omega
  refine ⟨l[v.toNat], P', h1, List.getElem_mem hv, ?_⟩
  rw [c24]
  have e0 : b1D .len (.list (tIs l)) = some (.int l.length) := by show some (PySem.PyData.int (tIs l).length) = _; rw [tIs_len]
  have e1 := (call2 (C := C (k+2)) (f := 23) (a := .var 0) (b := .b1 .len (.var 1)) (ρ := [some (.loc 0), some (.d (.list (tIs l)))]) (s := .lst P :: X) (s1 := .lst P :: X) (s2 := .lst P :: X) (va := .loc 0) (vb := .d (.int l.length)) (by simp [ev_var]) (b1_of (var_of rfl) rfl e0)).trans h4
  have e2 : L2.atI (tIs l) v = some (tI l[v.toNat]) := by
    have e : v = (v.toNat : Nat) := by omega
    have := atI_nat (xs := tIs l) (i := v.toNat) (x := tI l[v.toNat]) (by unfold tIs; rw [List.getElem?_map, List.getElem?_eq_getElem hv]; rfl)
    rwa [← e] at this
  refine (if_pos rfl).trans ((back_of (rt_of (ret_of (ix_of (a := .var 1) (ra := .d (.list (tIs l))) (s1 := .lst P :: X) (s2 := .lst P' :: X) (by simp [ev_var]) e1 rfl rfl e2)))).trans ?_)
  simp
/-! ### what is counted -/
def cA (x : List Int) : Int := x.getD 1 0
def cB (x : List Int) : Int := x.getD 2 0
def selfs (q : Int) (x : List Int) : List Int := mvr q (cA x) (cB x) x
def marks (q : Int) (x : List Int) : Int := mk q (cA x) (cB x)
theorem kinds_cnt : ([5, 7, 11, 13, 17, 19, 23].all fun q : Int => decide (((kinds q).map fun x => (60 : Int) / ((selfs q x).length : Int)).sum = 60 * q) && (kinds q).all fun x => decide (((kinds q).filter fun y => decide (marks q y = marks q x)).length = (selfs q x).length)) = true := by decide +kernel
end LAW
end
section
namespace LAW
open PC
/-! ### lists of tuples compared -/
theorem lay_tIs : ∀ l : List (List Int), PySem.PyData.canLayAll0 (tIs l) = true
  | [] => by simp [tIs, PySem.PyData.canLayAll0]
  | a :: l => by rw [tIs_cons, PySem.PyData.canLayAll0, PySem.PyData.canLay0, lay_iL, lay_tIs l]; rfl
theorem dep_tIs : ∀ l : List (List Int), PySem.PyData.depthAll (tIs l) ≤ 1
  | [] => by simp [tIs, PySem.PyData.depthAll]
  | a :: l => by
    have := dep_tIs l
    rw [tIs_cons, PySem.PyData.depthAll, PySem.PyData.depth, dep_iL]
    omega
theorem eqv_tIs : ∀ l : List (List Int), PySem.PyData.eqvAll (tIs l) (tIs l) = true
  | [] => by simp [tIs, PySem.PyData.eqvAll]
  | a :: l => by rw [tIs_cons, PySem.PyData.eqvAll, PySem.PyData.eqv, eqv_iL, eqv_tIs l]; simp
theorem ne_tIs (l : List (List Int)) : cmpD .ne (.list (tIs l)) (.list (tIs l)) = some false := by
  show neg? (eqD (.list (tIs l)) (.list (tIs l))) = _
  have hs : PySem.SeqAt.shaped (.list (tIs l)) = true := by
    have := dep_tIs l
    unfold PySem.SeqAt.shaped
    rw [PySem.PyData.canLay0, lay_tIs, PySem.PyData.depth, Bool.true_and]
    exact decide_eq_true (by omega)
  have : eqD (.list (tIs l)) (.list (tIs l)) = some true := by
    unfold eqD
    rw [hs, PySem.PyData.eqv, eqv_tIs]
    rfl
  rw [this]; rfl
section
variable {Cl : Call} {ρ : Env} {s s1 s2 s3 : Store}
theorem lst3_of {a b c : E} {x y z : D} (h1 : evE Cl a ρ s = some (.d x, s1)) (h2 : evE Cl b ρ s1 = some (.d y, s2)) (h3 : evE Cl c ρ s2 = some (.d z, s3)) : evE Cl (.lst (.cons a (.cons b (.cons c .nil)))) ρ s = some (.d (.list [x, y, z]), s3) := by
  rw [ev_lst, evs_cons, h1]; simp only []; rw [evs_cons, h2]; simp only []; rw [evs_cons, h3]; rfl
theorem tup3_of {a b c : E} {x y z : D} (h1 : evE Cl a ρ s = some (.d x, s1)) (h2 : evE Cl b ρ s1 = some (.d y, s2)) (h3 : evE Cl c ρ s2 = some (.d z, s3)) : evE Cl (.tup (.cons a (.cons b (.cons c .nil)))) ρ s = some (.d (.tuple [x, y, z]), s3) := by
  rw [ev_tup, evs_cons, h1]; simp only []; rw [evs_cons, h2]; simp only []; rw [evs_cons, h3]; rfl
theorem not_of {a : E} {b : Bool} (h : evE Cl a ρ s = some (.d (.bool b), s1)) : evE Cl (.not a) ρ s = some (.d (.bool (!b)), s1) := by
  rw [ev_not, h]
theorem or_f {a b : E} {r : Option (R × Store)} (h : evE Cl a ρ s = some (.d (.bool false), s1)) (h2 : evE Cl b ρ s1 = r) : evE Cl (.or a b) ρ s = r := by
  rw [ev_or, h]; exact h2
end
theorem shp_lI (l : List Int) (h : l.length < 1000) : Shp 1 (lI l) := .inr ⟨iL l, .inr rfl, by rw [iL_len]; exact h, fun x hx => by
  obtain ⟨i, _, rfl⟩ := List.mem_map.mp (show x ∈ l.map PySem.PyData.int from hx)
  exact ⟨i, rfl⟩⟩
structure HAll (Cl : Call) : Prop where
  pool : HPool Cl
  curve : HCurve Cl
  draw : HDraw Cl
  prime : HPrime Cl
  pick : HPickL Cl
  same1 : HSame Cl 1
  same2 : HSame Cl 2
  moved : HMoved Cl
  lmove : HLMove Cl
  home : HHome Cl
  kind : HKind Cl
  movers : HMovers Cl
  points : HPoints Cl
  ladd : HLAdd Cl
  mvp : HMovedPt Cl
  sum : HSum Cl
  twin : HTwin Cl
  symb : HSymb Cl
  trace : HTrace Cl
  mark : HMark Cl
  kinds : HKinds Cl
  akinds : HAllKinds Cl
theorem hAll (k : Nat) : HAll (C (k + 6)) := ⟨hPool _, hCurve _, hDraw _, hPrime _, hPickL _, hSameS _ 0 (hSame0 _), hSameS _ 1 (hSameS _ 0 (hSame0 _)), hMoved _, hLMove _, hHome _, hKind _, hMovers _, hPoints _, hLAdd _, hMovedPt _, hSum _, hTwin _, hSymb _, hTrace _, hMark _, hKinds _, hAllKinds _⟩
section
variable {Cl : Call} (H : HAll Cl) {ρ : Env} {s : Store} {p a b u : Int}
include H
/-- moved, home, kind -/
theorem e_homes (hc : Rc p a b) (u0 : 0 < u) (u1 : u < p) (h2 : ρ[2]? = some (some (.d (tI [p, a, b])))) (h3 : ρ[3]? = some (some (.d (.int u)))) (h4 : ρ[4]? = some (some (.d (tI (mv p a b u))))) :
    evE Cl (.not (.call 20 (.cons (.lst (.cons (.call 13 (.cons (.var 2) (.cons (.var 3) .nil))) (.cons (.call 16 (.cons (.var 2) .nil)) (.cons (.call 16 (.cons (.var 4) .nil)) .nil)))) (.cons (.lst (.cons (.var 4) (.cons (.call 31 (.cons (.var 2) .nil)) (.cons (.call 31 (.cons (.var 2) .nil)) .nil)))) .nil)))) ρ s = some (.d (.bool false), s) := by
  have hp := hc.1
  have hb := pr_bd p hp
  have q1 := (call2 (C := Cl) (f := 13) (ρ := ρ) (s := s) (s1 := s) (s2 := s) (var_of h2) (var_of h3)).trans (H.moved p a b u s (by omega) (smI_of (by omega) (by omega)))
  have q2 := (call1 (C := Cl) (f := 16) (ρ := ρ) (s := s) (s1 := s) (var_of h2)).trans (H.home p a b s hp)
  have q3 := (call1 (C := Cl) (f := 16) (ρ := ρ) (s := s) (s1 := s) (var_of h4)).trans (H.home p (mvA p a u) (mvB p b u) s hp)
  rw [hm_mv hp u0 u1] at q3
  have q4 := (call1 (C := Cl) (f := 31) (ρ := ρ) (s := s) (s1 := s) (var_of h2)).trans (H.kind p a b s hc)
  have e1 := lst3_of q1 q2 q3
  have e2 := lst3_of (var_of h4) q4 q4
  refine not_of (b := true) ((call2 e1 e2).trans (H.same2 _ _ (.inr ⟨_, .inr rfl, by simp, fun x hx => ?_⟩)))
  have hl : ∀ x, x ∈ orb p a b → Shp 1 (tI x) := fun x hx => shp_tI x (by
    obtain ⟨v, _, _, rfl⟩ := orb_mem.mp hx
    simp)
  have hh := hl _ (hm_ok hp a b).1
  simp only [List.mem_cons, List.not_mem_nil, or_false] at hx
  rcases hx with rfl | rfl | rfl
  · exact shp_tI _ (by simp)
  · exact hh
  · exact hh
/-- the movers -/
theorem e_movers {g : List Int} (hc : Rc p a b) (hl : ρ.length = 24) (h2 : ρ[2]? = some (some (.d (tI [p, a, b])))) (h6 : ρ[6]? = some (some (.d (tI g)))) (h16 : ρ[16]? = some (some (.d (.int p)))) :
    evE Cl (.not (.call 20 (.cons (.call 15 (.cons (.var 2) (.cons (.var 6) .nil))) (.cons (.comp (.name 23) [23] (.rng2 (.int 1) (.var 16)) true (.cmp .eq (.call 30 (.cons (.var 2) (.cons (.var 23) .nil))) (.var 6)) (.var 23)) .nil)))) ρ s = some (.d (.bool false), s) := by
  have hp := hc.1
  have hb := pr_bd p hp
  have q1 := (call2 (C := Cl) (f := 15) (ρ := ρ) (s := s) (s1 := s) (s2 := s) (var_of h2) (var_of h6)).trans (H.movers p a b g s hp)
  have gt : ∀ (i : Nat) (x : Option R), i ≠ 23 → ((wipeE ρ [23]).set 23 x)[i]? = ρ[i]? := fun i x hi => by
    rw [List.getElem?_set_ne (Ne.symm hi), wipe_cons, wipe_nil, List.getElem?_set_ne (Ne.symm hi)]
  have q2 := comp_rr (Cl := Cl) (b := .var 16) (c := .cmp .eq (.call 30 (.cons (.var 2) (.cons (.var 23) .nil))) (.var 6)) (i := 23) (ρ := ρ) (s := s) (p := p) (fun u => decide (mv p a b u = g)) (var_of h16) (by omega) (by omega) (by rw [hl]; decide) (fun x x0 x1 acc => by
    refine cmp_of (x := tI (mv p a b x)) (y := tI g) (rb := .d (tI g)) (s2 := (s ++ [Cell.lst acc] : Store)) ((call2 (s1 := (s ++ [Cell.lst acc] : Store)) (s2 := (s ++ [Cell.lst acc] : Store)) (va := .d (tI [p, a, b])) (vb := .d (.int x)) (var_of ?_) (var_of ?_)).trans (H.lmove p a b x _ (by omega) hc.sm.1 hc.sm.2 (smI_of (by omega) (by omega)))) (var_of ?_) rfl rfl (eq_tI _ _)
    · rw [gt 2 _ (by decide)]; exact h2
    · rw [List.getElem?_set_self]
      simp [wipe_cons, wipe_nil, hl]
    · rw [gt 6 _ (by decide)]; exact h6)
  refine not_of (b := true) ((call2 q1 q2).trans (H.same1 _ _ (shp_lI _ ?_)))
  unfold mvr
  have := List.length_filter_le (fun u => decide (mv p a b u = g)) (rr p)
  rw [rr_len] at this
  omega
/-- a point moved, in a comprehension -/
theorem e_mvp {it : It} {J : Items} {l : List (List Int)} (hp : 0 < p) (p1 : p < 62) (u0 : 0 < u) (u1 : u < p) (hl : ρ.length = 24) (h2 : ρ[2]? = some (some (.d (tI [p, a, b])))) (h3 : ρ[3]? = some (some (.d (.int u)))) (hPt : ∀ P ∈ l, Pt p P) (hz : l.length ≤ 1000000)
    (hit : evIt Cl it ρ s = some (J, s)) (hn : J.n = l.length) (hget : ∀ i acc x, l[i]? = some x → J.get i (s ++ [.lst acc]) = some (tI x)) (hfin : ∀ acc, J.fin (s ++ [.lst acc]) = true) :
    evE Cl (.comp (.name 21) [21] it false (.bl true) (.call 14 (.cons (.var 2) (.cons (.var 3) (.cons (.var 21) .nil))))) ρ s = some (.d (.list (tIs (l.map (mp p u)))), s) := by
  have gt : ∀ (i : Nat) (x : Option R), i ≠ 21 → ((wipeE ρ [21]).set 21 x)[i]? = ρ[i]? := fun i x hi => by
    rw [List.getElem?_set_ne (Ne.symm hi), wipe_cons, wipe_nil, List.getElem?_set_ne (Ne.symm hi)]
  have e1 := ev_compM (C := Cl) (g := .name 21) (vs := [21]) (it := it) (hc := false) (c := .bl true) (e := .call 14 (.cons (.var 2) (.cons (.var 3) (.cons (.var 21) .nil)))) (ρ := ρ) (s := s) (s1 := s) (J := J) l (fun x => tI x) (fun x => tI (mp p u x)) hit hn hz hget hfin (fun x hx acc => by
    rw [st_C0, asg_name]
    simp only []
    rw [(call3 (C := Cl) (f := 14) (a := .var 2) (b := .var 3) (c := .var 21) (ρ := (wipeE ρ [21]).set 21 (some (.d (tI x)))) (s := (s ++ [Cell.lst acc] : Store)) (s1 := (s ++ [Cell.lst acc] : Store)) (s2 := (s ++ [Cell.lst acc] : Store)) (s3 := (s ++ [Cell.lst acc] : Store)) (va := .d (tI [p, a, b])) (vb := .d (.int u)) (vc := .d (tI x)) (var_of ?_) (var_of ?_) (var_of ?_)).trans (H.mvp p a b u x _ hp (smI_of (by omega) (by omega)) (hPt x hx))]
    · rw [gt 2 _ (by decide)]; exact h2
    · rw [gt 3 _ (by decide)]; exact h3
    · rw [List.getElem?_set_self]
      simp [wipe_cons, wipe_nil, hl])
  rw [e1]
  unfold tIs
  rw [List.map_map]
  rfl
/-- three points, moved -/
theorem e_led {P Q : List Int} (hc : Rc p a b) (u0 : 0 < u) (u1 : u < p) (hP : On p a b P) (hQ : On p a b Q) (hl : ρ.length = 24) (h2 : ρ[2]? = some (some (.d (tI [p, a, b])))) (h3 : ρ[3]? = some (some (.d (.int u)))) (h19 : ρ[19]? = some (some (.d (tI P)))) (h20 : ρ[20]? = some (some (.d (tI Q)))) :
    evE Cl (.comp (.name 21) [21] (.seq (.tup (.cons (.var 19) (.cons (.var 20) (.cons (.call 29 (.cons (.var 2) (.cons (.var 19) (.cons (.var 20) .nil)))) .nil))))) false (.bl true) (.call 14 (.cons (.var 2) (.cons (.var 3) (.cons (.var 21) .nil))))) ρ s = some (.d (.list (tIs [mp p u P, mp p u Q, mp p u (padd p a P Q)])), s) := by
  have hp := hc.1
  have hb := pr_bd p hp
  have q1 := (call3 (C := Cl) (f := 29) (ρ := ρ) (s := s) (s1 := s) (s2 := s) (s3 := s) (var_of h2) (var_of h19) (var_of h20)).trans (H.ladd p a b P Q s hp hc.2.1 hc.2.2.1 hP hQ)
  have q2 := tup3_of (var_of (s := s) h19) (var_of h20) q1
  refine e_mvp (l := [P, Q, padd p a P Q]) (J := .seq (.d (.tuple (tIs [P, Q, padd p a P Q]))) 3) H (by omega) (by omega) u0 u1 hl h2 h3 ?_ (by simp) ?_ rfl (fun i acc x hx => ?_) (fun acc => rfl)
  · intro R hR
    simp only [List.mem_cons, List.not_mem_nil, or_false] at hR
    rcases hR with rfl | rfl | rfl
    · exact hP.pt
    · exact hQ.pt
    · exact padd_pt (by omega) hP.pt hQ.pt
  · rw [evi_seq, q2]
    rfl
  · rw [seq_getT]
    unfold tIs
    rw [List.getElem?_map, hx]
    rfl
/-- their sum; all points -/
theorem e_sums {P Q : List Int} (hc : Rc p a b) (u0 : 0 < u) (u1 : u < p) (hP : On p a b P) (hQ : On p a b Q) (hl : ρ.length = 24) (h2 : ρ[2]? = some (some (.d (tI [p, a, b])))) (h3 : ρ[3]? = some (some (.d (.int u)))) (h4 : ρ[4]? = some (some (.d (tI (mv p a b u))))) (h7 : ρ[7]? = some (some (.d (.list (pts p a b))))) (h8 : ρ[8]? = some (some (.d (.list (tIs [mp p u P, mp p u Q, mp p u (padd p a P Q)]))))) :
    evE Cl (.or (.cmp .ne (.call 12 (.cons (.var 4) (.cons (.ix (.var 8) (.int 0)) (.cons (.ix (.var 8) (.int 1)) .nil)))) (.ix (.var 8) (.int 2))) (.cmp .ne (.b1 .sorted (.comp (.name 21) [21] (.seq (.var 7)) false (.bl true) (.call 14 (.cons (.var 2) (.cons (.var 3) (.cons (.var 21) .nil)))))) (.call 6 (.cons (.var 4) .nil)))) ρ s = some (.d (.bool false), s) := by
  have hp := hc.1
  have hb := pr_bd p hp
  have hp0 : 0 < p := by omega
  have hr := mv_bd hp a b u
  have i0 : evE Cl (.ix (.var 8) (.int 0)) ρ s = some (.d (tI (mp p u P)), s) := ix_of (rb := .d (.int 0)) (s1 := s) (var_of h8) (ev_int _ _ _ _) rfl rfl rfl
  have i1 : evE Cl (.ix (.var 8) (.int 1)) ρ s = some (.d (tI (mp p u Q)), s) := ix_of (rb := .d (.int 1)) (s1 := s) (var_of h8) (ev_int _ _ _ _) rfl rfl rfl
  have i2 : evE Cl (.ix (.var 8) (.int 2)) ρ s = some (.d (tI (mp p u (padd p a P Q))), s) := ix_of (rb := .d (.int 2)) (s1 := s) (var_of h8) (ev_int _ _ _ _) rfl rfl rfl
  have q1 := (call3 (C := Cl) (f := 12) (ρ := ρ) (s := s) (s1 := s) (s2 := s) (s3 := s) (var_of h4) i0 i1).trans (H.sum p (mvA p a u) (mvB p b u) _ _ s hp hr.2.1 hr.2.2.1 (mp_on hp0 hP) (mp_on hp0 hQ))
  rw [padd_mv hp (unit_mod u0 u1) hP hQ] at q1
  have c1 := cmp_of (o := .ne) (z := false) q1 i2 rfl rfl ((ne_tI _ _).trans (by simp))
  have q2 := e_mvp (it := .seq (.var 7)) (J := .seq (.d (.list (pts p a b))) (ptl p a b).length) (l := ptl p a b) (ρ := ρ) (s := s) H hp0 (by omega) u0 u1 hl h2 h3 (fun R hR => ((mem_ptl hp0).mp hR).pt) (by
      have h1 := ptsN_len p a b p.toNat
      have h2 : (ptsN p a b p.toNat).length = (ptl p a b).length := by
        have := congrArg List.length (pts_tIs p a b)
        rwa [tIs_len] at this
      have : p.toNat * p.toNat ≤ 62 * 62 := Nat.mul_le_mul (by omega) (by omega)
      omega) (by
      rw [evi_seq, var_of h7, pts_tIs]
      simp only [viewS_d, seq_list, tIs_len]) rfl (fun i acc x hx => by
      rw [seq_getL, pts_tIs]
      unfold tIs
      rw [List.getElem?_map, hx]
      rfl) (fun acc => seq_fin rfl rfl (by rw [pts_tIs, tIs_len]; exact Nat.le_refl _))
  have q3 := b1_of (f := .sorted) q2 rfl (sorted_tI (.inr rfl) (ptl_mv hc u0 u1) (le_lt (ptl_lt _ _ _)))
  have q4 := (call1 (C := Cl) (f := 6) (ρ := ρ) (s := s) (s1 := s) (var_of h4)).trans (H.points p (mvA p a u) (mvB p b u) s hp0 (by omega))
  rw [pts_tIs] at q4
  exact or_f c1 (cmp_of (o := .ne) q3 q4 rfl rfl (ne_tIs _))
/-- the first non-square -/
theorem e_d (hp : p ∈ primes) (hl : ρ.length = 24) (h16 : ρ[16]? = some (some (.d (.int p)))) :
    evE Cl (.ix (.comp (.name 22) [22] (.rng1 (.var 16)) true (.cmp .eq (.call 25 (.cons (.var 22) (.cons (.var 16) .nil))) (.neg (.int 1))) (.var 22)) (.int 0)) ρ s = some (.d (.int (nrp p)), s) := by
  have hb := pr_bd p hp
  have gt : ∀ (i : Nat) (x : Option R), i ≠ 22 → ((wipeE ρ [22]).set 22 x)[i]? = ρ[i]? := fun i x hi => by
    rw [List.getElem?_set_ne (Ne.symm hi), wipe_cons, wipe_nil, List.getElem?_set_ne (Ne.symm hi)]
  have e1 := ev_compK (C := Cl) (i := 22) (it := .rng1 (.var 16)) (c := .cmp .eq (.call 25 (.cons (.var 22) (.cons (.var 16) .nil))) (.neg (.int 1))) (ρ := ρ) (s := s) (s1 := s) (J := .rng 0 1 p.toNat) (rg p.toNat) PySem.PyData.int (fun k => decide (sy p k = -1)) (rng1_ok (var_of h16) (by omega) (by omega)) (rg_len _).symm (by rw [rg_len]; omega) (by rw [hl]; decide) (fun i acc x hx => by
    have hi : i < p.toNat := by
      have := (List.getElem?_eq_some_iff.mp hx).1
      rwa [rg_len] at this
    rw [rg_get _ _ _ hi, iL_get, hx]
    rfl) (fun acc => rfl) (fun x hx acc => by
    refine cmp_of (o := .eq) (x := .int (sy p x)) (y := .int (-1)) (rb := .d (.int (-1))) (s2 := (s ++ [Cell.lst acc] : Store)) ((call2 (s1 := (s ++ [Cell.lst acc] : Store)) (s2 := (s ++ [Cell.lst acc] : Store)) (va := .d (.int x)) (vb := .d (.int p)) (var_of ?_) (var_of ?_)).trans (H.symb p x _ hp)) (by simp [ev_var, ev_glob, ev_int, ev_bl, ev_non, ev_str, ev_bin, ev_neg, ev_not, ev_and, ev_or, ev_cmp, ev_chain, ev_ite, ev_ix, ev_slo, ev_shi, ev_rev, ev_tup, ev_lst, ev_b1, ev_b2, ev_isi, ev_call, ev_lcnt, ev_lidx, ev_dget, ev_dix, ev_din, ev_dkeys, evs_nil, evs_cons, evi_rng1, evi_rng2, evi_rng3, evi_seq, evi_zip, ex_asg, ex_thaw, ex_par, ex_aug, ex_seti, ex_augi, ex_if_, ex_ret, ex_app, ex_ext, ex_pop, ex_dnew, ex_dset, ex_dupd, ex_expr, ex_parG, ex_pass, exs_nil, exs_cons, ex_for_, ex_whl, ev_comp, binI_add, binI_sub, binI_mulL, binI_mulR, binI_div, binI_mod, bin_int, cmp_int, cmpI_eq, cmpI_ne, cmpI_lt, cmpI_le, cmpI_gt, cmpI_ge, view_d, viewS_d, viewS_scr, b1_len_list, b1_len_tuple, b1_int_int, b1_tuple_list, b1_list_list, b1_list_tuple, ix_list, ix_tuple, asg_name, asg_tupT, asg_tupL, asg_tupK, viewS_kt, globR_tup, globR_str, slR_d, slR_scr, slR_kt, dict_dic, key_int, asgs_nil, asgs_cons, back_rt, back_nx, st_F, te_W, bd_W, st_C0, st_C1, wipe_nil, wipe_cons, sets_nil, sets_cons, pures_nil, pures_cons, rng_n, seq_n, rng_get, seq_list, seq_tuple, seq_getT, seq_getL, seq_getS, rng_fin, start_eq, iL_len, iL_snoc, iL_nil]) rfl rfl (by rw [cmp_int, cmpI_eq])
    · rw [List.getElem?_set_self]
      simp [wipe_cons, wipe_nil, hl]
    · rw [gt 16 _ (by decide)]; exact h16)
  have e2 : ixD (.list (((rg p.toNat).filter fun k => decide (sy p k = -1)).map PySem.PyData.int)) (.int 0) = some (.int (nrp p)) := atI_nat (i := 0) (by
    rw [List.getElem?_map, show ((rg p.toNat).filter fun k => decide (sy p k = -1))[0]? = some (nrp p) from sys_at hp]
    rfl)
  exact ix_of (rb := .d (.int 0)) (s2 := s) e1 (ev_int _ _ _ _) rfl rfl e2
end
end LAW
end
section
namespace LAW
open PC
section
variable {Cl : Call} (H : HAll Cl) {ρ : Env} {s : Store} {p a b : Int}
include H
theorem e_tw (hc : Crv p a b) (h2 : ρ[2]? = some (some (.d (tI [p, a, b])))) (h9 : ρ[9]? = some (some (.d (tI [p, twA p a, twB p b])))) (h10 : ρ[10]? = some (some (.d (.int (nrp p))))) (h16 : ρ[16]? = some (some (.d (.int p)))) (h17 : ρ[17]? = some (some (.d (.int a)))) (h18 : ρ[18]? = some (some (.d (.int b)))) :
    evE Cl (.or (.cmp .ne (.var 9) (.tup (.cons (.var 16) (.cons (.bin .mod (.b1 .int (.bin .mul (.bin .mul (.var 17) (.var 10)) (.var 10))) (.var 16)) (.cons (.bin .mod (.b1 .int (.bin .mul (.bin .mul (.bin .mul (.var 18) (.var 10)) (.var 10)) (.var 10))) (.var 16)) .nil))))) (.cmp .ne (.call 8 (.cons (.var 9) .nil)) (.bin .sub (.int 0) (.call 8 (.cons (.var 2) .nil))))) ρ s = some (.d (.bool false), s) := by
  have hp := hc.1
  have hb := pr_bd p hp
  have hp0 : 0 < p := by omega
  obtain ⟨_, hd0, hd1⟩ := nonr_at hp
  have sd : smI (nrp p) = true := smI_of hd0 (by omega)
  have e1 : evE Cl (.tup (.cons (.var 16) (.cons (.bin .mod (.b1 .int (.bin .mul (.bin .mul (.var 17) (.var 10)) (.var 10))) (.var 16)) (.cons (.bin .mod (.b1 .int (.bin .mul (.bin .mul (.bin .mul (.var 18) (.var 10)) (.var 10)) (.var 10))) (.var 16)) .nil)))) ρ s = some (.d (tI [p, twA p a, twB p b]), s) := by
    simp [ev_var, ev_glob, ev_int, ev_bl, ev_non, ev_str, ev_bin, ev_neg, ev_not, ev_and, ev_or, ev_cmp, ev_chain, ev_ite, ev_ix, ev_slo, ev_shi, ev_rev, ev_tup, ev_lst, ev_b1, ev_b2, ev_isi, ev_call, ev_lcnt, ev_lidx, ev_dget, ev_dix, ev_din, ev_dkeys, evs_nil, evs_cons, evi_rng1, evi_rng2, evi_rng3, evi_seq, evi_zip, ex_asg, ex_thaw, ex_par, ex_aug, ex_seti, ex_augi, ex_if_, ex_ret, ex_app, ex_ext, ex_pop, ex_dnew, ex_dset, ex_dupd, ex_expr, ex_parG, ex_pass, exs_nil, exs_cons, ex_for_, ex_whl, ev_comp, binI_add, binI_sub, binI_mulL, binI_mulR, binI_div, binI_mod, bin_int, cmp_int, cmpI_eq, cmpI_ne, cmpI_lt, cmpI_le, cmpI_gt, cmpI_ge, view_d, viewS_d, viewS_scr, b1_len_list, b1_len_tuple, b1_int_int, b1_tuple_list, b1_list_list, b1_list_tuple, ix_list, ix_tuple, asg_name, asg_tupT, asg_tupL, asg_tupK, viewS_kt, globR_tup, globR_str, slR_d, slR_scr, slR_kt, dict_dic, key_int, asgs_nil, asgs_cons, back_rt, back_nx, st_F, te_W, bd_W, st_C0, st_C1, wipe_nil, wipe_cons, sets_nil, sets_cons, pures_nil, pures_cons, rng_n, seq_n, rng_get, seq_list, seq_tuple, seq_getT, seq_getL, seq_getS, rng_fin, start_eq, iL_len, iL_snoc, iL_nil, szk, iL_cons, h10, h16, h17, h18, hp0, sd, twA, twB]
  have c1 := cmp_of (o := .ne) (z := false) (var_of (C := Cl) (s := s) h9) e1 rfl rfl ((ne_tI _ _).trans (by simp))
  have t1 := (call1 (C := Cl) (f := 8) (ρ := ρ) (s := s) (s1 := s) (var_of h9)).trans (H.trace p (twA p a) (twB p b) s hp0 (by omega))
  have t2 := (call1 (C := Cl) (f := 8) (ρ := ρ) (s := s) (s1 := s) (var_of h2)).trans (H.trace p a b s hp0 (by omega))
  have ht := cnt_twin hp a b
  refine or_f c1 (cmp_of (o := .ne) (z := false) (y := .int (0 - (p + 1 - cnt p a b))) (rb := .d (.int (0 - (p + 1 - cnt p a b)))) t1 (bin_of (o := .sub) (ev_int Cl 0 ρ s) t2 rfl rfl rfl) rfl rfl ?_)
  rw [cmp_int, cmpI_ne, decide_eq_true (by omega)]
  rfl
theorem e_mk (hc : Crv p a b) (h9 : ρ[9]? = some (some (.d (tI [p, twA p a, twB p b])))) (h11 : ρ[11]? = some (some (.d (.int (mk p a b))))) (h16 : ρ[16]? = some (some (.d (.int p)))) (h17 : ρ[17]? = some (some (.d (.int a)))) (h18 : ρ[18]? = some (some (.d (.int b)))) :
    evE Cl (.or (.cmp .ne (.bin .mod (.b1 .int (.bin .sub (.bin .mul (.var 11) (.bin .add (.bin .mul (.bin .mul (.bin .mul (.int 4) (.var 17)) (.var 17)) (.var 17)) (.bin .mul (.bin .mul (.int 27) (.var 18)) (.var 18)))) (.bin .mul (.bin .mul (.bin .mul (.bin .mul (.int 1728) (.int 4)) (.var 17)) (.var 17)) (.var 17)))) (.var 16)) (.int 0)) (.or (.cmp .ne (.call 18 (.cons (.var 9) .nil)) (.var 11)) (.or (.cmp .lt (.var 11) (.int 0)) (.cmp .ge (.var 11) (.var 16))))) ρ s = some (.d (.bool false), s) := by
  have hp := hc.1
  have hb := pr_bd p hp
  have hp0 : 0 < p := by omega
  have sa := hc.rc.sm.1
  have sb := hc.rc.sm.2
  have hd : dsc p a b ≠ 0 := hc.2.2.2.2.2
  obtain ⟨m0, m1⟩ := mk_bd (p := p) hp0 a b
  have sm : smI (mk p a b) = true := smI_of m0 (by omega)
  have ez : (mk p a b * (4 * a * a * a + 27 * b * b) - 1728 * 4 * a * a * a) % p = 0 := by
    refine cg0_iff.mp ?_
    have k := Cg.iff0.mp (mk_cg hp hd)
    exact Cg.trans (Cg.of_eq (by grind)) k
  have c1 : evE Cl (.cmp .ne (.bin .mod (.b1 .int (.bin .sub (.bin .mul (.var 11) (.bin .add (.bin .mul (.bin .mul (.bin .mul (.int 4) (.var 17)) (.var 17)) (.var 17)) (.bin .mul (.bin .mul (.int 27) (.var 18)) (.var 18)))) (.bin .mul (.bin .mul (.bin .mul (.bin .mul (.int 1728) (.int 4)) (.var 17)) (.var 17)) (.var 17)))) (.var 16)) (.int 0)) ρ s = some (.d (.bool false), s) := by
    have e7 : (1728 : Int) * 4 = 6912 := rfl
    rw [e7] at ez
    have s1 : smI 1728 = true := by decide
    have s2 : smI 4 = true := by decide
    have s3 : smI 6912 = true := by decide
    have s4 : smI 27 = true := by decide
    simp [ev_var, ev_glob, ev_int, ev_bl, ev_non, ev_str, ev_bin, ev_neg, ev_not, ev_and, ev_or, ev_cmp, ev_chain, ev_ite, ev_ix, ev_slo, ev_shi, ev_rev, ev_tup, ev_lst, ev_b1, ev_b2, ev_isi, ev_call, ev_lcnt, ev_lidx, ev_dget, ev_dix, ev_din, ev_dkeys, evs_nil, evs_cons, evi_rng1, evi_rng2, evi_rng3, evi_seq, evi_zip, ex_asg, ex_thaw, ex_par, ex_aug, ex_seti, ex_augi, ex_if_, ex_ret, ex_app, ex_ext, ex_pop, ex_dnew, ex_dset, ex_dupd, ex_expr, ex_parG, ex_pass, exs_nil, exs_cons, ex_for_, ex_whl, ev_comp, binI_add, binI_sub, binI_mulL, binI_mulR, binI_div, binI_mod, bin_int, cmp_int, cmpI_eq, cmpI_ne, cmpI_lt, cmpI_le, cmpI_gt, cmpI_ge, view_d, viewS_d, viewS_scr, b1_len_list, b1_len_tuple, b1_int_int, b1_tuple_list, b1_list_list, b1_list_tuple, ix_list, ix_tuple, asg_name, asg_tupT, asg_tupL, asg_tupK, viewS_kt, globR_tup, globR_str, slR_d, slR_scr, slR_kt, dict_dic, key_int, asgs_nil, asgs_cons, back_rt, back_nx, st_F, te_W, bd_W, st_C0, st_C1, wipe_nil, wipe_cons, sets_nil, sets_cons, pures_nil, pures_cons, rng_n, seq_n, rng_get, seq_list, seq_tuple, seq_getT, seq_getL, seq_getS, rng_fin, start_eq, iL_len, iL_snoc, iL_nil, h11, h16, h17, h18, hp0, sa, sb, sm, ez, s1, s2, s3, s4]
  have q := (call1 (C := Cl) (f := 18) (ρ := ρ) (s := s) (s1 := s) (var_of h9)).trans (H.mark p (twA p a) (twB p b) s ⟨hp, Int.emod_nonneg _ (by omega), Int.emod_lt_of_pos _ hp0, Int.emod_nonneg _ (by omega), Int.emod_lt_of_pos _ hp0⟩)
  rw [(mk_tw hp hd).2] at q
  have c2 := cmp_of (o := .ne) (z := false) q (var_of (C := Cl) (s := s) h11) rfl rfl (by rw [cmp_int, cmpI_ne, decide_eq_true rfl]; rfl)
  have c3 := cmp_of (o := .lt) (z := false) (var_of (C := Cl) (s := s) h11) (ev_int Cl 0 ρ s) rfl rfl (by rw [cmp_int, cmpI_lt, decide_eq_false (by omega)])
  have c4 := cmp_of (o := .ge) (z := false) (var_of (C := Cl) (s := s) h11) (var_of h16) rfl rfl (by rw [cmp_int, cmpI_ge, decide_eq_false (by omega)])
  exact or_f c1 (or_f c2 (or_f c3 c4))
omit H in
theorem q_in {q : Int} (hq : q ∈ primes) (h : q ≤ 23) : q ∈ ([5, 7, 11, 13, 17, 19, 23] : List Int) := by
  have : ∀ q ∈ primes, q ≤ 23 → q ∈ ([5, 7, 11, 13, 17, 19, 23] : List Int) := by decide
  exact this q hq h
omit H in
theorem kinds_rc {q : Int} (hq : q ∈ primes) {x : List Int} (hx : x ∈ kinds q) : ∃ c d, x = [q, c, d] ∧ Rc q c d := by
  have hb := pr_bd q hq
  obtain ⟨c, d, rfl, _, h0, h1, h2, h3⟩ := (mem_kinds (by omega)).mp hx
  exact ⟨c, d, rfl, hq, h0, h1, h2, h3⟩
omit H in
theorem selfs_ok {q c d : Int} (h : Rc q c d) : 0 < (selfs q [q, c, d]).length ∧ (selfs q [q, c, d]).length < 1000 := by
  have hb := pr_bd q h.1
  have e : selfs q [q, c, d] = mvr q c d [q, c, d] := rfl
  rw [e]
  constructor
  · refine List.length_pos_of_mem (a := 1) (List.mem_filter.mpr ⟨rr_mem.mpr ⟨by decide, by omega⟩, decide_eq_true (mv_one h)⟩)
  · unfold mvr
    have := List.length_filter_le (fun u => decide (mv q c d u = [q, c, d])) (rr q)
    rw [rr_len] at this
    omega
theorem e_selfs {q : Int} {x : List Int} (hq : q ∈ primes) (hx : x ∈ kinds q) (T : Store) : Cl 15 [.d (tI x), .d (tI x)] T = some (.d (lI (selfs q x)), T) := by
  obtain ⟨c, d, rfl, _⟩ := kinds_rc hq hx
  exact H.movers q c d [q, c, d] T hq
theorem e_marks {q : Int} {x : List Int} (hq : q ∈ primes) (hx : x ∈ kinds q) (T : Store) : Cl 18 [.d (tI x)] T = some (.d (.int (marks q x)), T) := by
  obtain ⟨c, d, rfl, hr⟩ := kinds_rc hq hx
  exact H.mark q c d T hr
omit H in
theorem seqK_it {q : Int} (h13 : ρ[13]? = some (some (.d (.list (tIs (kinds q)))))) : evIt Cl (.seq (.var 13)) ρ s = some (.seq (.d (.list (tIs (kinds q)))) (kinds q).length, s) := by
  rw [evi_seq, var_of h13]
  simp only [viewS_d, seq_list, tIs_len]
omit H in
theorem kinds_len {q : Int} (hq : q ∈ primes) : (kinds q).length < 10000 := by
  have hb := pr_bd q hq
  have h := rows_len q hq q.toNat 0 (Nat.zero_le _)
  rw [show rows q q.toNat ++ row q (q.toNat : Nat) 0 = kinds q from List.append_nil _] at h
  omega
theorem e_total {q : Int} (hq : q ∈ primes) (h23 : q ≤ 23) (hl : ρ.length = 24) (h13 : ρ[13]? = some (some (.d (.list (tIs (kinds q)))))) :
    evE Cl (.b1 .sum (.comp (.name 15) [15] (.seq (.var 13)) false (.bl true) (.bin .div (.int 60) (.b1 .len (.call 15 (.cons (.var 15) (.cons (.var 15) .nil))))))) ρ s = some (.d (.int (60 * q)), s) := by
  have e1 := ev_compM (C := Cl) (g := .name 15) (vs := [15]) (it := .seq (.var 13)) (hc := false) (c := .bl true) (e := .bin .div (.int 60) (.b1 .len (.call 15 (.cons (.var 15) (.cons (.var 15) .nil))))) (ρ := ρ) (s := s) (s1 := s) (J := .seq (.d (.list (tIs (kinds q)))) (kinds q).length) (kinds q) (fun x => tI x) (fun x => .int ((60 : Int) / ((selfs q x).length : Int))) (seqK_it h13) rfl (by have := kinds_len hq; omega) (fun i acc x hx => seqL_get hx) (fun acc => seq_fin rfl rfl (by rw [tIs_len]; exact Nat.le_refl _)) (fun x hx acc => by
    obtain ⟨c, d, ex, hr⟩ := kinds_rc hq hx
    have hz := selfs_ok hr
    rw [← ex] at hz
    have g : ((wipeE ρ [15]).set 15 (some (R.d (tI x))))[15]? = some (some (.d (tI x))) := by
      rw [List.getElem?_set_self]
      simp [wipe_cons, wipe_nil, hl]
    have q1 := (call2 (C := Cl) (f := 15) (ρ := (wipeE ρ [15]).set 15 (some (R.d (tI x)))) (s := (s ++ [Cell.lst acc] : Store)) (s1 := (s ++ [Cell.lst acc] : Store)) (s2 := (s ++ [Cell.lst acc] : Store)) (var_of g) (var_of g)).trans (e_selfs H hq hx _)
    have q2 := bin_of (o := .div) (z := .int ((60 : Int) / ((selfs q x).length : Int))) (ev_int Cl 60 ((wipeE ρ [15]).set 15 (some (R.d (tI x)))) (s ++ [Cell.lst acc] : Store)) (b1_of (f := .len) q1 rfl rfl) rfl rfl (by rw [bin_int, iL_len, binI_div (by omega) (by omega)])
    rw [st_C0, asg_name]
    simp only []
    rw [q2])
  have e2 : (kinds q).map (fun x => PySem.PyData.int ((60 : Int) / ((selfs q x).length : Int))) = iL ((kinds q).map fun x => (60 : Int) / ((selfs q x).length : Int)) := by
    unfold iL
    rw [List.map_map]
    rfl
  rw [e2] at e1
  have hs := List.all_eq_true.mp kinds_cnt q (q_in hq h23)
  rw [Bool.and_eq_true] at hs
  have hs1 := of_decide_eq_true hs.1
  refine b1_of e1 rfl ?_
  show (match ints? (iL ((kinds q).map fun x => (60 : Int) / ((selfs q x).length : Int))) with
    | some is => some (PySem.PyData.int is.sum)
    | none => none) = _
  rw [ints_iL]
  simp only []
  rw [hs1]
theorem e_fin {q : Int} {x : List Int} (hq : q ∈ primes) (h23 : q ≤ 23) (hx : x ∈ kinds q) (hl : ρ.length = 24) (h13 : ρ[13]? = some (some (.d (.list (tIs (kinds q)))))) (h15 : ρ[15]? = some (some (.d (tI x)))) :
    evE Cl (.cmp .eq (.b1 .len (.comp (.name 19) [19] (.seq (.var 13)) true (.cmp .eq (.call 18 (.cons (.var 19) .nil)) (.call 18 (.cons (.var 15) .nil))) (.var 19))) (.b1 .len (.call 15 (.cons (.var 15) (.cons (.var 15) .nil))))) ρ s = some (.d (.bool true), s) := by
  have e1 := ev_compK (C := Cl) (i := 19) (it := .seq (.var 13)) (c := .cmp .eq (.call 18 (.cons (.var 19) .nil)) (.call 18 (.cons (.var 15) .nil))) (ρ := ρ) (s := s) (s1 := s) (J := .seq (.d (.list (tIs (kinds q)))) (kinds q).length) (kinds q) (fun x => tI x) (fun y => decide (marks q y = marks q x)) (seqK_it h13) rfl (by have := kinds_len hq; omega) (by rw [hl]; decide) (fun i acc x hx => seqL_get hx) (fun acc => seq_fin rfl rfl (by rw [tIs_len]; exact Nat.le_refl _)) (fun y hy acc => by
    have g : ((wipeE ρ [19]).set 19 (some (R.d (tI y))))[19]? = some (some (.d (tI y))) := by
      rw [List.getElem?_set_self]
      simp [wipe_cons, wipe_nil, hl]
    have g15 : ((wipeE ρ [19]).set 19 (some (R.d (tI y))))[15]? = some (some (.d (tI x))) := by
      rw [List.getElem?_set_ne (by decide), wipe_cons, wipe_nil, List.getElem?_set_ne (by decide)]
      exact h15
    have q1 := (call1 (C := Cl) (f := 18) (ρ := (wipeE ρ [19]).set 19 (some (R.d (tI y)))) (s := (s ++ [Cell.lst acc] : Store)) (s1 := (s ++ [Cell.lst acc] : Store)) (var_of g)).trans (e_marks H hq hy _)
    have q2 := (call1 (C := Cl) (f := 18) (ρ := (wipeE ρ [19]).set 19 (some (R.d (tI y)))) (s := (s ++ [Cell.lst acc] : Store)) (s1 := (s ++ [Cell.lst acc] : Store)) (var_of g15)).trans (e_marks H hq hx _)
    exact cmp_of (o := .eq) q1 q2 rfl rfl (by rw [cmp_int, cmpI_eq]))
  have e2 := (call2 (C := Cl) (f := 15) (ρ := ρ) (s := s) (s1 := s) (s2 := s) (var_of h15) (var_of h15)).trans (e_selfs H hq hx _)
  have hs := List.all_eq_true.mp kinds_cnt q (q_in hq h23)
  rw [Bool.and_eq_true] at hs
  have hs2 := of_decide_eq_true (List.all_eq_true.mp hs.2 x hx)
  refine cmp_of (o := .eq) (b1_of (f := .len) e1 rfl rfl) (b1_of (f := .len) e2 rfl rfl) rfl rfl ?_
  rw [cmp_int, cmpI_eq, iL_len, List.length_map]
  exact congrArg some (decide_eq_true (by omega))
end
end LAW
end
section
namespace LAW
open PC
theorem law_ok {Cl : Call} (H : HAll Cl) (ns : List Int) (h : ns.length ≤ 63) : back 0 (exSs Cl 1000000 d33.body (start d33.names.length [.scr ns]) []) = some (.d (.bool true), []) := by
  obtain ⟨P0, hP0, e0⟩ := H.pool ns [] h
  obtain ⟨p, a, b, P1, hP1, hc, _, e1⟩ := H.curve P0 [] 61 hP0 (by omega)
  have hp := hc.1
  have hb := pr_bd p hp
  have hp0 : 0 < p := by omega
  obtain ⟨v, P2, hP2, v0, v1, e2⟩ := H.draw P1 [] (p - 1) hP1 (by omega) (by omega)
  obtain ⟨u, hu⟩ : ∃ u, 1 + v = u := ⟨_, rfl⟩
  have u0 : 0 < u := by omega
  have u1 : u < p := by omega
  have su : smI u = true := smI_of (by omega) (by omega)
  obtain ⟨p2, a2, b2, P3, hP3, hc2, _, e3⟩ := H.curve P2 [] 61 hP2 (by omega)
  have hpt := H.points p a b [.lst P3] hp0 (by omega)
  have hpts : pts p a b = tIs (ptl p a b) := pts_tIs p a b
  have hpl : (ptl p a b).length < 100000 := by
    have h1 := ptsN_len p a b p.toNat
    have h2 : (ptsN p a b p.toNat).length = (ptl p a b).length := by
      have := congrArg List.length hpts
      rwa [tIs_len] at this
    have : p.toNat * p.toNat ≤ 62 * 62 := Nat.mul_le_mul (by omega) (by omega)
    omega
  have hpn : ptl p a b ≠ [] := List.cons_ne_nil _ _
  obtain ⟨A, P4, hP4, hA, e4⟩ := H.pick P3 [] (ptl p a b) hP3 hpn hpl
  obtain ⟨B, P5, hP5, hB, e5⟩ := H.pick P4 [] (ptl p a b) hP4 hpn hpl
  have oA := (mem_ptl hp0).mp hA
  have oB := (mem_ptl hp0).mp hB
  obtain ⟨q, P6, hP6, hq, h23, e6⟩ := H.prime P5 [] 23 hP5 (by omega)
  have hbq := pr_bd q hq
  have hkn : kinds q ≠ [] := fun e => by
    have hs := List.all_eq_true.mp kinds_cnt q (q_in hq h23)
    rw [Bool.and_eq_true] at hs
    have hs1 := of_decide_eq_true hs.1
    rw [e] at hs1
    have : (0 : Int) = 60 * q := hs1
    omega
  obtain ⟨K, P7, hP7, hK, e7⟩ := H.pick P6 [] (kinds q) hP6 hkn (by have := kinds_len hq; omega)
  obtain ⟨ρ', s', h6, x6, rfl, rfl⟩ := forN_inv (.seq (.d (.tuple (tIs [mv p a b u, [p, a, b], [p, a2 % p, b2 % p]]))) 3) (stepF Cl 1000000 (.name 6) (.cons (.if_ (.not (.call 20 (.cons (.call 15 (.cons (.var 2) (.cons (.var 6) .nil))) (.cons (.comp (.name 23) [23] (.rng2 (.int 1) (.var 16)) true (.cmp .eq (.call 30 (.cons (.var 2) (.cons (.var 23) .nil))) (.var 6)) (.var 23)) .nil)))) (.cons (.ret (.bl false)) .nil) .nil) .nil)) (tIs [mv p a b u, [p, a, b], [p, a2 % p, b2 % p]]) rfl
    (fun i ρ s => ∃ x6, ρ = [some (.scr ns), some (.loc 0), some (.d (tI [p, a, b])), some (.d (.int u)), some (.d (tI (mv p a b u))), some (.d (tI [p, a2 % p, b2 % p])), x6, none, none, none, none, none, none, none, none, none, some (.d (.int p)), some (.d (.int a)), some (.d (.int b)), none, none, none, none, none] ∧ s = [.lst P3]) (ρ := [some (.scr ns), some (.loc 0), some (.d (tI [p, a, b])), some (.d (.int u)), some (.d (tI (mv p a b u))), some (.d (tI [p, a2 % p, b2 % p])), none, none, none, none, none, none, none, none, none, none, some (.d (.int p)), some (.d (.int a)), some (.d (.int b)), none, none, none, none, none]) (s := [.lst P3]) ⟨none, rfl, rfl⟩ (fun i ρ s _ _ => rfl) (fun _ _ _ => rfl)
    (by
      rintro i x ρ s hx ⟨x6, rfl, rfl⟩
      obtain ⟨g, rfl⟩ : ∃ g, x = tI g := by
        unfold tIs at hx
        rw [List.getElem?_map] at hx
        cases hg : [mv p a b u, [p, a, b], [p, a2 % p, b2 % p]][i]? with
        | none => rw [hg] at hx; cases hx
        | some g => rw [hg] at hx; exact ⟨g, (Option.some.inj hx).symm⟩
      refine ⟨[some (.scr ns), some (.loc 0), some (.d (tI [p, a, b])), some (.d (.int u)), some (.d (tI (mv p a b u))), some (.d (tI [p, a2 % p, b2 % p])), some (.d (tI g)), none, none, none, none, none, none, none, none, none, some (.d (.int p)), some (.d (.int a)), some (.d (.int b)), none, none, none, none, none], [.lst P3], ?_, some (.d (tI g)), rfl, rfl⟩
      rw [st_F, asg_name]
      simp only [List.set]
      refine (nx_of ((if_f (s1 := [.lst P3]) ?_).trans (exs_nil _ _ _ _))).trans (exs_nil _ _ _ _)
      exact e_movers H hc.rc rfl rfl rfl rfl)
  have hst : start d33.names.length [.scr ns] = [some (.scr ns), none, none, none, none, none, none, none, none, none, none, none, none, none, none, none, none, none, none, none, none, none, none, none] := rfl
  rw [hst, d33]
  refine (back_of (n := 0) (s := [.lst P7]) (x := .bool true) ?_).trans rfl
  refine (nx_of (ρ' := [some (.scr ns), some (.loc 0), none, none, none, none, none, none, none, none, none, none, none, none, none, none, none, none, none, none, none, none, none, none]) (s1 := [.lst P0]) (thaw_of ((call1 (s1 := []) (va := .scr ns) ?_).trans e0))).trans ?_
  · exact var_of rfl
  refine (nx_of (ρ' := [some (.scr ns), some (.loc 0), some (.d (tI [p, a, b])), none, none, none, none, none, none, none, none, none, none, none, none, none, none, none, none, none, none, none, none, none]) (s1 := [.lst P1]) (asg_of ((call2 (s1 := [.lst P0]) (s2 := [.lst P0]) (va := .loc 0) (vb := .d (.int 61)) ?_ ?_).trans e1) rfl)).trans ?_
  · exact var_of rfl
  · exact ev_int _ _ _ _
  refine (nx_of (ρ' := [some (.scr ns), some (.loc 0), some (.d (tI [p, a, b])), none, none, none, none, none, none, none, none, none, none, none, none, none, some (.d (.int p)), some (.d (.int a)), some (.d (.int b)), none, none, none, none, none]) (s1 := [.lst P1]) (asg_of (r := .d (tI [p, a, b])) ?_ ?_)).trans ?_
  · exact var_of rfl
  · simp [ev_var, ev_glob, ev_int, ev_bl, ev_non, ev_str, ev_bin, ev_neg, ev_not, ev_and, ev_or, ev_cmp, ev_chain, ev_ite, ev_ix, ev_slo, ev_shi, ev_rev, ev_tup, ev_lst, ev_b1, ev_b2, ev_isi, ev_call, ev_lcnt, ev_lidx, ev_dget, ev_dix, ev_din, ev_dkeys, evs_nil, evs_cons, evi_rng1, evi_rng2, evi_rng3, evi_seq, evi_zip, ex_asg, ex_thaw, ex_par, ex_aug, ex_seti, ex_augi, ex_if_, ex_ret, ex_app, ex_ext, ex_pop, ex_dnew, ex_dset, ex_dupd, ex_expr, ex_parG, ex_pass, exs_nil, exs_cons, ex_for_, ex_whl, ev_comp, binI_add, binI_sub, binI_mulL, binI_mulR, binI_div, binI_mod, bin_int, cmp_int, cmpI_eq, cmpI_ne, cmpI_lt, cmpI_le, cmpI_gt, cmpI_ge, view_d, viewS_d, viewS_scr, b1_len_list, b1_len_tuple, b1_int_int, b1_tuple_list, b1_list_list, b1_list_tuple, ix_list, ix_tuple, asg_name, asg_tupT, asg_tupL, asg_tupK, viewS_kt, globR_tup, globR_str, slR_d, slR_scr, slR_kt, dict_dic, key_int, asgs_nil, asgs_cons, back_rt, back_nx, st_F, te_W, bd_W, st_C0, st_C1, wipe_nil, wipe_cons, sets_nil, sets_cons, pures_nil, pures_cons, rng_n, seq_n, rng_get, seq_list, seq_tuple, seq_getT, seq_getL, seq_getS, rng_fin, start_eq, iL_len, iL_snoc, iL_nil, iL_cons]
  refine (nx_of (ρ' := [some (.scr ns), some (.loc 0), some (.d (tI [p, a, b])), some (.d (.int u)), none, none, none, none, none, none, none, none, none, none, none, none, some (.d (.int p)), some (.d (.int a)), some (.d (.int b)), none, none, none, none, none]) (s1 := [.lst P2]) (asg_of (r := .d (.int u)) ?_ rfl)).trans ?_
  · refine bin_of (o := .add) (ra := .d (.int 1)) (rb := .d (.int v)) (s1 := [.lst P1]) (ev_int _ _ _ _) ((call2 (s1 := [.lst P1]) (s2 := [.lst P1]) (va := .loc 0) (vb := .d (.int (p - 1))) ?_ ?_).trans e2) rfl rfl ?_
    · exact var_of rfl
    · exact bin_of (o := .sub) (ra := .d (.int p)) (rb := .d (.int 1)) (s1 := [.lst P1]) (var_of rfl) (ev_int _ _ _ _) rfl rfl rfl
    · rw [bin_int, binI_add, hu]
  refine (nx_of (ρ' := [some (.scr ns), some (.loc 0), some (.d (tI [p, a, b])), some (.d (.int u)), some (.d (tI (mv p a b u))), none, none, none, none, none, none, none, none, none, none, none, some (.d (.int p)), some (.d (.int a)), some (.d (.int b)), none, none, none, none, none]) (s1 := [.lst P2]) (asg_of ((call2 (s1 := [.lst P2]) (s2 := [.lst P2]) (va := .d (tI [p, a, b])) (vb := .d (.int u)) ?_ ?_).trans (H.lmove p a b u _ hp0 hc.rc.sm.1 hc.rc.sm.2 su)) rfl)).trans ?_
  · exact var_of rfl
  · exact var_of rfl
  refine (nx_of ((if_f (s1 := [.lst P2]) ?_).trans (exs_nil _ _ _ _))).trans ?_
  · exact e_homes H hc.rc u0 u1 rfl rfl rfl
  refine (nx_of (ρ' := [some (.scr ns), some (.loc 0), some (.d (tI [p, a, b])), some (.d (.int u)), some (.d (tI (mv p a b u))), some (.d (tI [p2, a2, b2])), none, none, none, none, none, none, none, none, none, none, some (.d (.int p)), some (.d (.int a)), some (.d (.int b)), none, none, none, none, none]) (s1 := [.lst P3]) (asg_of ((call2 (s1 := [.lst P2]) (s2 := [.lst P2]) (va := .loc 0) (vb := .d (.int 61)) ?_ ?_).trans e3) rfl)).trans ?_
  · exact var_of rfl
  · exact ev_int _ _ _ _
  refine (nx_of (ρ' := [some (.scr ns), some (.loc 0), some (.d (tI [p, a, b])), some (.d (.int u)), some (.d (tI (mv p a b u))), some (.d (tI [p, a2 % p, b2 % p])), none, none, none, none, none, none, none, none, none, none, some (.d (.int p)), some (.d (.int a)), some (.d (.int b)), none, none, none, none, none]) (s1 := [.lst P3]) (asg_of (r := .d (tI [p, a2 % p, b2 % p])) ?_ rfl)).trans ?_
  · simp [ev_var, ev_glob, ev_int, ev_bl, ev_non, ev_str, ev_bin, ev_neg, ev_not, ev_and, ev_or, ev_cmp, ev_chain, ev_ite, ev_ix, ev_slo, ev_shi, ev_rev, ev_tup, ev_lst, ev_b1, ev_b2, ev_isi, ev_call, ev_lcnt, ev_lidx, ev_dget, ev_dix, ev_din, ev_dkeys, evs_nil, evs_cons, evi_rng1, evi_rng2, evi_rng3, evi_seq, evi_zip, ex_asg, ex_thaw, ex_par, ex_aug, ex_seti, ex_augi, ex_if_, ex_ret, ex_app, ex_ext, ex_pop, ex_dnew, ex_dset, ex_dupd, ex_expr, ex_parG, ex_pass, exs_nil, exs_cons, ex_for_, ex_whl, ev_comp, binI_add, binI_sub, binI_mulL, binI_mulR, binI_div, binI_mod, bin_int, cmp_int, cmpI_eq, cmpI_ne, cmpI_lt, cmpI_le, cmpI_gt, cmpI_ge, view_d, viewS_d, viewS_scr, b1_len_list, b1_len_tuple, b1_int_int, b1_tuple_list, b1_list_list, b1_list_tuple, ix_list, ix_tuple, asg_name, asg_tupT, asg_tupL, asg_tupK, viewS_kt, globR_tup, globR_str, slR_d, slR_scr, slR_kt, dict_dic, key_int, asgs_nil, asgs_cons, back_rt, back_nx, st_F, te_W, bd_W, st_C0, st_C1, wipe_nil, wipe_cons, sets_nil, sets_cons, pures_nil, pures_cons, rng_n, seq_n, rng_get, seq_list, seq_tuple, seq_getT, seq_getL, seq_getS, rng_fin, start_eq, iL_len, iL_snoc, iL_nil, iL_cons, L2.atI, L2.ixN, hp0, szk]
  refine (nx_of (ρ' := [some (.scr ns), some (.loc 0), some (.d (tI [p, a, b])), some (.d (.int u)), some (.d (tI (mv p a b u))), some (.d (tI [p, a2 % p, b2 % p])), x6, none, none, none, none, none, none, none, none, none, some (.d (.int p)), some (.d (.int a)), some (.d (.int b)), none, none, none, none, none]) (s1 := [.lst P3]) (for_of (J := .seq (.d (.tuple (tIs [mv p a b u, [p, a, b], [p, a2 % p, b2 % p]]))) 3) (s1 := [.lst P3]) ?_ h6)).trans ?_
  · have et := tup3_of (var_of (C := Cl) (ρ := [some (.scr ns), some (.loc 0), some (.d (tI [p, a, b])), some (.d (.int u)), some (.d (tI (mv p a b u))), some (.d (tI [p, a2 % p, b2 % p])), none, none, none, none, none, none, none, none, none, none, some (.d (.int p)), some (.d (.int a)), some (.d (.int b)), none, none, none, none, none]) (s := [.lst P3]) (i := 4) rfl) (var_of (i := 2) rfl) (var_of (i := 5) rfl)
    rw [evi_seq, et]
    rfl
  refine (nx_of (ρ' := [some (.scr ns), some (.loc 0), some (.d (tI [p, a, b])), some (.d (.int u)), some (.d (tI (mv p a b u))), some (.d (tI [p, a2 % p, b2 % p])), x6, some (.d (.list (pts p a b))), none, none, none, none, none, none, none, none, some (.d (.int p)), some (.d (.int a)), some (.d (.int b)), none, none, none, none, none]) (s1 := [.lst P3]) (asg_of ((call1 (s1 := [.lst P3]) (va := .d (tI [p, a, b])) ?_).trans hpt) rfl)).trans ?_
  · exact var_of rfl
  refine (nx_of (ρ' := [some (.scr ns), some (.loc 0), some (.d (tI [p, a, b])), some (.d (.int u)), some (.d (tI (mv p a b u))), some (.d (tI [p, a2 % p, b2 % p])), x6, some (.d (.list (pts p a b))), none, none, none, none, none, none, none, none, some (.d (.int p)), some (.d (.int a)), some (.d (.int b)), some (.d (tI A)), some (.d (tI B)), none, none, none]) (s1 := [.lst P5]) (par2_of (s1 := [.lst P4]) ((call2 (s1 := [.lst P3]) (s2 := [.lst P3]) (va := .loc 0) (vb := .d (.list (tIs (ptl p a b)))) ?_ ?_).trans e4) ((call2 (s1 := [.lst P4]) (s2 := [.lst P4]) (va := .loc 0) (vb := .d (.list (tIs (ptl p a b)))) ?_ ?_).trans e5))).trans ?_
  · exact var_of rfl
  · rw [← hpts]; exact var_of rfl
  · exact var_of rfl
  · rw [← hpts]; exact var_of rfl
  refine (nx_of (ρ' := [some (.scr ns), some (.loc 0), some (.d (tI [p, a, b])), some (.d (.int u)), some (.d (tI (mv p a b u))), some (.d (tI [p, a2 % p, b2 % p])), x6, some (.d (.list (pts p a b))), some (.d (.list (tIs [mp p u A, mp p u B, mp p u (padd p a A B)]))), none, none, none, none, none, none, none, some (.d (.int p)), some (.d (.int a)), some (.d (.int b)), some (.d (tI A)), some (.d (tI B)), none, none, none]) (s1 := [.lst P5]) (asg_of (e_led H hc.rc u0 u1 oA oB rfl rfl rfl rfl rfl) rfl)).trans ?_
  refine (nx_of ((if_f (s1 := [.lst P5]) ?_).trans (exs_nil _ _ _ _))).trans ?_
  · exact e_sums H hc.rc u0 u1 oA oB rfl rfl rfl rfl rfl rfl
  refine (nx_of (ρ' := [some (.scr ns), some (.loc 0), some (.d (tI [p, a, b])), some (.d (.int u)), some (.d (tI (mv p a b u))), some (.d (tI [p, a2 % p, b2 % p])), x6, some (.d (.list (pts p a b))), some (.d (.list (tIs [mp p u A, mp p u B, mp p u (padd p a A B)]))), some (.d (tI [p, twA p a, twB p b])), none, none, none, none, none, none, some (.d (.int p)), some (.d (.int a)), some (.d (.int b)), some (.d (tI A)), some (.d (tI B)), none, none, none]) (s1 := [.lst P5]) (asg_of ((call1 (s1 := [.lst P5]) (va := .d (tI [p, a, b])) ?_).trans (H.twin p a b _ hp)) rfl)).trans ?_
  · exact var_of rfl
  refine (nx_of (ρ' := [some (.scr ns), some (.loc 0), some (.d (tI [p, a, b])), some (.d (.int u)), some (.d (tI (mv p a b u))), some (.d (tI [p, a2 % p, b2 % p])), x6, some (.d (.list (pts p a b))), some (.d (.list (tIs [mp p u A, mp p u B, mp p u (padd p a A B)]))), some (.d (tI [p, twA p a, twB p b])), some (.d (.int (nrp p))), none, none, none, none, none, some (.d (.int p)), some (.d (.int a)), some (.d (.int b)), some (.d (tI A)), some (.d (tI B)), none, none, none]) (s1 := [.lst P5]) (asg_of (e_d H hp rfl rfl) rfl)).trans ?_
  refine (nx_of ((if_f (s1 := [.lst P5]) ?_).trans (exs_nil _ _ _ _))).trans ?_
  · exact e_tw H hc rfl rfl rfl rfl rfl rfl
  refine (nx_of (ρ' := [some (.scr ns), some (.loc 0), some (.d (tI [p, a, b])), some (.d (.int u)), some (.d (tI (mv p a b u))), some (.d (tI [p, a2 % p, b2 % p])), x6, some (.d (.list (pts p a b))), some (.d (.list (tIs [mp p u A, mp p u B, mp p u (padd p a A B)]))), some (.d (tI [p, twA p a, twB p b])), some (.d (.int (nrp p))), some (.d (.int (mk p a b))), none, none, none, none, some (.d (.int p)), some (.d (.int a)), some (.d (.int b)), some (.d (tI A)), some (.d (tI B)), none, none, none]) (s1 := [.lst P5]) (asg_of ((call1 (s1 := [.lst P5]) (va := .d (tI [p, a, b])) ?_).trans (H.mark p a b _ hc.rc)) rfl)).trans ?_
  · exact var_of rfl
  refine (nx_of ((if_f (s1 := [.lst P5]) ?_).trans (exs_nil _ _ _ _))).trans ?_
  · exact e_mk H hc rfl rfl rfl rfl rfl
  refine (nx_of (ρ' := [some (.scr ns), some (.loc 0), some (.d (tI [p, a, b])), some (.d (.int u)), some (.d (tI (mv p a b u))), some (.d (tI [p, a2 % p, b2 % p])), x6, some (.d (.list (pts p a b))), some (.d (.list (tIs [mp p u A, mp p u B, mp p u (padd p a A B)]))), some (.d (tI [p, twA p a, twB p b])), some (.d (.int (nrp p))), some (.d (.int (mk p a b))), some (.d (.int q)), none, none, none, some (.d (.int p)), some (.d (.int a)), some (.d (.int b)), some (.d (tI A)), some (.d (tI B)), none, none, none]) (s1 := [.lst P6]) (asg_of ((call2 (s1 := [.lst P5]) (s2 := [.lst P5]) (va := .loc 0) (vb := .d (.int 23)) ?_ ?_).trans e6) rfl)).trans ?_
  · exact var_of rfl
  · exact ev_int _ _ _ _
  refine (nx_of (ρ' := [some (.scr ns), some (.loc 0), some (.d (tI [p, a, b])), some (.d (.int u)), some (.d (tI (mv p a b u))), some (.d (tI [p, a2 % p, b2 % p])), x6, some (.d (.list (pts p a b))), some (.d (.list (tIs [mp p u A, mp p u B, mp p u (padd p a A B)]))), some (.d (tI [p, twA p a, twB p b])), some (.d (.int (nrp p))), some (.d (.int (mk p a b))), some (.d (.int q)), some (.d (.list (tIs (kinds q)))), none, none, some (.d (.int p)), some (.d (.int a)), some (.d (.int b)), some (.d (tI A)), some (.d (tI B)), none, none, none]) (s1 := [.lst P6]) (asg_of ((call1 (s1 := [.lst P6]) (va := .d (.int q)) ?_).trans (H.kinds q _ hq)) rfl)).trans ?_
  · exact var_of rfl
  refine (nx_of ((if_f (s1 := [.lst P6]) ?_).trans (exs_nil _ _ _ _))).trans ?_
  · refine cmp_of (o := .ne) (x := .list (tIs (kinds q))) (y := .list (tIs (kinds q))) (ra := .d (.list (tIs (kinds q)))) (rb := .d (.list (tIs (kinds q)))) (s1 := [.lst P6]) (var_of rfl) ((call1 (s1 := [.lst P6]) (va := .d (.int q)) ?_).trans (H.akinds q _ hq)) rfl rfl (ne_tIs _)
    exact var_of rfl
  refine (nx_of (ρ' := [some (.scr ns), some (.loc 0), some (.d (tI [p, a, b])), some (.d (.int u)), some (.d (tI (mv p a b u))), some (.d (tI [p, a2 % p, b2 % p])), x6, some (.d (.list (pts p a b))), some (.d (.list (tIs [mp p u A, mp p u B, mp p u (padd p a A B)]))), some (.d (tI [p, twA p a, twB p b])), some (.d (.int (nrp p))), some (.d (.int (mk p a b))), some (.d (.int q)), some (.d (.list (tIs (kinds q)))), some (.d (.int (60 * q))), none, some (.d (.int p)), some (.d (.int a)), some (.d (.int b)), some (.d (tI A)), some (.d (tI B)), none, none, none]) (s1 := [.lst P6]) (asg_of (e_total H hq h23 rfl rfl) rfl)).trans ?_
  refine (nx_of ((if_f (s1 := [.lst P6]) ?_).trans (exs_nil _ _ _ _))).trans ?_
  · refine cmp_of (o := .ne) (x := .int (60 * q)) (y := .int (60 * q)) (ra := .d (.int (60 * q))) (rb := .d (.int (60 * q))) (s1 := [.lst P6]) (var_of rfl) (bin_of (o := .mul) (ra := .d (.int 60)) (rb := .d (.int q)) (s1 := [.lst P6]) (ev_int _ _ _ _) (var_of rfl) rfl rfl ?_) rfl rfl ?_
    · rw [bin_int, binI_mulL (by decide)]
    · rw [cmp_int, cmpI_ne, decide_eq_true rfl]; rfl
  refine (nx_of (ρ' := [some (.scr ns), some (.loc 0), some (.d (tI [p, a, b])), some (.d (.int u)), some (.d (tI (mv p a b u))), some (.d (tI [p, a2 % p, b2 % p])), x6, some (.d (.list (pts p a b))), some (.d (.list (tIs [mp p u A, mp p u B, mp p u (padd p a A B)]))), some (.d (tI [p, twA p a, twB p b])), some (.d (.int (nrp p))), some (.d (.int (mk p a b))), some (.d (.int q)), some (.d (.list (tIs (kinds q)))), some (.d (.int (60 * q))), some (.d (tI K)), some (.d (.int p)), some (.d (.int a)), some (.d (.int b)), some (.d (tI A)), some (.d (tI B)), none, none, none]) (s1 := [.lst P7]) (asg_of ((call2 (s1 := [.lst P6]) (s2 := [.lst P6]) (va := .loc 0) (vb := .d (.list (tIs (kinds q)))) ?_ ?_).trans e7) rfl)).trans ?_
  · exact var_of rfl
  · exact var_of rfl
  exact rt_of (ret_of (e_fin H hq h23 hK rfl rfl rfl))
theorem main (ns : List Int) (h : ns.length ≤ 63) : callD T.defs 1000000 20 33 [.scr ns] [] = some (.d (.bool true), []) := by
  have e := c33 19 [.scr ns] []
  rw [show C (19 + 1) 33 [.scr ns] [] = callD T.defs 1000000 20 33 [.scr ns] [] from rfl] at e
  rw [e]
  exact (if_pos rfl).trans (law_ok (hAll 13) ns h)
end LAW
end
section
namespace LAW
open PySem PySem.Spec PyProof.Rows L2 PC
abbrev P0 : Program := PySem.Challenge.pw_curveroom_k07_whole_kinds_of_curves
def top (i : Nat) : Stmt := P0.main.body.getD i (.Pass ⟨0, 0, 0, 0⟩)
def nm : List (PySem.Str × Nat) := (("is_whole", 1) : PySem.Str × Nat) :: (("are_whole", 2) : PySem.Str × Nat) :: (("inverse_of", 3) : PySem.Str × Nat) :: (("right_side", 8) : PySem.Str × Nat) :: (("is_point", 9) : PySem.Str × Nat) :: (("roots_by_square", 10) : PySem.Str × Nat) :: (("points_of", 11) : PySem.Str × Nat) :: (("count_of", 12) : PySem.Str × Nat) :: (("trace_of", 13) : PySem.Str × Nat) :: (("need_points", 14) : PySem.Str × Nat) :: (("turned", 15) : PySem.Str × Nat) :: (("added", 16) : PySem.Str × Nat) :: (("sum_of", 17) : PySem.Str × Nat) :: (("moved", 19) : PySem.Str × Nat) :: (("moved_point", 20) : PySem.Str × Nat) :: (("movers_of", 21) : PySem.Str × Nat) :: (("home_of_curve", 22) : PySem.Str × Nat) :: (("kinds_of_curves", 23) : PySem.Str × Nat) :: (("mark_of", 24) : PySem.Str × Nat) :: (("twin_of", 25) : PySem.Str × Nat) :: (("_law_same", 27) : PySem.Str × Nat) :: (("_law_pool", 28) : PySem.Str × Nat) :: (("_law_spread", 29) : PySem.Str × Nat) :: (("_law_draw", 30) : PySem.Str × Nat) :: (("_law_pick", 31) : PySem.Str × Nat) :: (("_law_symbol", 32) : PySem.Str × Nat) :: (("_law_prime", 33) : PySem.Str × Nat) :: (("_law_curve", 34) : PySem.Str × Nat) :: (("_law_over", 35) : PySem.Str × Nat) :: (("_law_add", 36) : PySem.Str × Nat) :: (("_law_move", 37) : PySem.Str × Nat) :: (("_law_kind", 38) : PySem.Str × Nat) :: (("_law_all_kinds", 39) : PySem.Str × Nat) :: (("law", 40) : PySem.Str × Nat) :: []
theorem chk : allB T top T.defs nm = true := by decide +kernel
theorem bnd0 : BindP (top 1) := fun _ _ _ _ _ _ _ _ us hl => match us, hl with | [_], _ => rfl
theorem bnd1 : BindP (top 2) := fun _ _ _ _ _ _ _ _ us hl => match us, hl with | [_, _], _ => rfl
theorem bnd2 : BindP (top 3) := fun _ _ _ _ _ _ _ _ us hl => match us, hl with | [_, _], _ => rfl
theorem bnd3 : BindP (top 8) := fun _ _ _ _ _ _ _ _ us hl => match us, hl with | [_, _], _ => rfl
theorem bnd4 : BindP (top 9) := fun _ _ _ _ _ _ _ _ us hl => match us, hl with | [_, _], _ => rfl
theorem bnd5 : BindP (top 10) := fun _ _ _ _ _ _ _ _ us hl => match us, hl with | [_], _ => rfl
theorem bnd6 : BindP (top 11) := fun _ _ _ _ _ _ _ _ us hl => match us, hl with | [_], _ => rfl
theorem bnd7 : BindP (top 12) := fun _ _ _ _ _ _ _ _ us hl => match us, hl with | [_], _ => rfl
theorem bnd8 : BindP (top 13) := fun _ _ _ _ _ _ _ _ us hl => match us, hl with | [_], _ => rfl
theorem bnd9 : BindP (top 14) := fun _ _ _ _ _ _ _ _ us hl => match us, hl with | [_, _], _ => rfl
theorem bnd10 : BindP (top 15) := fun _ _ _ _ _ _ _ _ us hl => match us, hl with | [_, _], _ => rfl
theorem bnd11 : BindP (top 16) := fun _ _ _ _ _ _ _ _ us hl => match us, hl with | [_, _, _], _ => rfl
theorem bnd12 : BindP (top 17) := fun _ _ _ _ _ _ _ _ us hl => match us, hl with | [_, _, _], _ => rfl
theorem bnd13 : BindP (top 19) := fun _ _ _ _ _ _ _ _ us hl => match us, hl with | [_, _], _ => rfl
theorem bnd14 : BindP (top 20) := fun _ _ _ _ _ _ _ _ us hl => match us, hl with | [_, _, _], _ => rfl
theorem bnd15 : BindP (top 21) := fun _ _ _ _ _ _ _ _ us hl => match us, hl with | [_, _], _ => rfl
theorem bnd16 : BindP (top 22) := fun _ _ _ _ _ _ _ _ us hl => match us, hl with | [_], _ => rfl
theorem bnd17 : BindP (top 23) := fun _ _ _ _ _ _ _ _ us hl => match us, hl with | [_], _ => rfl
theorem bnd18 : BindP (top 24) := fun _ _ _ _ _ _ _ _ us hl => match us, hl with | [_], _ => rfl
theorem bnd19 : BindP (top 25) := fun _ _ _ _ _ _ _ _ us hl => match us, hl with | [_], _ => rfl
theorem bnd20 : BindP (top 27) := fun _ _ _ _ _ _ _ _ us hl => match us, hl with | [_, _], _ => rfl
theorem bnd21 : BindP (top 28) := fun _ _ _ _ _ _ _ _ us hl => match us, hl with | [_], _ => rfl
theorem bnd22 : BindP (top 29) := fun _ _ _ _ _ _ _ _ us hl => match us, hl with | [_], _ => rfl
theorem bnd23 : BindP (top 30) := fun _ _ _ _ _ _ _ _ us hl => match us, hl with | [_, _], _ => rfl
theorem bnd24 : BindP (top 31) := fun _ _ _ _ _ _ _ _ us hl => match us, hl with | [_, _], _ => rfl
theorem bnd25 : BindP (top 32) := fun _ _ _ _ _ _ _ _ us hl => match us, hl with | [_, _], _ => rfl
theorem bnd26 : BindP (top 33) := fun _ _ _ _ _ _ _ _ us hl => match us, hl with | [_, _], _ => rfl
theorem bnd27 : BindP (top 34) := fun _ _ _ _ _ _ _ _ us hl => match us, hl with | [_, _], _ => rfl
theorem bnd28 : BindP (top 35) := fun _ _ _ _ _ _ _ _ us hl => match us, hl with | [_, _], _ => rfl
theorem bnd29 : BindP (top 36) := fun _ _ _ _ _ _ _ _ us hl => match us, hl with | [_, _, _], _ => rfl
theorem bnd30 : BindP (top 37) := fun _ _ _ _ _ _ _ _ us hl => match us, hl with | [_, _], _ => rfl
theorem bnd31 : BindP (top 38) := fun _ _ _ _ _ _ _ _ us hl => match us, hl with | [_], _ => rfl
theorem bnd32 : BindP (top 39) := fun _ _ _ _ _ _ _ _ us hl => match us, hl with | [_], _ => rfl
theorem bnd33 : BindP (top 40) := fun _ _ _ _ _ _ _ _ us hl => match us, hl with | [_], _ => rfl
theorem bnds : BindAll top nm := ⟨bnd0, bnd1, bnd2, bnd3, bnd4, bnd5, bnd6, bnd7, bnd8, bnd9, bnd10, bnd11, bnd12, bnd13, bnd14, bnd15, bnd16, bnd17, bnd18, bnd19, bnd20, bnd21, bnd22, bnd23, bnd24, bnd25, bnd26, bnd27, bnd28, bnd29, bnd30, bnd31, bnd32, bnd33, trivial⟩
abbrev R : PySem.W.OpenRow := PySem.W.OpenLaw.row PySem.Challenge.rw_curveroom_k07_whole_kinds_of_curves
def fa : List He.Fa := faOf nm
def fn : List He.DefD := nm.map (mkD top)
abbrev hk : PySem.W.Hook := hookG 4 fa fn T.globs
def ob (s : PySem.W.SharedT) : AlG := obsG 4 fa fn T.globs (HandSHeadRun.getT s)
theorem ob_eq (s : PySem.W.SharedT) : ob s = hk.obs s.abs := obsG_eq (HandSHeadRun.getT_eq s)
def loose : List PySem.Str := ("is_whole" : PySem.Str) :: ("are_whole" : PySem.Str) :: ("inverse_of" : PySem.Str) :: ("right_side" : PySem.Str) :: ("is_point" : PySem.Str) :: ("roots_by_square" : PySem.Str) :: ("points_of" : PySem.Str) :: ("count_of" : PySem.Str) :: ("trace_of" : PySem.Str) :: ("need_points" : PySem.Str) :: ("turned" : PySem.Str) :: ("added" : PySem.Str) :: ("sum_of" : PySem.Str) :: ("moved" : PySem.Str) :: ("moved_point" : PySem.Str) :: ("movers_of" : PySem.Str) :: ("home_of_curve" : PySem.Str) :: ("kinds_of_curves" : PySem.Str) :: ("mark_of" : PySem.Str) :: ("twin_of" : PySem.Str) :: ("_law_same" : PySem.Str) :: ("_law_pool" : PySem.Str) :: ("_law_spread" : PySem.Str) :: ("_law_draw" : PySem.Str) :: ("_law_pick" : PySem.Str) :: ("_law_symbol" : PySem.Str) :: ("_law_prime" : PySem.Str) :: ("_law_curve" : PySem.Str) :: ("_law_over" : PySem.Str) :: ("_law_add" : PySem.Str) :: ("_law_move" : PySem.Str) :: ("_law_kind" : PySem.Str) :: ("_law_all_kinds" : PySem.Str) :: ("CurveError" : PySem.Str) :: ("NotOnCurve" : PySem.Str) :: []
theorem run (w : World) : HandSHeadRun.RunEq R (PySem.W.view R.prog [40]) hk ob 20000 loose w := by
  intro os
  kernel_rfl
end LAW
end
namespace LAW
open PySem PySem.Spec PyProof.Rows L2 PC
end LAW
open PySem PySem.W PySem.Calls PyProof.Rows
theorem PySem.Challenge.cw_curveroom_k07_whole_kinds_of_curves_holds : PySem.Challenge.rw_curveroom_k07_whole_kinds_of_curves.Holds := by
  w_on; o_law
  refine HandSHeadRun.head_any (r := OpenLaw.row PySem.Challenge.rw_curveroom_k07_whole_kinds_of_curves) (q := view (OpenLaw.row PySem.Challenge.rw_curveroom_k07_whole_kinds_of_curves).prog [40]) (H := LAW.hk) (ob := LAW.ob) (M := 20000) (loose := LAW.loose) (d := HandSHeadRun.topDef (OpenLaw.row PySem.Challenge.rw_curveroom_k07_whole_kinds_of_curves).prog 40) (kwd := []) LAW.ob_eq
    (by kernel_rfl) (fun s => by kernel_rfl) LAW.run (by kernel_rfl) (by kernel_rfl) (by kernel_rfl) (by rfl) (by first | assumption | decide +kernel) (by decide +kernel) ⟨rfl, rfl, rfl, rfl, rfl, by decide +kernel⟩ ?hw ?hc
  case hw => w_witness2
  case hc =>
    refine L2.walk_ofE (l := PySem.Challenge.rw_curveroom_k07_whole_kinds_of_curves) (n := 63) (k := 20) (x := "script") (CX := L2.CX0) rfl (by decide) (by kernel_rfl) ⟨rfl, by decide, by decide⟩ ?F (fun _ _ _ _ z => z)
    intro w mg fa h Y G hmg0
    obtain ⟨K, KX, c⟩ := Y
    have hmg : mg ("law" : PySem.Str) = some (.ref fa) := by
      have e : (HandSHeadRun.topDef (OpenLaw.row PySem.Challenge.rw_curveroom_k07_whole_kinds_of_curves).prog 40).name = ("law" : PySem.Str) := by kernel_rfl
      rw [← e]
      exact hmg0
    obtain ⟨fd, hb, hF⟩ := PC.law_of (P := (PySem.Challenge.rw_curveroom_k07_whole_kinds_of_curves).prog) (w := w) (W := 1000000) (k := 20) (f := 33) KX G c LAW.chk LAW.bnds (d := LAW.d33) rfl rfl rfl hmg
    exact ⟨K, fd, _, KX, hb, fun H a ns hl hO hS => PC.sp_of hO hS (LAW.main ns hl), hF⟩
