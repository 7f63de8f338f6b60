import PyProof.Rows.All
import Wide.All
import OpenK.AllK
import Wide.FinOn
import KE.KStateDown
import HandS.ForMost
import HandS.Deep
import HandS.Evl
import HandS.TupAny
import HandS.IsInst
import HandS.NoneIn
import HandS.Style
import HandS.Comp
import HandS.Iter
import HandS.Zip
import HandS.Words
import HandS.WordsList
import HandS.Defaults
import HandS.HeadEnd
import HandS.Head0
import HandS.Head1
import HandS.Head2
import HandS.HeadHook1
import HandS.HeadHook2
import PySem.Challenge.RW_curveroom_k10_whole_polynomials_of_a_pri
set_option Elab.async false
set_option linter.all false
set_option maxRecDepth 100000
set_option maxHeartbeats 0
section
/-! PcCore: a small language of plain values, and what its texts compute (our own work). -/
namespace PC
open PySem
abbrev D := PyData

/-- a value: pure data; a changeable list in the store; the script -/
inductive R where
  | d (x : D)
  | loc (n : Nat)
  | scr (ns : List Int)

inductive Cell where
  | lst (xs : List D)

abbrev Store := List Cell
abbrev Env := List (Option R)

inductive Bop where
  | add | sub | mul | div | mod | pow
  deriving DecidableEq
inductive Cop where
  | eq | ne | lt | le | gt | ge | inn | nin | isn | isnn
  deriving DecidableEq
/-- built-in functions of one argument -/
inductive B1 where
  | len | int | abs | tuple | list | sum | any | all
  deriving DecidableEq
inductive B2 where
  | max | min
  deriving DecidableEq
inductive Ty where
  | tuple | list | int | bool | str
  deriving DecidableEq

mutual
/-- a target -/
inductive G where
  | name (i : Nat)
  | tup (gs : Gs)
inductive Gs where
  | nil
  | cons (g : G) (r : Gs)
end
mutual
inductive E where
  | var (i : Nat)
  | glob (x : Str) (v : D)
  | int (i : Int)
  | bl (b : Bool)
  | non
  | str (s : Str)
  | bin (o : Bop) (a b : E)
  | neg (a : E)
  | not (a : E)
  | and (a b : E)
  | or (a b : E)
  | cmp (o : Cop) (a b : E)
  | chain (o p : Cop) (a b c : E)
  | ite (c a b : E)
  | ix (a b : E)
  | slo (a b : E)
  | shi (a b : E)
  | rev (a : E)
  | tup (es : Es)
  | lst (es : Es)
  | comp (g : G) (vs : List Nat) (it : It) (hc : Bool) (c e : E)
  | b1 (f : B1) (a : E)
  | b2 (f : B2) (a b : E)
  | isi (a : E) (t : Ty)
  | call (f : Nat) (es : Es)
inductive Es where
  | nil
  | cons (e : E) (r : Es)
/-- what a loop walks -/
inductive It where
  | rng1 (a : E)
  | rng2 (a b : E)
  | rng3 (a b c : E)
  | seq (a : E)
  | zip (a b : E)
end
mutual
inductive S where
  | asg (g : G) (e : E)
  | thaw (i : Nat) (e : E)
  | par (is : List Nat) (es : Es)
  | aug (i : Nat) (o : Bop) (e : E)
  | seti (a b e : E)
  | augi (a b : E) (o : Bop) (e : E)
  | if_ (c : E) (t f : Ss)
  | whl (c : E) (b : Ss)
  | for_ (g : G) (it : It) (b : Ss)
  | ret (e : E)
  | app (a e : E)
  | ext (a e : E)
  | pop (a : E)
  | pass
  | dead
inductive Ss where
  | nil
  | cons (s : S) (r : Ss)
end

/-! ### plain operations -/
def viewD : R → Store → Option D
  | .d x, _ => some x
  | .loc n, S => match S[n]? with
    | some (.lst xs) => some (.list xs)
    | none => none
  | .scr _, _ => none
/-- as viewD, the script too -/
def viewS : R → Store → Option D
  | .scr ns, _ => some (.list (ns.map PyData.int))
  | r, S => viewD r S
def seqOf : D → Option (List D)
  | .list xs => some xs
  | .tuple xs => some xs
  | _ => none
def toB : R → Option Bool
  | .d (.bool b) => some b
  | _ => none
def pure? : R → Option D
  | .d x => some x
  | _ => none
def pures : List R → Option (List D)
  | [] => some []
  | r :: rs => match pure? r, pures rs with
    | some x, some xs => some (x :: xs)
    | _, _ => none
def ints? : List D → Option (List Int)
  | [] => some []
  | .int i :: r => match ints? r with
    | some is => some (i :: is)
    | none => none
  | _ :: _ => none
def bools? : List D → Option (List Bool)
  | [] => some []
  | .bool i :: r => match bools? r with
    | some is => some (i :: is)
    | none => none
  | _ :: _ => none
/-- a size that is always safe -/
def szOk (n : Nat) : Bool := Nat.ble n 1000000
/-- a factor that is always safe -/
def smI (i : Int) : Bool := decide (i.natAbs < 18446744073709551616)

def binI : Bop → Int → Int → Option Int
  | .add, i, j => some (i + j)
  | .sub, i, j => some (i - j)
  | .mul, i, j => if (smI i || smI j) = true then some (i * j) else none
  | .div, i, j => if 0 < j then (if j < 1073741824 then some (i / j) else none) else if j < 0 then (if -1073741824 < j then some (i.fdiv j) else none) else none
  | .mod, i, j => if 0 < j then some (i % j) else if j < 0 then some (i.fmod j) else none
  | .pow, i, j => if (decide (0 ≤ j) && decide (j ≤ 1000000) && smI i) = true then some (i ^ j.toNat) else none
def binD (o : Bop) : D → D → Option D
  | .int i, .int j => match binI o i j with
    | some z => some (.int z)
    | none => none
  | .str x, .str y => match o with
    | .add => if szOk (x.length + y.length) = true then some (.str (x ++ y)) else none
    | _ => none
  | .tuple xs, .tuple ys => match o with
    | .add => if szOk (xs.length + ys.length) = true then some (.tuple (xs ++ ys)) else none
    | _ => none
  | .list xs, .list ys => match o with
    | .add => if szOk (xs.length + ys.length) = true then some (.list (xs ++ ys)) else none
    | _ => none
  | .list xs, .int k => match o with
    | .mul => if (szOk k.natAbs && szOk (xs.length * k.toNat)) = true then some (.list (List.replicate k.toNat xs).flatten) else none
    | _ => none
  | _, _ => none

def eqD (d e : D) : Option Bool := if (SeqAt.shaped d && SeqAt.shaped e) = true then some (PyData.eqv d e) else none
def flat1 : D → Bool
  | .none => true
  | .bool _ => true
  | .int _ => true
  | .str _ => true
  | _ => false
def inD (d : D) : D → Option Bool
  | .list ds => if (SeqAt.shaped d && SeqAt.shaped (.list ds)) = true then some (ds.any fun z => PyData.eqv z d) else none
  | .tuple ds => if (flat1 d && ds.all flat1) = true then some (ds.any fun z => PyData.eqv z d) else none
  | _ => none
def cmpI : Cop → Int → Int → Option Bool
  | .eq, i, j => some (decide (i = j))
  | .ne, i, j => some (!decide (i = j))
  | .lt, i, j => some (decide (i < j))
  | .le, i, j => some (decide (i ≤ j))
  | .gt, i, j => some (decide (j < i))
  | .ge, i, j => some (decide (j ≤ i))
  | _, _, _ => none
def neg? : Option Bool → Option Bool
  | some b => some (!b)
  | none => none
def isN : D → Option Bool
  | .none => some true
  | .dict _ => none
  | _ => some false
def isNone : D → Bool
  | .none => true
  | _ => false
def cmpO (o : Cop) (d e : D) : Option Bool := match o with
  | .eq => eqD d e
  | .ne => neg? (eqD d e)
  | .inn => inD d e
  | .nin => neg? (inD d e)
  | .isn => if isNone e = true then isN d else none
  | .isnn => if isNone e = true then neg? (isN d) else none
  | _ => none
def cmpD (o : Cop) (d e : D) : Option Bool := match d, e with
  | .int i, .int j => cmpI o i j
  | d, e => cmpO o d e
def ixD : D → D → Option D
  | .list xs, .int i => L2.atI xs i
  | .tuple xs, .int i => L2.atI xs i
  | .str z, .int i => if szOk z.length = true then (match L2.atI z.cps.toList i with
    | some c => some (.str ⟨#[c]⟩)
    | none => none) else none
  | _, _ => none
/-- a part of a list -/
def cut (xs : List D) (lo hi : Option Int) : List D := (xs.drop (HT.sIx xs.length 0 lo)).take (HT.sIx xs.length xs.length hi - HT.sIx xs.length 0 lo)
def slD (d : D) (lo hi : Option Int) : Option D := match d with
  | .list xs => some (.list (cut xs lo hi))
  | .tuple xs => some (.tuple (cut xs lo hi))
  | _ => none
def revD : D → Option D
  | .list xs => some (.list xs.reverse)
  | .tuple xs => some (.tuple xs.reverse)
  | _ => none
def b1D : B1 → D → Option D
  | .len, .list xs => some (.int xs.length)
  | .len, .tuple xs => some (.int xs.length)
  | .len, .str x => if szOk x.length = true then some (.int x.length) else none
  | .int, .int i => some (.int i)
  | .abs, .int i => some (.int (if i < 0 then -i else i))
  | .tuple, .list xs => some (.tuple xs)
  | .tuple, .tuple xs => some (.tuple xs)
  | .list, .list xs => some (.list xs)
  | .list, .tuple xs => some (.list xs)
  | .sum, .list xs => match ints? xs with
    | some is => some (.int is.sum)
    | none => none
  | .any, .list xs => match bools? xs with
    | some is => some (.bool (is.any id))
    | none => none
  | .all, .list xs => match bools? xs with
    | some is => some (.bool (is.all id))
    | none => none
  | _, _ => none
def b2D : B2 → D → D → Option D
  | .max, .int i, .int j => some (.int (if j > i then j else i))
  | .min, .int i, .int j => some (.int (if j < i then j else i))
  | _, _, _ => none
def isD : D → Ty → Option Bool
  | .none, _ => some false
  | .bool _, .bool => some true
  | .bool _, .int => some true
  | .bool _, _ => some false
  | .int _, .int => some true
  | .int _, _ => some false
  | .str _, .str => some true
  | .str _, _ => some false
  | .tuple _, .tuple => some true
  | .tuple _, _ => some false
  | .list _, .list => some true
  | .list _, _ => some false
  | _, _ => none

/-! ### targets -/
mutual
def asgG : G → R → Env → Option Env
  | .name i, r, ρ => some (ρ.set i (some r))
  | .tup gs, .d (.tuple xs), ρ => asgGs gs xs ρ
  | .tup gs, .d (.list xs), ρ => asgGs gs xs ρ
  | .tup _, _, _ => none
def asgGs : Gs → List D → Env → Option Env
  | .nil, [], ρ => some ρ
  | .cons g gs, x :: xs, ρ => match asgG g (.d x) ρ with
    | some ρ' => asgGs gs xs ρ'
    | none => none
  | _, _, _ => none
end
mutual
def G.slots : G → List Nat
  | .name i => [i]
  | .tup gs => Gs.slots gs
def Gs.slots : Gs → List Nat
  | .nil => []
  | .cons g gs => G.slots g ++ Gs.slots gs
end
def wipeE (ρ : Env) : List Nat → Env
  | [] => ρ
  | v :: vs => (wipeE ρ vs).set v none
def sets (ρ : Env) : List Nat → List R → Option Env
  | [], [] => some ρ
  | i :: is, r :: rs => sets (ρ.set i (some r)) is rs
  | _, _ => none

/-! ### what loops walk -/
inductive Items where
  | rng (lo st : Int) (n : Nat)
  | seq (r : R) (n : Nat)
  | zip (r q : R) (n : Nat)
def listOf (r : R) (S : Store) : Option (List D) := match viewD r S with
  | some (.list xs) => some xs
  | _ => none
def Items.n : Items → Nat
  | .rng _ _ n => n
  | .seq _ n => n
  | .zip _ _ n => n
def Items.get : Items → Nat → Store → Option D
  | .rng lo st _, i, _ => some (.int (lo + i * st))
  | .seq r _, i, S => match viewS r S with
    | some d => (match seqOf d with
      | some xs => xs[i]?
      | none => none)
    | none => none
  | .zip r q _, i, S => match listOf r S, listOf q S with
    | some xs, some ys => (match xs[i]?, ys[i]? with
      | some x, some y => some (.tuple [x, y])
      | _, _ => none)
    | _, _ => none
def Items.fin : Items → Store → Bool
  | .rng .., _ => true
  | .seq r n, S => match viewS r S with
    | some d => (match seqOf d with
      | some xs => Nat.ble xs.length n
      | none => false)
    | none => false
  | .zip r q n, S => match listOf r S, listOf q S with
    | some xs, some ys => Nat.ble xs.length n || Nat.ble ys.length n
    | _, _ => false
def rngOk (i : Int) : Bool := decide (-(2 ^ 62) ≤ i) && decide (i < 2 ^ 62)

inductive Out where
  | nx (ρ : Env) (s : Store)
  | rt (r : R) (s : Store)

def setCell (s : Store) (n : Nat) (xs : List D) : Store := s.set n (.lst xs)
def cellAt (s : Store) (n : Nat) : Option (List D) := match s[n]? with
  | some (.lst xs) => some xs
  | none => none
/-- a comprehension's turns: rem turns are left, the next is the i-th; the new list is the cell n -/
def compN (J : Items) (n : Nat) (step : D → Store → Option (Option D × Store)) : Nat → Nat → Store → Option Store
  | 0, _, s => if J.fin s = true then some s else none
  | m + 1, i, s => match J.get i s with
    | none => none
    | some x => match step x s with
      | none => none
      | some (none, s') => compN J n step m (i + 1) s'
      | some (some y, s') => match cellAt s' n with
        | some acc => if szOk acc.length = true then compN J n step m (i + 1) (setCell s' n (acc ++ [y])) else none
        | none => none
def forN (J : Items) (step : D → Env → Store → Option Out) : Nat → Nat → Env → Store → Option Out
  | 0, _, ρ, s => if J.fin s = true then some (.nx ρ s) else none
  | m + 1, i, ρ, s => match J.get i s with
    | none => none
    | some x => match step x ρ s with
      | some (.nx ρ' s') => forN J step m (i + 1) ρ' s'
      | o => o
def whlN (t : Env → Store → Option (Bool × Store)) (b : Env → Store → Option Out) : Nat → Env → Store → Option Out
  | 0, _, _ => none
  | m + 1, ρ, s => match t ρ s with
    | none => none
    | some (false, s1) => some (.nx ρ s1)
    | some (true, s1) => match b ρ s1 with
      | some (.nx ρ' s') => whlN t b m ρ' s'
      | o => o

abbrev Call := Nat → List R → Store → Option (R × Store)

/-! ### expressions -/
mutual
def evE (C : Call) : E → Env → Store → Option (R × Store)
  | .var i, ρ, s => match ρ[i]? with
    | some (some r) => some (r, s)
    | _ => none
  | .glob _ v, _, s => some (.d v, s)
  | .int i, _, s => some (.d (.int i), s)
  | .bl b, _, s => some (.d (.bool b), s)
  | .non, _, s => some (.d .none, s)
  | .str x, _, s => some (.d (.str x), s)
  | .bin o a b, ρ, s => match evE C a ρ s with
    | none => none
    | some (ra, s1) => match evE C b ρ s1 with
      | none => none
      | some (rb, s2) => match viewD ra s2, viewD rb s2 with
        | some x, some y => (match binD o x y with
          | some z => some (.d z, s2)
          | none => none)
        | _, _ => none
  | .neg a, ρ, s => match evE C a ρ s with
    | some (.d (.int i), s1) => some (.d (.int (-i)), s1)
    | _ => none
  | .not a, ρ, s => match evE C a ρ s with
    | some (.d (.bool b), s1) => some (.d (.bool (!b)), s1)
    | _ => none
  | .and a b, ρ, s => match evE C a ρ s with
    | some (.d (.bool true), s1) => evE C b ρ s1
    | some (.d (.bool false), s1) => some (.d (.bool false), s1)
    | _ => none
  | .or a b, ρ, s => match evE C a ρ s with
    | some (.d (.bool true), s1) => some (.d (.bool true), s1)
    | some (.d (.bool false), s1) => evE C b ρ s1
    | _ => none
  | .cmp o a b, ρ, s => match evE C a ρ s with
    | none => none
    | some (ra, s1) => match evE C b ρ s1 with
      | none => none
      | some (rb, s2) => match viewD ra s2, viewD rb s2 with
        | some x, some y => (match cmpD o x y with
          | some z => some (.d (.bool z), s2)
          | none => none)
        | _, _ => none
  | .chain o p a b c, ρ, s => match evE C a ρ s with
    | none => none
    | some (ra, s1) => match evE C b ρ s1 with
      | none => none
      | some (rb, s2) => match viewD ra s2, viewD rb s2 with
        | some x, some y => (match cmpD o x y with
          | some true => (match evE C c ρ s2 with
            | none => none
            | some (rc, s3) => match viewD rb s3, viewD rc s3 with
              | some y', some z => (match cmpD p y' z with
                | some t => some (.d (.bool t), s3)
                | none => none)
              | _, _ => none)
          | some false => some (.d (.bool false), s2)
          | none => none)
        | _, _ => none
  | .ite c a b, ρ, s => match evE C c ρ s with
    | some (.d (.bool true), s1) => evE C a ρ s1
    | some (.d (.bool false), s1) => evE C b ρ s1
    | _ => none
  | .ix a b, ρ, s => match evE C a ρ s with
    | none => none
    | some (ra, s1) => match evE C b ρ s1 with
      | none => none
      | some (rb, s2) => match viewD ra s2, viewD rb s2 with
        | some x, some y => (match ixD x y with
          | some z => some (.d z, s2)
          | none => none)
        | _, _ => none
  | .slo a b, ρ, s => match evE C a ρ s with
    | none => none
    | some (ra, s1) => match evE C b ρ s1 with
      | some (.d (.int i), s2) => (match viewS ra s2 with
        | some x => (match slD x (some i) none with
          | some z => some (.d z, s2)
          | none => none)
        | none => none)
      | _ => none
  | .shi a b, ρ, s => match evE C a ρ s with
    | none => none
    | some (ra, s1) => match evE C b ρ s1 with
      | some (.d (.int i), s2) => (match viewS ra s2 with
        | some x => (match slD x none (some i) with
          | some z => some (.d z, s2)
          | none => none)
        | none => none)
      | _ => none
  | .rev a, ρ, s => match evE C a ρ s with
    | none => none
    | some (ra, s1) => match viewD ra s1 with
      | some x => (match revD x with
        | some z => some (.d z, s1)
        | none => none)
      | none => none
  | .tup es, ρ, s => match evEs C es ρ s with
    | some (rs, s1) => (match pures rs with
      | some xs => if szOk xs.length = true then some (.d (.tuple xs), s1) else none
      | none => none)
    | none => none
  | .lst es, ρ, s => match evEs C es ρ s with
    | some (rs, s1) => (match pures rs with
      | some xs => if szOk xs.length = true then some (.d (.list xs), s1) else none
      | none => none)
    | none => none
  | .comp g vs it hc c e, ρ, s => match evIt C it ρ s with
    | none => none
    | some (J, s1) => match compN J s1.length (fun x s2 => match asgG g (.d x) (wipeE ρ vs) with
        | none => none
        | some ρ2 => match (if hc = true then evE C c ρ2 s2 else some (.d (.bool true), s2)) with
          | some (.d (.bool true), s3) => (match evE C e ρ2 s3 with
            | some (.d y, s4) => some (some y, s4)
            | _ => none)
          | some (.d (.bool false), s3) => some (none, s3)
          | _ => none) J.n 0 (s1 ++ [.lst []]) with
      | some s5 => (match cellAt s5 s1.length with
        | some xs => some (.d (.list xs), s5.take s1.length)
        | none => none)
      | none => none
  | .b1 f a, ρ, s => match evE C a ρ s with
    | none => none
    | some (ra, s1) => match viewS ra s1 with
      | some x => (match b1D f x with
        | some z => some (.d z, s1)
        | none => none)
      | none => none
  | .b2 f a b, ρ, s => match evE C a ρ s with
    | none => none
    | some (ra, s1) => match evE C b ρ s1 with
      | none => none
      | some (rb, s2) => match viewD ra s2, viewD rb s2 with
        | some x, some y => (match b2D f x y with
          | some z => some (.d z, s2)
          | none => none)
        | _, _ => none
  | .isi a t, ρ, s => match evE C a ρ s with
    | none => none
    | some (ra, s1) => match viewD ra s1 with
      | some x => (match isD x t with
        | some z => some (.d (.bool z), s1)
        | none => none)
      | none => none
  | .call f es, ρ, s => match evEs C es ρ s with
    | some (rs, s1) => C f rs s1
    | none => none
def evEs (C : Call) : Es → Env → Store → Option (List R × Store)
  | .nil, _, s => some ([], s)
  | .cons e r, ρ, s => match evE C e ρ s with
    | none => none
    | some (v, s1) => match evEs C r ρ s1 with
      | none => none
      | some (vs, s2) => some (v :: vs, s2)
def evIt (C : Call) : It → Env → Store → Option (Items × Store)
  | .rng1 a, ρ, s => match evE C a ρ s with
    | some (.d (.int j), s1) => if rngOk j = true then some (.rng 0 1 j.toNat, s1) else none
    | _ => none
  | .rng2 a b, ρ, s => match evE C a ρ s with
    | some (.d (.int i), s1) => (match evE C b ρ s1 with
      | some (.d (.int j), s2) => if (rngOk i && rngOk j) = true then some (.rng i 1 (j - i).toNat, s2) else none
      | _ => none)
    | _ => none
  | .rng3 a b c, ρ, s => match evE C a ρ s with
    | some (.d (.int i), s1) => (match evE C b ρ s1 with
      | some (.d (.int j), s2) => (match evE C c ρ s2 with
        | some (.d (.int k), s3) => if (rngOk i && rngOk j && decide (k = -1)) = true then some (.rng i (-1) (i - j).toNat, s3) else none
        | _ => none)
      | _ => none)
    | _ => none
  | .seq a, ρ, s => match evE C a ρ s with
    | none => none
    | some (ra, s1) => match viewS ra s1 with
      | some x => (match seqOf x with
        | some xs => some (.seq ra xs.length, s1)
        | none => none)
      | none => none
  | .zip a b, ρ, s => match evE C a ρ s with
    | none => none
    | some (ra, s1) => match evE C b ρ s1 with
      | none => none
      | some (rb, s2) => match listOf ra s2, listOf rb s2 with
        | some xs, some ys => some (.zip ra rb (min xs.length ys.length), s2)
        | _, _ => none
end
/-! ### statements -/
mutual
def exS (C : Call) (W : Nat) : S → Env → Store → Option Out
  | .asg g e, ρ, s => match evE C e ρ s with
    | none => none
    | some (r, s1) => (match asgG g r ρ with
      | some ρ' => some (.nx ρ' s1)
      | none => none)
  | .thaw i e, ρ, s => match evE C e ρ s with
    | some (.d (.list xs), s1) => some (.nx (ρ.set i (some (.loc s1.length))) (s1 ++ [.lst xs]))
    | _ => none
  | .par is es, ρ, s => match evEs C es ρ s with
    | none => none
    | some (rs, s1) => (match sets ρ is rs with
      | some ρ' => some (.nx ρ' s1)
      | none => none)
  | .aug i o e, ρ, s => match ρ[i]? with
    | some (some r) => (match evE C e ρ s with
      | none => none
      | some (re, s1) => match r, re with
        | .d (.int x), .d (.int y) => (match binD o (.int x) (.int y) with
          | some z => some (.nx (ρ.set i (some (.d z))) s1)
          | none => none)
        | _, _ => none)
    | _ => none
  | .seti a b e, ρ, s => match evE C e ρ s with
    | some (.d x, s1) => (match evE C a ρ s1 with
      | some (.loc n, s2) => (match evE C b ρ s2 with
        | some (.d (.int k), s3) => (match cellAt s3 n with
          | some xs => (match L2.ixN xs.length k with
            | some j => some (.nx ρ (setCell s3 n (xs.set j x)))
            | none => none)
          | none => none)
        | _ => none)
      | _ => none)
    | _ => none
  | .augi a b o e, ρ, s => match evE C a ρ s with
    | some (.loc n, s1) => (match evE C b ρ s1 with
      | some (.d (.int k), s2) => (match cellAt s2 n with
        | some xs => (match L2.atI xs k with
          | some (.int x) => (match evE C e ρ s2 with
            | some (.d (.int y), s3) => (match binD o (.int x) (.int y) with
              | some z => (match cellAt s3 n with
                | some ys => (match L2.ixN ys.length k with
                  | some j => some (.nx ρ (setCell s3 n (ys.set j z)))
                  | none => none)
                | none => none)
              | none => none)
            | _ => none)
          | _ => none)
        | none => none)
      | _ => none)
    | _ => none
  | .if_ c t f, ρ, s => match evE C c ρ s with
    | some (.d (.bool true), s1) => exSs C W t ρ s1
    | some (.d (.bool false), s1) => exSs C W f ρ s1
    | _ => none
  | .whl c b, ρ, s => whlN (fun ρ s => match evE C c ρ s with
      | some (.d (.bool t), s1) => some (t, s1)
      | _ => none) (fun ρ s => exSs C W b ρ s) W ρ s
  | .for_ g it b, ρ, s => match evIt C it ρ s with
    | none => none
    | some (J, s1) => forN J (fun x ρ s => match asgG g (.d x) ρ with
        | none => none
        | some ρ' => exSs C W b ρ' s) J.n 0 ρ s1
  | .ret e, ρ, s => match evE C e ρ s with
    | none => none
    | some (r, s1) => some (.rt r s1)
  | .app a e, ρ, s => match evE C a ρ s with
    | some (.loc n, s1) => (match evE C e ρ s1 with
      | some (.d x, s2) => (match cellAt s2 n with
        | some xs => if szOk xs.length = true then some (.nx ρ (setCell s2 n (xs ++ [x]))) else none
        | none => none)
      | _ => none)
    | _ => none
  | .ext a e, ρ, s => match evE C a ρ s with
    | some (.loc n, s1) => (match evE C e ρ s1 with
      | some (.d (.list ys), s2) => (match cellAt s2 n with
        | some xs => if szOk (xs.length + ys.length) = true then some (.nx ρ (setCell s2 n (xs ++ ys))) else none
        | none => none)
      | _ => none)
    | _ => none
  | .pop a, ρ, s => match evE C a ρ s with
    | some (.loc n, s1) => (match cellAt s1 n with
        | some xs => (match xs[xs.length - 1]? with
          | some _ => some (.nx ρ (setCell s1 n xs.dropLast))
          | none => none)
        | none => none)
    | _ => none
  | .pass, ρ, s => some (.nx ρ s)
  | .dead, _, _ => none
def exSs (C : Call) (W : Nat) : Ss → Env → Store → Option Out
  | .nil, ρ, s => some (.nx ρ s)
  | .cons a r, ρ, s => match exS C W a ρ s with
    | some (.nx ρ' s') => exSs C W r ρ' s'
    | o => o
end
/-! ### defs -/
/-- a def: its name, how many parameters, its names by slot (parameters first), its body; the last text, if it hands back a new list -/
structure Def where
  name : Str
  np : Nat
  names : List Str
  body : Ss
  fin : Option E := none
/-- what a call hands back: new lists are frozen, the callee's own cells are dropped -/
def back (n : Nat) : Option Out → Option (R × Store)
  | some (.rt (.d x) s) => some (.d x, s.take n)
  | some (.rt (.loc i) s) => if i < n then none else (match cellAt s i with
    | some xs => some (.d (.list xs), s.take n)
    | none => none)
  | some (.nx _ s) => some (.d .none, s.take n)
  | _ => none
/-- .. a new list -/
def backN (n : Nat) (C : Call) (e : E) : Option Out → Option (R × Store)
  | some (.nx ρ s) => (match evE C e ρ s with
    | some (.d (.list xs), s2) => some (.d (.list xs), s2.take n)
    | _ => none)
  | _ => none
def start (N : Nat) (rs : List R) : Env := rs.map some ++ List.replicate (N - rs.length) none
def callD (T : List Def) (W : Nat) : Nat → Call
  | 0 => fun _ _ _ => none
  | k + 1 => fun f rs s => match T[f]? with
    | some d => if rs.length = d.np then (match d.fin with
      | none => back s.length (exSs (callD T W k) W d.body (start d.names.length rs) s)
      | some e => backN s.length (callD T W k) e (exSs (callD T W k) W d.body (start d.names.length rs) s)) else none
    | none => none
end PC
end
section
/-! PcRel: how the plain values stand in the model's heap. -/
namespace PC
open PySem PySem.Spec PyProof.Rows L2

mutual
/-- v is the plain value d, in the frozen heap F -/
inductive Rep (K : PySem.W.Frag) (F : Hp) : V → D → Prop
  | non : Rep K F .non .none
  | bl (b : Bool) : Rep K F (.bl b) (.bool b)
  | int (i : Int) : Rep K F (.int i) (.int i)
  | str (x : Str) : Rep K F (.str x) (.str x)
  | lst {a : Addr} {vs : List V} {ds : List D} : F a = some (.lst vs) → Reps K F vs ds → Rep K F (.ref a) (.list ds)
  | tup {a : Addr} {vs : List V} {ds : List D} : SqT K F a vs → Reps K F vs ds → Rep K F (.ref a) (.tuple ds)
inductive Reps (K : PySem.W.Frag) (F : Hp) : List V → List D → Prop
  | nil : Reps K F [] []
  | cons {v : V} {vs : List V} {d : D} {ds : List D} : Rep K F v d → Reps K F vs ds → Reps K F (v :: vs) (d :: ds)
end
abbrev Ex := Evl.Ex
section
variable {K : PySem.W.Frag} {F F' H : Hp}
mutual
theorem Rep.mono (e : Ex F F') : ∀ (d : D) {v : V}, Rep K F v d → Rep K F' v d
  | .none, _, h => by cases h; exact .non
  | .bool _, _, h => by cases h; exact .bl _
  | .int _, _, h => by cases h; exact .int _
  | .str _, _, h => by cases h; exact .str _
  | .list ds, _, h => by cases h with | lst a r => exact .lst (e _ _ a) (Reps.mono e ds r)
  | .tuple ds, _, h => by cases h with | tup a r => exact .tup (Evl.ex_t e a) (Reps.mono e ds r)
  | .dict _, _, h => by cases h
theorem Reps.mono (e : Ex F F') : ∀ (ds : List D) {vs : List V}, Reps K F vs ds → Reps K F' vs ds
  | [], _, h => by cases h; exact .nil
  | d :: ds, _, h => by cases h with | cons a r => exact .cons (Rep.mono e d a) (Reps.mono e ds r)
end
mutual
theorem Rep.dp (e : Ex F H) : ∀ (d : D) {v : V}, Rep K F v d → Dp K H v d
  | .none, _, h => by cases h; exact .non
  | .bool _, _, h => by cases h; exact .bl _
  | .int _, _, h => by cases h; exact .int _
  | .str _, _, h => by cases h; exact .str _
  | .list ds, _, h => by cases h with | lst a r => exact .lst (SqL.of (e _ _ a)) (Reps.dp e ds r)
  | .tuple ds, _, h => by cases h with | tup a r => exact .tup (Evl.ex_t e a) (Reps.dp e ds r)
  | .dict _, _, h => by cases h
theorem Reps.dp (e : Ex F H) : ∀ (ds : List D) {vs : List V}, Reps K F vs ds → DpAll K H vs ds
  | [], _, h => by cases h; exact .nil
  | d :: ds, _, h => by cases h with | cons a r => exact .cons (Rep.dp e d a) (Reps.dp e ds r)
end
theorem Reps.length : ∀ {vs : List V} {ds : List D}, Reps K F vs ds → vs.length = ds.length
  | _, _, .nil => rfl
  | _, _, .cons _ r => congrArg Nat.succ r.length
theorem Reps.get : ∀ {ds : List D} {vs : List V} {i : Nat} {d : D}, Reps K F vs ds → ds[i]? = some d → ∃ v, vs[i]? = some v ∧ Rep K F v d
  | [], _, _, _, _, e => by simp at e
  | x :: ds, _, i, d, h, e => by
    cases h with
    | cons a r =>
      cases i with
      | zero =>
        have e' : x = d := by simpa using e
        subst e'
        exact ⟨_, rfl, a⟩
      | succ i =>
        obtain ⟨v, h1, h2⟩ := Reps.get (i := i) (d := d) r (by simpa using e)
        exact ⟨v, by simpa using h1, h2⟩
theorem Reps.set {v : V} {d : D} (q : Rep K F v d) : ∀ {vs : List V} {ds : List D} (i : Nat), Reps K F vs ds → Reps K F (vs.set i v) (ds.set i d)
  | _, _, _, .nil => .nil
  | _, _, 0, .cons _ r => .cons q r
  | _, _, i + 1, .cons a r => .cons a (Reps.set q i r)
theorem Reps.append : ∀ {vs : List V} {ds : List D} {ws : List V} {es : List D}, Reps K F vs ds → Reps K F ws es → Reps K F (vs ++ ws) (ds ++ es)
  | _, _, _, _, .nil, s => s
  | _, _, _, _, .cons a r, s => .cons a (Reps.append r s)
theorem Reps.take : ∀ {vs : List V} {ds : List D} (n : Nat), Reps K F vs ds → Reps K F (vs.take n) (ds.take n)
  | _, _, 0, _ => .nil
  | _, _, _ + 1, .nil => .nil
  | _, _, n + 1, .cons a r => .cons a (Reps.take n r)
theorem Reps.drop : ∀ {vs : List V} {ds : List D} (n : Nat), Reps K F vs ds → Reps K F (vs.drop n) (ds.drop n)
  | _, _, 0, r => r
  | _, _, _ + 1, .nil => .nil
  | _, _, n + 1, .cons _ r => Reps.drop n r
theorem Reps.reverse {vs : List V} {ds : List D} (h : Reps K F vs ds) : Reps K F vs.reverse ds.reverse := by
  match vs, ds, h with
  | _, _, .nil => exact .nil
  | _, _, .cons a r => rw [List.reverse_cons, List.reverse_cons]; exact Reps.append (Reps.reverse r) (.cons a .nil)
theorem Reps.dropLast : ∀ {vs : List V} {ds : List D}, Reps K F vs ds → Reps K F vs.dropLast ds.dropLast
  | _, _, .nil => .nil
  | _, _, .cons a .nil => .nil
  | _, _, .cons a (.cons b r) => .cons a (Reps.dropLast (.cons b r))
theorem Reps.rep {vs : List V} {ds : List D} (h : Reps K F vs ds) : ∀ k : Nat, Reps K F (List.replicate k vs).flatten (List.replicate k ds).flatten
  | 0 => .nil
  | k + 1 => by
    rw [List.replicate_succ, List.replicate_succ, List.flatten_cons, List.flatten_cons]
    exact Reps.append h (Reps.rep h k)
theorem Reps.ints : ∀ {ds : List D} {vs : List V} {is : List Int}, Reps K F vs ds → ints? ds = some is → vs = is.map V.int
  | [], _, _, h, e => by
    cases h
    cases (Option.some.inj e : [] = _)
    rfl
  | .int i :: ds, _, is, h, e => by
    cases h with
    | cons a r =>
      cases a
      unfold ints? at e
      cases q : ints? ds with
      | none => rw [q] at e; cases e
      | some js =>
        rw [q] at e
        cases (Option.some.inj e : i :: js = is)
        rw [Reps.ints r q]
        rfl
  | .none :: _, _, _, _, e => by cases e
  | .bool _ :: _, _, _, _, e => by cases e
  | .str _ :: _, _, _, _, e => by cases e
  | .list _ :: _, _, _, _, e => by cases e
  | .tuple _ :: _, _, _, _, e => by cases e
  | .dict _ :: _, _, _, _, e => by cases e
theorem Reps.bools : ∀ {ds : List D} {vs : List V} {is : List Bool}, Reps K F vs ds → bools? ds = some is → vs = is.map V.bl
  | [], _, _, h, e => by
    cases h
    cases (Option.some.inj e : [] = _)
    rfl
  | .bool i :: ds, _, is, h, e => by
    cases h with
    | cons a r =>
      cases a
      unfold bools? at e
      cases q : bools? ds with
      | none => rw [q] at e; cases e
      | some js =>
        rw [q] at e
        cases (Option.some.inj e : i :: js = is)
        rw [Reps.bools r q]
        rfl
  | .none :: _, _, _, _, e => by cases e
  | .int _ :: _, _, _, _, e => by cases e
  | .str _ :: _, _, _, _, e => by cases e
  | .list _ :: _, _, _, _, e => by cases e
  | .tuple _ :: _, _, _, _, e => by cases e
  | .dict _ :: _, _, _, _, e => by cases e
theorem reps_ints : ∀ ns : List Int, Reps K F (ns.map V.int) (ns.map PyData.int)
  | [] => .nil
  | n :: ns => .cons (.int n) (reps_ints ns)
end

/-- what a value reads as, just now -/
def View (K : PySem.W.Frag) (F H : Hp) (v : V) : D → Prop
  | .none => v = .non
  | .bool b => v = .bl b
  | .int i => v = .int i
  | .str x => v = .str x
  | .list ds => ∃ a vs, v = .ref a ∧ H a = some (.lst vs) ∧ Reps K F vs ds
  | .tuple ds => ∃ a vs, v = .ref a ∧ SqT K F a vs ∧ Reps K F vs ds
  | .dict _ => False
/-- .. the script too -/
def ViewS (K : PySem.W.Frag) (F H : Hp) (v : V) : D → Prop
  | .list ds => ∃ a vs, v = .ref a ∧ SqL K H a vs ∧ Reps K F vs ds
  | d => View K F H v d
/-- a value of the small language -/
def RepR (K : PySem.W.Frag) (F : Hp) (α : List Addr) (v : V) : R → Prop
  | .d x => Rep K F v x
  | .loc n => ∃ a, v = .ref a ∧ α[n]? = some a
  | .scr ns => ∃ a, v = .ref a ∧ SqL K F a (ns.map V.int)
inductive RepRs (K : PySem.W.Frag) (F : Hp) (α : List Addr) : List V → List R → Prop
  | nil : RepRs K F α [] []
  | cons {v : V} {vs : List V} {r : R} {rs : List R} : RepR K F α v r → RepRs K F α vs rs → RepRs K F α (v :: vs) (r :: rs)
def CellOk (K : PySem.W.Frag) (F H : Hp) (a : Addr) : Cell → Prop
  | .lst ds => ∃ vs, H a = some (.lst vs) ∧ Reps K F vs ds
/-- the store stands in the heap -/
structure SW (K : PySem.W.Frag) (H : Hp) (S : Store) (F : Hp) (α : List Addr) : Prop where
  sub : Ex F H
  len : α.length = S.length
  nd : α.Nodup
  out : ∀ a ∈ α, F a = none
  cell : ∀ (n : Nat) (a : Addr) (c : Cell), α[n]? = some a → S[n]? = some c → CellOk K F H a c
structure EnvOk (K : PySem.W.Frag) (F : Hp) (α : List Addr) (σ : L2.St) (ρ : Env) : Prop where
  len : ρ.length = σ.length
  at_ : ∀ (i : Nat) (r : R), ρ[i]? = some (some r) → ∃ v, σ[i]? = some (some v) ∧ RepR K F α v r
structure Ext (F : Hp) (α : List Addr) (F' : Hp) (α' : List Addr) : Prop where
  ex : Ex F F'
  pre : α <+: α'
theorem Ext.refl {F : Hp} {α : List Addr} : Ext F α F α := ⟨Evl.Ex.refl F, List.prefix_refl _⟩
theorem Ext.trans {F F' F'' : Hp} {α α' α'' : List Addr} (a : Ext F α F' α') (b : Ext F' α' F'' α'') : Ext F α F'' α'' := ⟨a.ex.trans b.ex, a.pre.trans b.pre⟩
theorem pre_get {α α' : List Addr} (p : α <+: α') {n : Nat} {a : Addr} (h : α[n]? = some a) : α'[n]? = some a := by
  obtain ⟨t, rfl⟩ := p
  rw [List.getElem?_append_left (List.getElem?_eq_some_iff.mp h).1]
  exact h

section
variable {K : PySem.W.Frag} {F F' H H' : Hp} {α α' : List Addr} {S S' : Store} {v : V} {σ : L2.St} {ρ : Env}
theorem RepR.mono (x : Ext F α F' α') : ∀ {r : R}, RepR K F α v r → RepR K F' α' v r
  | .d d, h => Rep.mono x.ex d h
  | .loc _, ⟨a, e, h⟩ => ⟨a, e, pre_get x.pre h⟩
  | .scr _, ⟨a, e, h⟩ => ⟨a, e, Evl.ex_l x.ex h⟩
theorem RepRs.mono (x : Ext F α F' α') : ∀ {vs : List V} {rs : List R}, RepRs K F α vs rs → RepRs K F' α' vs rs
  | _, _, .nil => .nil
  | _, _, .cons a r => .cons (RepR.mono x a) (RepRs.mono x r)
theorem RepRs.length : ∀ {vs : List V} {rs : List R}, RepRs K F α vs rs → vs.length = rs.length
  | _, _, .nil => rfl
  | _, _, .cons _ r => congrArg Nat.succ r.length
theorem RepRs.get : ∀ {rs : List R} {vs : List V} {i : Nat} {r : R}, RepRs K F α vs rs → rs[i]? = some r → ∃ v, vs[i]? = some v ∧ RepR K F α v r
  | [], _, _, _, _, e => by simp at e
  | x :: ds, _, i, d, h, e => by
    cases h with
    | cons a r =>
      cases i with
      | zero =>
        have e' : x = d := by simpa using e
        subst e'
        exact ⟨_, rfl, a⟩
      | succ i =>
        obtain ⟨v, h1, h2⟩ := RepRs.get (i := i) (r := d) r (by simpa using e)
        exact ⟨v, by simpa using h1, h2⟩
theorem RepRs.pures : ∀ {rs : List R} {vs : List V} {ds : List D}, RepRs K F α vs rs → pures rs = some ds → Reps K F vs ds
  | [], _, _, h, e => by
    cases h
    cases (Option.some.inj e : [] = _)
    exact .nil
  | r :: rs, _, ds, h, e => by
    cases h with
    | cons a t =>
      unfold PC.pures at e
      cases q : PC.pures rs with
      | none => rw [q] at e; cases r <;> cases e
      | some xs =>
        rw [q] at e
        cases r with
        | d x =>
          cases (Option.some.inj e : x :: xs = ds)
          exact .cons a (RepRs.pures t q)
        | loc _ => cases e
        | scr _ => cases e
theorem EnvOk.mono (x : Ext F α F' α') (h : EnvOk K F α σ ρ) : EnvOk K F' α' σ ρ := ⟨h.len, fun i r e => let ⟨v, a, b⟩ := h.at_ i r e; ⟨v, a, b.mono x⟩⟩
theorem EnvOk.set {r : R} (h : EnvOk K F α σ ρ) (q : RepR K F α v r) (i : Nat) : EnvOk K F α (σ.set i (some v)) (ρ.set i (some r)) := by
  refine ⟨by simp [h.len], fun j r' e => ?_⟩
  by_cases hj : i = j
  · subst hj
    by_cases hi : i < ρ.length
    · rw [List.getElem?_set_self hi] at e
      cases e
      exact ⟨v, by rw [List.getElem?_set_self (h.len ▸ hi)], q⟩
    · rw [List.getElem?_eq_none (by simpa using hi)] at e
      cases e
  · rw [List.getElem?_set_ne hj] at e ⊢
    exact h.at_ j r' e
theorem EnvOk.clear (h : EnvOk K F α σ ρ) (i : Nat) : EnvOk K F α (σ.set i none) (ρ.set i none) := by
  refine ⟨by simp [h.len], fun j r' e => ?_⟩
  by_cases hj : i = j
  · subst hj
    by_cases hi : i < ρ.length
    · rw [List.getElem?_set_self hi] at e
      cases e
    · rw [List.getElem?_eq_none (by simpa using hi)] at e
      cases e
  · rw [List.getElem?_set_ne hj] at e ⊢
    exact h.at_ j r' e
theorem EnvOk.wipe (h : EnvOk K F α σ ρ) : ∀ vs : List Nat, EnvOk K F α (L2.wipe σ vs) (wipeE ρ vs)
  | [] => h
  | i :: vs => (EnvOk.wipe h vs).clear i
theorem View.of : ∀ {d : D}, Rep K F v d → Ex F H → View K F H v d
  | .none, h, _ => by cases h; rfl
  | .bool _, h, _ => by cases h; rfl
  | .int _, h, _ => by cases h; rfl
  | .str _, h, _ => by cases h; rfl
  | .list ds, h, e => by cases h with | lst a r => exact ⟨_, _, rfl, e _ _ a, r⟩
  | .tuple ds, h, e => by cases h with | tup a r => exact ⟨_, _, rfl, a, r⟩
  | .dict _, h, _ => by cases h
theorem View.s : ∀ {d : D}, View K F H v d → ViewS K F H v d
  | .none, h => h
  | .bool _, h => h
  | .int _, h => h
  | .str _, h => h
  | .list _, ⟨a, vs, e, h, r⟩ => ⟨a, vs, e, SqL.of h, r⟩
  | .tuple _, h => h
  | .dict _, h => h
theorem ViewS.dp (x : Ex F H) : ∀ {d : D}, ViewS K F H v d → Dp K H v d
  | .none, h => by cases (show v = _ from h); exact .non
  | .bool _, h => by cases (show v = _ from h); exact .bl _
  | .int _, h => by cases (show v = _ from h); exact .int _
  | .str _, h => by cases (show v = _ from h); exact .str _
  | .list _, ⟨a, vs, e, h, r⟩ => by subst e; exact .lst h (Reps.dp x _ r)
  | .tuple _, ⟨a, vs, e, h, r⟩ => by subst e; exact .tup (Evl.ex_t x h) (Reps.dp x _ r)
  | .dict _, h => (show False from h).elim
theorem SW.view (w : SW K H S F α) : ∀ {r : R} {d : D}, RepR K F α v r → viewD r S = some d → View K F H v d
  | .d x, d, h, e => by cases (Option.some.inj e : x = d); exact View.of h w.sub
  | .loc n, d, ⟨a, ev, ea⟩, e => by
    simp only [viewD] at e
    cases q : S[n]? with
    | none => rw [q] at e; cases e
    | some c =>
      cases c with
      | lst xs =>
        rw [q] at e
        cases (Option.some.inj e : PyData.list xs = d)
        obtain ⟨vs, h1, h2⟩ := w.cell n a _ ea q
        exact ⟨a, vs, ev, h1, h2⟩
  | .scr _, _, _, e => by cases e
theorem SW.viewS (w : SW K H S F α) : ∀ {r : R} {d : D}, RepR K F α v r → viewS r S = some d → ViewS K F H v d
  | .d x, d, h, e => (w.view (r := .d x) h e).s
  | .loc n, d, h, e => (w.view (r := .loc n) h e).s
  | .scr ns, d, ⟨a, ev, ea⟩, e => by
    cases (Option.some.inj e : PyData.list _ = d)
    exact ⟨a, _, ev, Evl.ex_l w.sub ea, reps_ints ns⟩
/-- a plain value (no changeable list) is in the frozen heap -/
theorem View.rep : ∀ {d : D}, View K F H v d → (∀ ds, d ≠ .list ds) → Rep K F v d
  | .none, h, _ => by cases (show v = _ from h); exact .non
  | .bool _, h, _ => by cases (show v = _ from h); exact .bl _
  | .int _, h, _ => by cases (show v = _ from h); exact .int _
  | .str _, h, _ => by cases (show v = _ from h); exact .str _
  | .list ds, _, n => (n ds rfl).elim
  | .tuple _, ⟨a, vs, e, h, r⟩, _ => by subst e; exact .tup h r
  | .dict _, h, _ => (show False from h).elim
theorem fresh_notin (w : SW K H S F α) {p : Addr} (hp : H p = none) : p ∉ α := fun hm => by
  obtain ⟨n, hn⟩ := List.mem_iff_getElem?.mp hm
  have hl : n < S.length := by rw [← w.len]; exact (List.getElem?_eq_some_iff.mp hn).1
  have := w.cell n p S[n] hn (List.getElem?_eq_getElem hl)
  cases hc : S[n] with
  | lst xs =>
    rw [hc] at this
    obtain ⟨vs, h1, _⟩ := this
    rw [hp] at h1
    cases h1
theorem cellOk_mono {a : Addr} {c : Cell} (x : Ex F F') (h : H' a = H a) (q : CellOk K F H a c) : CellOk K F' H' a c := by
  cases c with
  | lst ds =>
    obtain ⟨vs, h1, h2⟩ := q
    exact ⟨vs, h.trans h1, Reps.mono x _ h2⟩
/-- a new frozen object -/
theorem SW.frozen (w : SW K H S F α) {p : Addr} {o : HO} (hp : H p = none) : SW K (upd H p o) S (upd F p o) α ∧ Ext F α (upd F p o) α := by
  have hF : F p = none := Evl.fresh_back w.sub hp
  have xF : Ex F (upd F p o) := Evl.Ex.new hF
  have hn := fresh_notin w hp
  refine ⟨⟨fun a u h => ?_, w.len, w.nd, fun a ha => ?_, fun n a c h1 h2 => ?_⟩, ⟨xF, List.prefix_refl _⟩⟩
  · by_cases e : a = p
    · subst e; rw [upd_same] at h ⊢; exact h
    · rw [upd_ne e] at h ⊢; exact w.sub a u h
  · rw [upd_ne (fun e => hn (by rw [← e]; exact ha))]; exact w.out a ha
  · exact cellOk_mono xF (upd_ne (fun e => hn (by rw [← e]; exact List.mem_of_getElem? h1))) (w.cell n a c h1 h2)
/-- a new changeable list -/
theorem SW.celled (w : SW K H S F α) {p : Addr} {vs : List V} {ds : List D} (hp : H p = none) (r : Reps K F vs ds) : SW K (upd H p (.lst vs)) (S ++ [.lst ds]) F (α ++ [p]) ∧ Ext F α F (α ++ [p]) := by
  have hF : F p = none := Evl.fresh_back w.sub hp
  have hn := fresh_notin w hp
  refine ⟨⟨fun a u h => ?_, by simp [w.len], ?_, fun a ha => ?_, fun n a c h1 h2 => ?_⟩, ⟨Evl.Ex.refl F, List.prefix_append _ _⟩⟩
  · rw [upd_ne (ne_of_none h hF)]; exact w.sub a u h
  · rw [List.nodup_append]
    refine ⟨w.nd, by simp, fun a ha b hb => ?_⟩
    have : b = p := by simpa using hb
    subst this
    exact fun e => hn (by rw [← e]; exact ha)
  · rcases List.mem_append.mp ha with ha | ha
    · exact w.out a ha
    · have : a = p := by simpa using ha
      subst this
      exact hF
  · by_cases hl : n < α.length
    · rw [List.getElem?_append_left hl] at h1
      rw [List.getElem?_append_left (w.len ▸ hl)] at h2
      exact cellOk_mono (Evl.Ex.refl F) (upd_ne (fun e => hn (by rw [← e]; exact List.mem_of_getElem? h1))) (w.cell n a c h1 h2)
    · have hn2 : n = α.length := by
        have := (List.getElem?_eq_some_iff.mp h1).1
        simp at this
        omega
      subst hn2
      rw [List.getElem?_append_right (Nat.le_refl _)] at h1
      rw [w.len, List.getElem?_append_right (Nat.le_refl _)] at h2
      simp at h1 h2
      subst h1 h2
      exact ⟨vs, upd_same, r⟩
/-- a changeable list is changed -/
theorem SW.wrote (w : SW K H S F α) {n : Nat} {a : Addr} {vs : List V} {ds : List D} (ha : α[n]? = some a) (r : Reps K F vs ds) : SW K (upd H a (.lst vs)) (setCell S n ds) F α := by
  have hF : F a = none := w.out a (List.mem_of_getElem? ha)
  refine ⟨fun b u h => ?_, by simp [setCell, w.len], w.nd, w.out, fun m b c h1 h2 => ?_⟩
  · rw [upd_ne (ne_of_none h hF)]; exact w.sub b u h
  · unfold setCell at h2
    by_cases e : n = m
    · subst e
      have hl : n < S.length := by rw [← w.len]; exact (List.getElem?_eq_some_iff.mp ha).1
      rw [List.getElem?_set_self hl] at h2
      cases h2
      rw [ha] at h1
      cases h1
      exact ⟨vs, upd_same, r⟩
    · rw [List.getElem?_set_ne e] at h2
      have hb : b ≠ a := fun z => by
        subst z
        obtain ⟨q1, e1⟩ := List.getElem?_eq_some_iff.mp ha
        obtain ⟨q2, e2⟩ := List.getElem?_eq_some_iff.mp h1
        exact e ((List.getElem_inj w.nd).mp (e1.trans e2.symm))
      exact cellOk_mono (Evl.Ex.refl F) (upd_ne hb) (w.cell m b c h1 h2)
theorem SW.at_ (w : SW K H S F α) {n : Nat} {a : Addr} {ds : List D} (ha : α[n]? = some a) (h : cellAt S n = some ds) : ∃ vs, H a = some (.lst vs) ∧ Reps K F vs ds := by
  unfold cellAt at h
  cases q : S[n]? with
  | none => rw [q] at h; cases h
  | some c =>
    cases c with
    | lst xs =>
      rw [q] at h
      cases h
      exact w.cell n a _ ha q
end
end PC
end
section
/-! PcOps: the operations on plain values, by the layer's rules. -/
namespace PC
open PySem PySem.Spec PyProof.Rows L2

/-- a plain result -/
abbrev Fin1 (K : PySem.W.Frag) (F : Hp) (α : List Addr) (S : Store) (dz : D) (Q : VK) : Prop := ∀ v H' F' α', Ext F α F' α' → SW K H' S F' α' → Rep K F' v dz → Q v H'
/-- a new list -/
abbrev FinN (K : PySem.W.Frag) (F H : Hp) (ds : List D) (Q : VK) : Prop := ∀ p vs, H p = none → Reps K F vs ds → Q (.ref p) (upd H p (.lst vs))
/-- two plain operands -/
def rB (K : PySem.W.Frag) (f : D → D → Option D) : R2 := fun x y H Q => ∃ F α S dx dy dz, SW K H S F α ∧ View K F H x dx ∧ View K F H y dy ∧ f dx dy = some dz ∧ Fin1 K F α S dz Q
def rBN (K : PySem.W.Frag) (f : D → D → Option D) : R2 := fun x y H Q => ∃ F α S dx dy ds, SW K H S F α ∧ View K F H x dx ∧ View K F H y dy ∧ f dx dy = some (.list ds) ∧ FinN K F H ds Q
section
variable {K : PySem.W.Frag} {F H : Hp} {α : List Addr} {S : Store} {Q : VK}
theorem Fin1.here {dz : D} (q : Fin1 K F α S dz Q) (w : SW K H S F α) {v : V} (r : Rep K F v dz) : Q v H := q v H F α Ext.refl w r
theorem Fin1.list {ds : List D} (q : Fin1 K F α S (.list ds) Q) (w : SW K H S F α) : FinN K F H ds Q := fun p vs hp r => by
  obtain ⟨w', x⟩ := w.frozen (o := .lst vs) hp
  exact q _ _ _ _ x w' (.lst upd_same (Reps.mono x.ex _ r))
theorem Fin1.tup {ds : List D} (q : Fin1 K F α S (.tuple ds) Q) (w : SW K H S F α) {p : Addr} {vs : List V} (hp : H p = none) (r : Reps K F vs ds) : Q (.ref p) (upd H p (.tup vs)) := by
  obtain ⟨w', x⟩ := w.frozen (o := .tup vs) hp
  exact q _ _ _ _ x w' (.tup (SqT.of upd_same) (Reps.mono x.ex _ r))
end
theorem sz_le {n : Nat} (h : szOk n = true) : n ≤ sizeLine := Nat.le_trans (Nat.le_of_ble_eq_true h) (by rw [sizeLine_eq]; decide)
theorem sz_lt {n : Nat} (h : szOk n = true) : n < sizeLine := Nat.lt_of_le_of_lt (Nat.le_of_ble_eq_true h) (by rw [sizeLine_eq]; decide)
theorem sm_of {i : Int} (h : smI i = true) : -(2 ^ 64) < i ∧ i < 2 ^ 64 := by
  have := of_decide_eq_true h
  omega
def Bop.py : Bop → Operator
  | .add => .Add | .sub => .Sub | .mul => .Mult | .div => .FloorDiv | .mod => .Mod | .pow => .Pow
def Cop.py : Cop → CmpOp
  | .eq => .Eq | .ne => .NotEq | .lt => .Lt | .le => .LtE | .gt => .Gt | .ge => .GtE | .inn => .In | .nin => .NotIn | .isn => .Is | .isnn => .IsNot
theorem flatV_of {K : PySem.W.Frag} {F H : Hp} {v : V} : ∀ {d : D}, View K F H v d → flat1 d = true → flatV v = true
  | .none, h, _ => by cases (show v = _ from h); rfl
  | .bool _, h, _ => by cases (show v = _ from h); rfl
  | .int _, h, _ => by cases (show v = _ from h); rfl
  | .str _, h, _ => by cases (show v = _ from h); rfl
  | .list _, _, e => by cases e
  | .tuple _, _, e => by cases e
  | .dict _, _, e => by cases e
theorem eqV_of {K : PySem.W.Frag} {F : Hp} {v w : V} : ∀ {d e : D}, Rep K F v d → Rep K F w e → flat1 d = true → flat1 e = true → eqV v w = PyData.eqv d e := by
  intro d e h1 h2 f1 f2
  cases h1 <;> first | (cases f1; done) | skip
  all_goals (cases h2 <;> first | (cases f2; done) | skip)
  all_goals first | rfl | simp [eqV, PyData.eqv]
theorem any_of {K : PySem.W.Frag} {F H : Hp} {v : V} {d : D} (hv : Rep K F v d) (fd : flat1 d = true) : ∀ {vs : List V} {ds : List D}, Reps K F vs ds → ds.all flat1 = true → vs.all flatV = true ∧ inV v vs = ds.any fun z => PyData.eqv z d
  | _, _, .nil, _ => ⟨rfl, rfl⟩
  | _, _, .cons (v := u) (d := z) a r, f => by
    rw [List.all_cons, Bool.and_eq_true] at f
    obtain ⟨h1, h2⟩ := any_of (H := H) hv fd r f.2
    refine ⟨by rw [List.all_cons, flatV_of (View.of a (Evl.Ex.refl F)) f.1, h1]; rfl, ?_⟩
    unfold inV at h2 ⊢
    rw [List.any_cons, List.any_cons, h2, eqV_of a hv f.1 fd]
section
variable {X : Cx}
theorem op_binN (o : Bop) : OpR X (binaryOp o.py) (rBN X.K (binD o)) := by
  intro pins s σ H x y v u Q I rx ry ⟨F, α, S, dx, dy, ds, w, hx, hy, e, q⟩
  cases dx <;> cases dy <;> first | (cases e; done) | skip
  · rename_i i j
    simp only [binD] at e
    cases h : binI o i j with
    | none => rw [h] at e; cases e
    | some z => rw [h] at e; cases e
  · cases o <;> first | (cases e; done) | skip
    simp only [binD] at e
    split at e <;> cases e
  · rename_i xs k
    cases o <;> first | (cases e; done) | skip
    simp only [binD] at e
    split at e
    · rename_i hs
      cases e
      obtain ⟨a, vs, ex, ha, ra⟩ := hx
      cases (show y = _ from hy)
      subst ex
      rw [Bool.and_eq_true] at hs
      have hk : k.natAbs ≤ 1000000 := Nat.le_of_ble_eq_true hs.1
      refine op_rep pins s σ H _ _ v u Q I rx ry ⟨a, k, vs, rfl, rfl, ha, by omega, by omega, ?_, fun p hp => q p _ hp (ra.rep _)⟩
      rw [ra.length]
      exact sz_le hs.2
    · cases e
  · rename_i xs ys
    cases o <;> first | (cases e; done) | skip
    simp only [binD] at e
    split at e
    · rename_i hs
      cases e
      obtain ⟨a, vs, ex, ha, ra⟩ := hx
      obtain ⟨b, ws, ey, hb, rb⟩ := hy
      subst ex ey
      refine op_cat pins s σ H _ _ v u Q I rx ry ⟨a, b, vs, ws, rfl, rfl, ha, hb, ?_, fun p hp => q p _ hp (ra.append rb)⟩
      rw [ra.length, rb.length]
      exact sz_le hs
    · cases e
  · cases o <;> first | (cases e; done) | skip
    simp only [binD] at e
    split at e <;> cases e
theorem op_binI (o : Bop) {i j z : Int} (h : binI o i j = some z) : ∀ (pins : List (Addr × Obj)) (s : Shared) (σ : L2.St) (H : Hp) (v u : Value) (Q : VK), Inv X pins σ H s → RelV (.int i) v → RelV (.int j) u → Q (.int z) H →
    wpAny (model X.prog X.w) X.A (binaryOp o.py v u) (EP X pins σ Q) X.xe s := by
  intro pins s σ H v u Q I rx ry q
  cases o with
  | add => cases h; exact op_add pins s σ H _ _ v u Q I rx ry ⟨i, j, rfl, rfl, q⟩
  | sub => cases h; exact op_sub pins s σ H _ _ v u Q I rx ry ⟨i, j, rfl, rfl, q⟩
  | mul =>
    simp only [binI] at h
    split at h
    · rename_i hs
      cases h
      rw [Bool.or_eq_true] at hs
      exact op_mul pins s σ H _ _ v u Q I rx ry ⟨i, j, rfl, rfl, hs.imp sm_of sm_of, q⟩
    · cases h
  | div =>
    simp only [binI] at h
    split at h
    · split at h
      · cases h
        rename_i h1 h2
        exact op_fdiv pins s σ H _ _ v u Q I rx ry ⟨i, j, rfl, rfl, ⟨h1, h2⟩, q⟩
      · cases h
    · split at h
      · split at h
        · cases h
          exact op_fdivN pins s σ H _ _ v u Q I rx ry ⟨i, j, rfl, rfl, ⟨by omega, by omega⟩, q⟩
        · cases h
      · cases h
  | mod =>
    simp only [binI] at h
    split at h
    · cases h
      rename_i h1
      exact op_mod pins s σ H _ _ v u Q I rx ry ⟨i, j, rfl, rfl, h1, q⟩
    · split at h
      · cases h
        exact op_modN pins s σ H _ _ v u Q I rx ry ⟨i, j, rfl, rfl, by omega, q⟩
      · cases h
  | pow =>
    simp only [binI] at h
    split at h
    · rename_i hs
      cases h
      rw [Bool.and_eq_true, Bool.and_eq_true] at hs
      exact op_pow pins s σ H _ _ v u Q I rx ry ⟨i, j, rfl, rfl, ⟨of_decide_eq_true hs.1.1, of_decide_eq_true hs.1.2, of_decide_eq_true hs.2⟩, q⟩
    · cases h
theorem op_bin (o : Bop) : OpR X (binaryOp o.py) (rB X.K (binD o)) := by
  intro pins s σ H x y v u Q I rx ry ⟨F, α, S, dx, dy, dz, w, hx, hy, e, q⟩
  cases dx <;> cases dy <;> first | (cases e; done) | skip
  · rename_i i j
    simp only [binD] at e
    cases h : binI o i j with
    | none => rw [h] at e; cases e
    | some z =>
      rw [h] at e
      cases e
      cases (show x = _ from hx)
      cases (show y = _ from hy)
      exact op_binI o h pins s σ H v u Q I rx ry (q.here w (.int z))
  · rename_i xs ys
    cases o <;> first | (cases e; done) | skip
    simp only [binD] at e
    split at e
    · rename_i hs
      cases e
      cases (show x = _ from hx)
      cases (show y = _ from hy)
      exact op_add_str pins s σ H _ _ v u Q I rx ry ⟨xs, ys, rfl, rfl, sz_le hs, q.here w (.str _)⟩
    · cases e
  · rename_i xs k
    cases o <;> first | (cases e; done) | skip
    have e' := e
    simp only [binD] at e'
    split at e'
    · cases e'
      exact op_binN .mul pins s σ H x y v u Q I rx ry ⟨F, α, S, .list xs, .int k, _, w, hx, hy, e, q.list w⟩
    · cases e'
  · rename_i xs ys
    cases o <;> first | (cases e; done) | skip
    have e' := e
    simp only [binD] at e'
    split at e'
    · cases e'
      exact op_binN .add pins s σ H x y v u Q I rx ry ⟨F, α, S, .list xs, .list ys, _, w, hx, hy, e, q.list w⟩
    · cases e'
  · rename_i xs ys
    cases o <;> first | (cases e; done) | skip
    simp only [binD] at e
    split at e
    · rename_i hs
      cases e
      obtain ⟨a, vs, ex, ha, ra⟩ := hx
      obtain ⟨b, ws, ey, hb, rb⟩ := hy
      subst ex ey
      refine op_catA pins s σ H _ _ v u Q I rx ry ⟨a, b, vs, ws, rfl, rfl, Evl.ex_t w.sub ha, Evl.ex_t w.sub hb, ?_, fun z => ?_, fun _ z => ?_, fun _ _ p hp => q.tup w hp (ra.append rb)⟩
      · rw [ra.length, rb.length]
        exact sz_le hs
      · subst z
        cases ra
        exact q.here w (.tup hb rb)
      · subst z
        cases rb
        rw [List.append_nil] at q
        exact q.here w (.tup ha ra)
    · cases e
/-- a comparison's rule: a truth value comes -/
def rC (K : PySem.W.Frag) (f : D → D → Option Bool) : R2 := fun x y H Q => ∃ F α S dx dy b, SW K H S F α ∧ View K F H x dx ∧ View K F H y dy ∧ f dx dy = some b ∧ Q (.bl b) H
theorem rel_none {x : V} {K : PySem.W.Frag} {F H : Hp} {d : D} {b : Bool} (h : View K F H x d) (e : isN d = some b) : decide (x = .non) = b := by
  cases d <;> cases e
  · cases (show x = _ from h); rfl
  · cases (show x = _ from h); rfl
  · cases (show x = _ from h); rfl
  · cases (show x = _ from h); rfl
  · obtain ⟨a, vs, e, _⟩ := h; subst e; rfl
  · obtain ⟨a, vs, e, _⟩ := h; subst e; rfl
theorem op_isn : OpR X (compareOp .Is) (rC X.K fun d e => if isNone e = true then isN d else none) := by
  intro pins s σ H x y v u Q I rx ry ⟨F, α, S, dx, dy, b, w, hx, hy, e, q⟩
  cases dy <;> first | (cases e; done) | skip
  cases (show y = _ from hy)
  exact op_isN pins s σ H _ _ v u Q I rx ry ⟨rfl, by rw [rel_none hx e]; exact q⟩
theorem op_isnn : OpR X (compareOp .IsNot) (rC X.K fun d e => if isNone e = true then neg? (isN d) else none) := by
  intro pins s σ H x y v u Q I rx ry ⟨F, α, S, dx, dy, b, w, hx, hy, e, q⟩
  cases dy <;> first | (cases e; done) | skip
  cases (show y = _ from hy)
  have e' : neg? (isN dx) = some b := e
  cases h : isN dx with
  | none => rw [h] at e'; cases e'
  | some c =>
    rw [h] at e'
    cases e'
    exact op_notN pins s σ H _ _ v u Q I rx ry ⟨rfl, by rw [rel_none hx h]; exact q⟩
theorem op_eqq (hu : X.A.units + 65 < cLine) : OpR X (compareOp .Eq) (rC X.K eqD) := by
  intro pins s σ H x y v u Q I rx ry ⟨F, α, S, dx, dy, b, w, hx, hy, e, q⟩
  unfold eqD at e
  split at e
  · rename_i hs
    cases e
    rw [Bool.and_eq_true] at hs
    exact op_eqD (by omega) pins s σ H _ _ v u Q I rx ry ⟨dx, dy, hx.s.dp w.sub, hy.s.dp w.sub, hs.1, hs.2, q⟩
  · cases e
theorem op_neq (hu : X.A.units + 65 < cLine) : OpR X (compareOp .NotEq) (rC X.K fun d e => neg? (eqD d e)) := by
  intro pins s σ H x y v u Q I rx ry ⟨F, α, S, dx, dy, b, w, hx, hy, e, q⟩
  unfold eqD at e
  simp only at e
  split at e
  · rename_i hs
    cases e
    rw [Bool.and_eq_true] at hs
    exact op_neD (by omega) pins s σ H _ _ v u Q I rx ry ⟨dx, dy, hx.s.dp w.sub, hy.s.dp w.sub, hs.1, hs.2, q⟩
  · cases e
theorem op_inn (hu : X.A.units + 65 < cLine) : OpR X (compareOp .In) (rC X.K inD) := by
  intro pins s σ H x y v u Q I rx ry ⟨F, α, S, dx, dy, b, w, hx, hy, e, q⟩
  unfold inD at e
  split at e
  · split at e
    · rename_i hs
      cases e
      rw [Bool.and_eq_true] at hs
      exact op_inD hu pins s σ H _ _ v u Q I rx ry ⟨dx, _, hx.s.dp w.sub, hy.s.dp w.sub, hs.1, hs.2, q⟩
    · cases e
  · split at e
    · rename_i hs
      cases e
      rw [Bool.and_eq_true] at hs
      obtain ⟨a, vs, ey, hb, rb⟩ := hy
      subst ey
      have hr : Rep X.K F x dx := hx.rep fun ds z => by subst z; cases hs.1
      obtain ⟨h1, h2⟩ := any_of (H := H) hr hs.1 rb hs.2
      refine op_in_seq pins s σ H _ _ v u Q I rx ry ⟨a, vs, rfl, .inr (Evl.ex_t w.sub hb), flatV_of hx hs.1, h1, ?_⟩
      show Q (.bl (inV x vs)) H
      rw [h2]
      exact q
    · cases e
  · cases e
theorem op_nin (hu : X.A.units + 65 < cLine) : OpR X (compareOp .NotIn) (rC X.K fun d e => neg? (inD d e)) := by
  intro pins s σ H x y v u Q I rx ry ⟨F, α, S, dx, dy, b, w, hx, hy, e, q⟩
  unfold inD at e
  simp only at e
  split at e
  · split at e
    · rename_i hs
      cases e
      rw [Bool.and_eq_true] at hs
      exact op_notInD hu pins s σ H _ _ v u Q I rx ry ⟨dx, _, hx.s.dp w.sub, hy.s.dp w.sub, hs.1, hs.2, q⟩
    · cases e
  · split at e
    · rename_i hs
      cases e
      rw [Bool.and_eq_true] at hs
      obtain ⟨a, vs, ey, hb, rb⟩ := hy
      subst ey
      have hr : Rep X.K F x dx := hx.rep fun ds z => by subst z; cases hs.1
      obtain ⟨h1, h2⟩ := any_of (H := H) hr hs.1 rb hs.2
      refine op_notIn_seq pins s σ H _ _ v u Q I rx ry ⟨a, vs, rfl, .inr (Evl.ex_t w.sub hb), flatV_of hx hs.1, h1, ?_⟩
      show Q (.bl (!inV x vs)) H
      rw [h2]
      exact q
    · cases e
  · cases e
theorem op_cmpI (o : Cop) {i j : Int} {b : Bool} (h : cmpI o i j = some b) : ∀ (pins : List (Addr × Obj)) (s : Shared) (σ : L2.St) (H : Hp) (v u : Value) (Q : VK), Inv X pins σ H s → RelV (.int i) v → RelV (.int j) u → Q (.bl b) H →
    wpAny (model X.prog X.w) X.A (compareOp o.py v u) (EP X pins σ Q) X.xe s := by
  intro pins s σ H v u Q I rx ry q
  cases o <;> cases h
  · exact op_eq pins s σ H _ _ v u Q I rx ry ⟨rfl, by
      have e : decide (V.int i = V.int j) = decide (i = j) := by rw [Bool.eq_iff_iff]; simp
      rw [e]; exact q⟩
  · exact op_ne pins s σ H _ _ v u Q I rx ry ⟨rfl, by
      have e : decide (V.int i = V.int j) = decide (i = j) := by rw [Bool.eq_iff_iff]; simp
      rw [e]; exact q⟩
  · exact op_lt pins s σ H _ _ v u Q I rx ry ⟨i, j, rfl, rfl, q⟩
  · exact op_le pins s σ H _ _ v u Q I rx ry ⟨i, j, rfl, rfl, q⟩
  · exact op_gt pins s σ H _ _ v u Q I rx ry ⟨i, j, rfl, rfl, q⟩
  · exact op_ge pins s σ H _ _ v u Q I rx ry ⟨i, j, rfl, rfl, q⟩
theorem op_cmp (hu : X.A.units + 65 < cLine) (o : Cop) : OpR X (compareOp o.py) (rC X.K (cmpD o)) := by
  intro pins s σ H x y v u Q I rx ry ⟨F, α, S, dx, dy, b, w, hx, hy, e, q⟩
  by_cases hi : ∃ i j, dx = .int i ∧ dy = .int j
  · obtain ⟨i, j, rfl, rfl⟩ := hi
    cases (show x = _ from hx)
    cases (show y = _ from hy)
    exact op_cmpI o e pins s σ H v u Q I rx ry q
  · have e2 : cmpO o dx dy = some b := by
      rw [← e]
      cases dx <;> cases dy <;> first | rfl | exact (hi ⟨_, _, rfl, rfl⟩).elim
    cases o <;> first | (cases e2; done) | skip
    · exact op_eqq hu pins s σ H _ _ v u Q I rx ry ⟨F, α, S, dx, dy, b, w, hx, hy, e2, q⟩
    · exact op_neq hu pins s σ H _ _ v u Q I rx ry ⟨F, α, S, dx, dy, b, w, hx, hy, e2, q⟩
    · exact op_inn hu pins s σ H _ _ v u Q I rx ry ⟨F, α, S, dx, dy, b, w, hx, hy, e2, q⟩
    · exact op_nin hu pins s σ H _ _ v u Q I rx ry ⟨F, α, S, dx, dy, b, w, hx, hy, e2, q⟩
    · exact op_isn pins s σ H _ _ v u Q I rx ry ⟨F, α, S, dx, dy, b, w, hx, hy, e2, q⟩
    · exact op_isnn pins s σ H _ _ v u Q I rx ry ⟨F, α, S, dx, dy, b, w, hx, hy, e2, q⟩
end
end PC
end
section
/-! PcOps2: subscripts, slices, built-in functions, isinstance. -/
namespace PC
open PySem PySem.Spec PyProof.Rows L2

theorem atI_rep {K : PySem.W.Frag} {F : Hp} {vs : List V} {ds : List D} {i : Int} {d : D} (r : Reps K F vs ds) (e : atI ds i = some d) : ∃ v, atI vs i = some v ∧ Rep K F v d := by
  unfold atI at e ⊢
  rw [r.length]
  cases h : ixN ds.length i with
  | none => rw [h] at e; cases e
  | some j =>
    rw [h] at e
    exact r.get e
section
variable {X : Cx}
theorem ix_D : IxR X (rB X.K ixD) := by
  intro value slice pins s σ H x y v u Q I rx ry ⟨F, α, S, dx, dy, dz, w, hx, hy, e, q⟩ hs
  cases dx <;> cases dy <;> first | (cases e; done) | skip
  · rename_i z i
    simp only [ixD] at e
    cases (show x = _ from hx)
    cases (show y = _ from hy)
    split at e
    · rename_i hz
      cases hc : atI z.cps.toList i with
      | none => rw [hc] at e; cases e
      | some c =>
        rw [hc] at e
        cases e
        exact ix_str value slice pins s σ H _ _ v u Q I rx ry ⟨z, i, c, rfl, rfl, sz_le hz, hc, q.here w (.str _)⟩ hs
    · cases e
  · rename_i xs i
    cases (show y = _ from hy)
    obtain ⟨a, vs, ex, ha, ra⟩ := hx
    subst ex
    obtain ⟨z, hz, rz⟩ := atI_rep ra e
    exact ix_list value slice pins s σ H _ _ v u Q I rx ry ⟨a, vs, i, z, rfl, rfl, SqL.of ha, hz, q.here w rz⟩ hs
  · rename_i xs i
    cases (show y = _ from hy)
    obtain ⟨a, vs, ex, ha, ra⟩ := hx
    subst ex
    obtain ⟨z, hz, rz⟩ := atI_rep ra e
    exact ix_tup value slice pins s σ H _ _ v u Q I rx ry ⟨a, vs, i, z, rfl, rfl, Evl.ex_t w.sub ha, hz, q.here w rz⟩ hs
theorem get_list : PGet X (rIxL X.K) := by
  intro pins s σ H o i ov iv Q I ro ri h
  obtain ⟨p, xs, i, z, rfl, rfl, hq, he, q⟩ := h
  cases ro
  obtain ⟨t, rfl⟩ := ri
  obtain ⟨its, r, pl, hz⟩ := I.list hq
  obtain ⟨j, h1, h2, h3, h4, h5⟩ := atI_get he
  obtain ⟨w, ew, rw'⟩ := r.get h2
  have hl := r.length
  have hn := line63
  have fin : EP X pins σ Q w s := ⟨z, H, I, rw', q⟩
  by_cases h0 : 0 ≤ i
  · have hj : i.toNat = j := by
      rw [seqIndex_of h0 h5] at h1
      exact Option.some.inj h1
    exact wpAny_getItem_list pl.isList h0 (by omega) (by rw [hj]; simpa using ew) fin
  · have hj : (i + (its.toArray.size : Int)).toNat = j := by
      rw [seqIndex_neg (by omega) h4] at h1
      rw [List.size_toArray, ← hl]
      exact Option.some.inj h1
    exact wpAny_getItem_list_neg pl.isList (by omega) (by rw [List.size_toArray] <;> omega) (by omega) (by rw [hj]; simpa using ew) fin
/-! ### slices -/
def rS (K : PySem.W.Frag) : V → Option Int → Option Int → Hp → VK → Prop := fun x lo hi H Q => ∃ F α S dx dz, SW K H S F α ∧ ViewS K F H x dx ∧ slD dx lo hi = some dz ∧ Fin1 K F α S dz Q
theorem sl_D : SlR X (rS X.K) := by
  intro pins s σ H x v vl vu lo hi sl Q I rx hs pl pu ⟨F, α, S, dx, dz, w, hx, e, q⟩
  cases dx <;> first | (cases e; done) | skip
  · rename_i xs
    cases e
    obtain ⟨a, vs, ex, ha, ra⟩ := hx
    subst ex
    refine sl_list pins s σ H _ v vl vu lo hi sl Q I rx hs pl pu ⟨a, vs, rfl, ha, fun p hp => ?_⟩
    refine q.list w p _ hp ?_
    unfold cutV cut
    rw [ra.length]
    exact (ra.drop _).take _
  · rename_i xs
    cases e
    obtain ⟨a, vs, ex, ha, ra⟩ := hx
    subst ex
    refine sl_tupA pins s σ H _ v vl vu lo hi sl Q I rx hs pl pu ⟨a, vs, rfl, Evl.ex_t w.sub ha, fun hw => ?_, fun hw p hp => ?_⟩
    · have ec : cut xs lo hi = xs := by
        unfold cut
        rw [← ra.length, hw.1, hw.2, List.drop_zero, ra.length, Nat.sub_zero]
        exact List.take_length
      rw [ec] at q
      exact q.here w (.tup ha ra)
    · refine q.tup w hp ?_
      unfold cutV cut
      rw [ra.length]
      exact (ra.drop _).take _
/-! ### built-in functions -/
def r1 (K : PySem.W.Frag) (f : D → Option D) : List V → Hp → VK → Prop := fun xs H Q => ∃ x F α S dx dz, xs = [x] ∧ SW K H S F α ∧ ViewS K F H x dx ∧ f dx = some dz ∧ Fin1 K F α S dz Q
def r1N (K : PySem.W.Frag) (f : D → Option D) : List V → Hp → VK → Prop := fun xs H Q => ∃ x F α S dx ds, xs = [x] ∧ SW K H S F α ∧ ViewS K F H x dx ∧ f dx = some (.list ds) ∧ FinN K F H ds Q
theorem b1_len : CallR X (.builtin "len") (r1 X.K (b1D .len)) := by
  intro pins s σ H xs us Q I r ⟨x, F, α, S, dx, dz, ex, w, hx, e, q⟩
  subst ex
  cases dx <;> first | (cases e; done) | skip
  · rename_i z
    simp only [b1D] at e
    cases (show x = _ from hx)
    split at e
    · rename_i hz
      cases e
      exact call_len_str pins s σ H _ us Q I r ⟨z, rfl, sz_le hz, q.here w (.int _)⟩
    · cases e
  · cases e
    obtain ⟨a, vs, ex, ha, ra⟩ := hx
    subst ex
    exact call_len_seq pins s σ H _ us Q I r ⟨a, vs, rfl, .inl ha, by rw [ra.length]; exact q.here w (.int _)⟩
  · cases e
    obtain ⟨a, vs, ex, ha, ra⟩ := hx
    subst ex
    exact call_len_seq pins s σ H _ us Q I r ⟨a, vs, rfl, .inr (Evl.ex_t w.sub ha), by rw [ra.length]; exact q.here w (.int _)⟩
theorem b1_int : CallR X (.type "int") (r1 X.K (b1D .int)) := by
  intro pins s σ H xs us Q I r ⟨x, F, α, S, dx, dz, ex, w, hx, e, q⟩
  subst ex
  cases dx <;> first | (cases e; done) | skip
  cases e
  cases (show x = _ from hx)
  exact call_int1 pins s σ H _ us Q I r (.inl ⟨_, rfl, q.here w (.int _)⟩)
theorem b1_abs : CallR X (.builtin "abs") (r1 X.K (b1D .abs)) := by
  intro pins s σ H xs us Q I r ⟨x, F, α, S, dx, dz, ex, w, hx, e, q⟩
  subst ex
  cases dx <;> first | (cases e; done) | skip
  cases e
  cases (show x = _ from hx)
  exact call_abs pins s σ H _ us Q I r ⟨_, rfl, q.here w (.int _)⟩
theorem b1_tuple : CallR X (.type "tuple") (r1 X.K (b1D .tuple)) := by
  intro pins s σ H xs us Q I r ⟨x, F, α, S, dx, dz, ex, w, hx, e, q⟩
  subst ex
  cases dx <;> first | (cases e; done) | skip
  · cases e
    obtain ⟨a, vs, ex, ha, ra⟩ := hx
    subst ex
    exact call_tuple_of pins s σ H _ us Q I r ⟨a, vs, rfl, .inl ⟨ha, fun l hl => q.tup w hl ra⟩⟩
  · cases e
    obtain ⟨a, vs, ex, ha, ra⟩ := hx
    subst ex
    exact call_tuple_of pins s σ H _ us Q I r ⟨a, vs, rfl, .inr ⟨Evl.ex_t w.sub ha, q.here w (.tup ha ra)⟩⟩
theorem b1_listN : CallR X (.type "list") (r1N X.K (b1D .list)) := by
  intro pins s σ H xs us Q I r ⟨x, F, α, S, dx, ds, ex, w, hx, e, q⟩
  subst ex
  cases dx <;> first | (cases e; done) | skip
  · cases e
    obtain ⟨a, vs, ex, ha, ra⟩ := hx
    subst ex
    exact call_list_of pins s σ H _ us Q I r ⟨a, vs, rfl, .inl ha, fun l hl => q l _ hl ra⟩
  · cases e
    obtain ⟨a, vs, ex, ha, ra⟩ := hx
    subst ex
    exact call_list_of pins s σ H _ us Q I r ⟨a, vs, rfl, .inr (Evl.ex_t w.sub ha), fun l hl => q l _ hl ra⟩
theorem b1_list : CallR X (.type "list") (r1 X.K (b1D .list)) := by
  intro pins s σ H xs us Q I r ⟨x, F, α, S, dx, dz, ex, w, hx, e, q⟩
  have hl : ∃ ds, dz = .list ds := by
    cases dx <;> first | (cases e; done) | skip
    all_goals (cases e; exact ⟨_, rfl⟩)
  obtain ⟨ds, rfl⟩ := hl
  exact b1_listN pins s σ H xs us Q I r ⟨x, F, α, S, dx, ds, ex, w, hx, e, q.list w⟩
theorem b1_sum (hc : X.calm = true) : CallR X (.builtin "sum") (r1 X.K (b1D .sum)) := by
  intro pins s σ H xs us Q I r ⟨x, F, α, S, dx, dz, ex, w, hx, e, q⟩
  subst ex
  cases dx <;> first | (cases e; done) | skip
  rename_i ds
  simp only [b1D] at e
  obtain ⟨a, vs, ex, ha, ra⟩ := hx
  subst ex
  cases h : ints? ds with
  | none => rw [h] at e; cases e
  | some is =>
    rw [h] at e
    cases e
    exact cr_sum hc pins s σ H _ us Q I r ⟨a, is, rfl, by rw [← ra.ints h]; exact ha, q.here w (.int _)⟩
theorem b1_any (hc : X.calm = true) : CallR X (.builtin "any") (r1 X.K (b1D .any)) := by
  intro pins s σ H xs us Q I r ⟨x, F, α, S, dx, dz, ex, w, hx, e, q⟩
  subst ex
  cases dx <;> first | (cases e; done) | skip
  rename_i ds
  simp only [b1D] at e
  obtain ⟨a, vs, ex, ha, ra⟩ := hx
  subst ex
  cases h : bools? ds with
  | none => rw [h] at e; cases e
  | some is =>
    rw [h] at e
    cases e
    exact cr_any hc pins s σ H _ us Q I r ⟨a, is, rfl, by rw [← ra.bools h]; exact ha, q.here w (.bl _)⟩
theorem b1_all (hc : X.calm = true) : CallR X (.builtin "all") (r1 X.K (b1D .all)) := by
  intro pins s σ H xs us Q I r ⟨x, F, α, S, dx, dz, ex, w, hx, e, q⟩
  subst ex
  cases dx <;> first | (cases e; done) | skip
  rename_i ds
  simp only [b1D] at e
  obtain ⟨a, vs, ex, ha, ra⟩ := hx
  subst ex
  cases h : bools? ds with
  | none => rw [h] at e; cases e
  | some is =>
    rw [h] at e
    cases e
    exact cr_all hc pins s σ H _ us Q I r ⟨a, is, rfl, by rw [← ra.bools h]; exact ha, q.here w (.bl _)⟩
def r2 (K : PySem.W.Frag) (f : D → D → Option D) : List V → Hp → VK → Prop := fun xs H Q => ∃ x y F α S dx dy dz, xs = [x, y] ∧ SW K H S F α ∧ View K F H x dx ∧ View K F H y dy ∧ f dx dy = some dz ∧ Fin1 K F α S dz Q
theorem b2_max (hc : X.calm = true) : CallR X (.builtin "max") (r2 X.K (b2D .max)) := by
  intro pins s σ H xs us Q I r ⟨x, y, F, α, S, dx, dy, dz, ex, w, hx, hy, e, q⟩
  subst ex
  cases dx <;> cases dy <;> first | (cases e; done) | skip
  cases e
  cases (show x = _ from hx)
  cases (show y = _ from hy)
  exact call_max2 hc pins s σ H _ us Q I r ⟨_, _, rfl, q.here w (.int _)⟩
theorem b2_min (hc : X.calm = true) : CallR X (.builtin "min") (r2 X.K (b2D .min)) := by
  intro pins s σ H xs us Q I r ⟨x, y, F, α, S, dx, dy, dz, ex, w, hx, hy, e, q⟩
  subst ex
  cases dx <;> cases dy <;> first | (cases e; done) | skip
  cases e
  cases (show x = _ from hx)
  cases (show y = _ from hy)
  exact call_min2 hc pins s σ H _ us Q I r ⟨_, _, rfl, q.here w (.int _)⟩
/-! ### isinstance -/
def Ty.py : Ty → String
  | .tuple => "tuple" | .list => "list" | .int => "int" | .bool => "bool" | .str => "str"
def tyD : D → String
  | .none => "NoneType" | .bool _ => "bool" | .int _ => "int" | .str _ => "str" | .list _ => "list" | .tuple _ => "tuple" | .dict _ => "dict"
theorem tyX_of {K : PySem.W.Frag} {F H : Hp} {v : V} (x : Ex F H) : ∀ {d : D}, View K F H v d → TyX K H v (.type (tyD d))
  | .none, h => by cases (show v = _ from h); exact .base .non
  | .bool _, h => by cases (show v = _ from h); exact .base (.bl _)
  | .int _, h => by cases (show v = _ from h); exact .base (.int _)
  | .str _, h => by cases (show v = _ from h); exact .base (.str _)
  | .list _, h => by
    obtain ⟨a, vs, e, ha, _⟩ := h
    subst e
    exact .base (.lst ha)
  | .tuple _, h => by
    obtain ⟨a, vs, e, ha, _⟩ := h
    subst e
    rcases Evl.ex_t x ha with (ha | ⟨o, ha⟩) | ⟨o, its, n, hk, hc, _⟩
    · exact .base (.tup ha)
    · exact .fTuple ha
    · exact .kTuple hk hc
  | .dict _, h => (show False from h).elim
theorem kit_is (d : D) (t : Ty) (b : Bool) (h : isD d t = some b) : kitB (tyD d) t.py = some b := by
  cases d <;> cases t <;> cases h <;> (simp only [tyD, Ty.py]; decide +kernel)
def rI1 (K : PySem.W.Frag) (t : Ty) : List V → Hp → VK → Prop := fun xs H Q => ∃ x F α S dx b, xs = [x, .ty t.py] ∧ SW K H S F α ∧ View K F H x dx ∧ isD dx t = some b ∧ Q (.bl b) H
theorem isi_D (t : Ty) : CallR X (.builtin "isinstance") (rI1 X.K t) := by
  intro pins s σ H xs us Q I r ⟨x, F, α, S, dx, b, ex, w, hx, e, q⟩
  subst ex
  exact call_isi pins s σ H _ us Q I r ⟨x, _, _, _, b, rfl, .ty _, tyX_of w.sub hx, kit_ty (kit_is dx t b e), q⟩
end
end PC
end
section
/-! PcRev: t[::-1] of a tuple or a list. -/
namespace HT
open PySem PySem.Spec PyProof.Rows L2
section
variable {prog : Program} {w : World} {A : Around} {E : Value → Shared → Prop} {s : Shared}
theorem places_rev (n : Nat) : Builtin.Slice.slicePlaces ((n : Int) - 1) (-1) (-1) = n := by
  unfold Builtin.Slice.slicePlaces
  rw [if_neg (show ¬ ((-1 : Int) > 0) by decide)]
  rw [show (- -1 : Int) = 1 by decide, Int.ediv_one]
  split <;> omega
theorem sliceApplied_rev {sl : Addr} {vc : Value} {n : Nat} {Q : Int × Int × Nat → Shared → Prop} (hs : s.heap.IsSliceOf sl .none .none vc) (pc : IsPart vc (some (-1)))
    (h : Q ((n : Int) - 1, -1, n) s) : wpAny (model prog w) A (Builtin.Slice.sliceApplied (.ref sl) (pure (n : Int))) Q E s := by
  obtain ⟨os, hos, hcs, hds⟩ := id hs
  unfold Builtin.Slice.sliceApplied Builtin.Slice.sliceFields
  refine wpAny_bind (wpAny_bind (wpAny_field hos hds (x := .none) rfl (wpAny_bind (wpAny_field hos hds (x := .none) rfl (wpAny_bind (wpAny_field hos hds (x := vc) rfl (wpAny_pure ?_)))))))
  refine wpAny_bind (slicePart_ pc ?_)
  show wpAny _ _ (if ((-1 : Int) == 0) = true then _ else _) _ _ s
  rw [if_neg (by decide)]
  refine wpAny_bind (slicePart_none (wpAny_bind (slicePart_none (wpAny_bind (wpAny_pure ?_)))))
  show wpAny _ _ (pure ((n : Int) - 1, (-1 : Int), Builtin.Slice.slicePlaces ((n : Int) - 1) (-1) (-1))) _ _ s
  rw [places_rev]
  exact wpAny_pure h
theorem fm_congr {α β : Type} {f g : α → Option β} : ∀ {l : List α}, (∀ x ∈ l, f x = g x) → l.filterMap f = l.filterMap g
  | [], _ => rfl
  | a :: l, h => by
    rw [List.filterMap_cons, List.filterMap_cons, h a List.mem_cons_self, fm_congr fun x hx => h x (List.mem_cons_of_mem _ hx)]
theorem pick_rev (xs : Array Value) : ((List.range xs.size).filterMap fun (k : Nat) => xs[((xs.size : Int) - 1 + (k : Int) * -1).toNat]?).toArray = xs.toList.reverse.toArray := by
  have e : (List.range xs.size).filterMap (fun (k : Nat) => xs[((xs.size : Int) - 1 + (k : Int) * -1).toNat]?) = ((List.range xs.size).map fun k => xs.size - 1 - k).filterMap (xs[·]?) := by
    rw [List.filterMap_map]
    refine fm_congr fun k hk => ?_
    have := List.mem_range.mp hk
    have e2 : ((xs.size : Int) - 1 + (k : Int) * -1).toNat = xs.size - 1 - k := by omega
    rw [e2] <;> rfl
  rw [e, PySem.W.krv_range, List.filterMap_reverse, PySem.W.krv_all]
theorem getItem_tuple_rev {t sl : Addr} {items : Array Value} {vc : Value} {Q : Value → Shared → Prop} (ht : IsTup s.heap t items) (hs : s.heap.IsSliceOf sl .none .none vc) (pc : IsPart vc (some (-1)))
    (h : Q (.ref s.heap.objs.size) { s with heap := s.heap.push { cls := .type "tuple", data := .seq items.toList.reverse.toArray } })
    (hsz : items.size ≤ sizeLine) : wpAny (model prog w) A (getItem (.ref t) (.ref sl)) Q E s := by
  have htake : sizeOk (.seq items.toList.reverse.toArray) := by
    show items.toList.reverse.toArray.size ≤ sizeLine
    rw [List.size_toArray, List.length_reverse, Array.length_toList]
    omega
  obtain ⟨os, hos, hcs, hds⟩ := id hs
  have hTs : s.TypeIs (.ref sl) "slice" := ⟨os, hos, hcs⟩
  unfold getItem
  try with_reducible refine wpAny_holding ?_
  first | refine wpAny_bind (wpAny_pure ?_) | skip
  refine wpAny_bind (wpAny_sequenceKey ht.typeIs (by decide) ?_)
  refine wpAny_bind (wpAny_callSpecial?_slot (name := Str.ofString "__getitem__") ht.typeIs PyProof.Rows.slot_tuple_getitem
    (wpAny_call_entry PyProof.Rows.slot_tuple_getitem ht.typeIs entry_tuple_getitem ?_ (args_tuple_getitem _ _)))
  show wpAny _ _ (Builtin.Tuple.tupleItemsOf (.ref t) >>= _) _ _ s
  refine wpAny_bind (tupleItemsOf_ ht ?_)
  refine wpAny_bind (wpAny_typeOf hTs ?_)
  rw [if_pos (by decide)]
  refine wpAny_bind (sliceApplied_rev hs pc ?_)
  have hno : ¬ ((((items.size : Int) - 1) == 0 && (-1 : Int) == 1 && items.size == items.size) = true) := by
    intro q
    rw [Bool.and_eq_true, Bool.and_eq_true] at q
    exact absurd q.1.2 (by decide)
  show wpAny _ _ (if (((items.size : Int) - 1) == 0 && (-1 : Int) == 1 && items.size == items.size) = true then _ else _) _ _ s
  rw [if_neg hno, pick_rev]
  first
    | exact wpAny_bind (m := Builtin.Tuple.tupleExact _) (wpAny_newObj_type (wpAny_pure ⟨_, rfl, wpAny_pure h⟩) htake)
    | exact wpAny_bind (m := Builtin.Tuple.tupleExact _) (wpAny_newObj_type (wpAny_bind (wpAny_pure (wpAny_pure ⟨_, rfl, wpAny_pure h⟩))) htake)
    | exact wpAny_bind (wpAny_bind (m := Builtin.Tuple.tupleExact _) (wpAny_newObj_type (wpAny_pure (wpAny_pure ⟨_, rfl, wpAny_pure h⟩)) htake))
    | exact wpAny_bind (wpAny_bind (m := Builtin.Tuple.tupleExact _) (wpAny_newObj_type (wpAny_pure ⟨_, rfl, wpAny_pure h⟩) htake))
end
end HT
namespace PC
open PySem PySem.Spec PyProof.Rows L2
section
variable {X : Cx}
def tRev (K : PySem.W.Frag) (te : TE) : TE := fun σ H Q => te σ H fun x H1 => ∃ F α S dx dz, SW K H1 S F α ∧ ViewS K F H1 x dx ∧ revD dx = some dz ∧ Fin1 K F α S dz Q
theorem pe_rev {e : Expr} {te : TE} {k : Nat} {p1 p2 p3 pos : Pos} (he : PE X e te) : PE X (.Subscript e (.Slice none none (some (.UnaryOp .USub (.Constant (.int 1) k p1) p2)) p3) pos) (tRev X.K te) := by
  refine ⟨fun pins s σ H Q I h => ?_⟩
  refine Subscript_ (thn (he.run pins s σ H _ I h) fun v s1 ⟨x, H1, I1, r1, q1⟩ => ?_)
  obtain ⟨F, α, S, dx, dz, w, hx, e1, q⟩ := q1
  have hst : PO X (some (.UnaryOp .USub (.Constant (.int 1) k p1) p2)) (tPart (tUn (rU fun i => .int (-i)) (tC (.int 1)))) := po_some (pe_un un_neg pe_int)
  refine wpAny_Slice (thn (po_none.run pins s1 σ H1 (fun o H2 => o = none ∧ H2 = H1) I1 ⟨rfl, rfl⟩) fun vl s2 ⟨l, H2, I2, pl, el, e2⟩ => ?_)
  subst el e2
  refine thn (po_none.run pins s2 σ H2 (fun o H3 => o = none ∧ H3 = H2) I2 ⟨rfl, rfl⟩) fun vu s3 ⟨u, H3, I3, pu, eu, e3⟩ => ?_
  subst eu e3
  refine thn (hst.run pins s3 σ H3 (fun o H4 => o = some (-1) ∧ H4 = H3) I3 ⟨1, rfl, -1, rfl, rfl, rfl⟩) fun vs s4 ⟨o, H4, I4, ps, eo, e4⟩ => ?_
  subst eo e4
  have I5 : Inv X pins σ H4 { s4 with heap := s4.heap.push { cls := .type "slice", data := .fields #[vl, vu, vs] } } := I4.kept (t' := s4.toks) fun b ob q => Heap.get?_push_of_some _ q
  cases dx <;> first | (cases e1; done) | skip
  · cases e1
    obtain ⟨a, xs, ex, ha, ra⟩ := hx
    subst ex
    cases r1
    obtain ⟨its, r, ht, hz⟩ := I5.list ha
    have hlen := r.length
    show wpAny (model X.prog X.w) X.A (subscriptTail e (.Slice none none (some (.UnaryOp .USub (.Constant (.int 1) k p1) p2)) p3) (.ref a) (.ref s4.heap.objs.size)) (EP X pins σ Q) X.xe { s4 with heap := s4.heap.push { cls := .type "slice", data := .fields #[vl, vu, vs] } }
    refine tail_any (ops := [.ref a, .ref s4.heap.objs.size]) ht.isList.typeIs (PySem.slot_list_getitem.lookup) ?_ (by with_unfolding_all rfl)
    refine wpAny_getItem_list_slice ht.isList (Heap.IsSliceOf.new _ vl vu vs) pl pu ps (by decide) ?_ (by rw [List.size_toArray]; omega)
    rw [PySem.W.krv_pick]
    refine ⟨.ref _, _, I5.laid (t' := s4.toks) (o := .lst xs.reverse) (fun b ob q => Heap.get?_push_of_some _ q) (Nat.le_refl _) ?_, rfl, q.list w _ _ (I5.hok.fresh (Nat.le_refl _)) ra.reverse⟩
    exact ⟨by rw [List.length_reverse]; exact hz, _, 0, r.reverse, Heap.get?_push_size _ rfl⟩
  · cases e1
    obtain ⟨a, xs, ex, ha, ra⟩ := hx
    subst ex
    cases r1
    obtain ⟨its, r, ht, hz⟩ := I5.tuple (Evl.ex_t w.sub ha)
    have hlen := r.length
    cases pl
    cases pu
    show wpAny (model X.prog X.w) X.A (subscriptTail e (.Slice none none (some (.UnaryOp .USub (.Constant (.int 1) k p1) p2)) p3) (.ref a) (.ref s4.heap.objs.size)) (EP X pins σ Q) X.xe { s4 with heap := s4.heap.push { cls := .type "slice", data := .fields #[.none, .none, vs] } }
    refine tail_any (ops := [.ref a, .ref s4.heap.objs.size]) ht.typeIs (PyProof.Rows.slot_tuple_getitem.lookup) ?_ (by with_unfolding_all rfl)
    refine HT.getItem_tuple_rev ht (Heap.IsSliceOf.new _ .none .none vs) ps ?_ (by rw [List.size_toArray]; omega)
    refine ⟨.ref _, _, I5.laid (t' := s4.toks) (o := .tup xs.reverse) (fun b ob q => Heap.get?_push_of_some _ q) (Nat.le_refl _) ?_, rfl, q.tup w (I5.hok.fresh (Nat.le_refl _)) ra.reverse⟩
    exact ⟨by rw [List.length_reverse]; exact hz, _, r.reverse, IsTup.new _ _⟩
end
end PC
end
section
/-! PcChk: a text of the small language is the given Python text. -/
namespace PC
open PySem PySem.Spec PyProof.Rows L2

structure Ctx where
  N : List Str
  sc : Scope
  fn : Str → Bool
/-- the defs, the constants -/
structure Tab where
  defs : List Def
  globs : List (Str × D)

def visB (c : Ctx) (x : Str) : Bool := match c.sc.names.lookup x with
  | some .local => true
  | some .cell => true
  | some .free => true
  | _ => false
def locB (c : Ctx) (x : Str) : Bool := match c.sc.names.lookup x with
  | some .local => true
  | some .cell => c.fn x
  | _ => false
def glB (c : Ctx) (x : Str) : Bool := match c.sc.names.lookup x with
  | some .globalImplicit => true
  | _ => false
def okN (x : Str) : Bool := !(x == ("__debug__" : Str)) && !(x == ("__classdict__" : Str))
def nmB (c : Ctx) (i : Nat) (x : Str) : Bool := decide (c.N[i]? = some x) && (visB c x && okN x)
mutual
def sameD : D → D → Bool
  | .none, .none => true
  | .bool a, .bool b => a == b
  | .int a, .int b => decide (a = b)
  | .str a, .str b => decide (a = b)
  | .tuple a, .tuple b => sameDs a b
  | _, _ => false
def sameDs : List D → List D → Bool
  | [], [] => true
  | a :: as, b :: bs => sameD a b && sameDs as bs
  | _, _ => false
end
def bopB (o : Bop) : Operator → Bool
  | .Add => decide (o = .add)
  | .Sub => decide (o = .sub)
  | .Mult => decide (o = .mul)
  | .FloorDiv => decide (o = .div)
  | .Mod => decide (o = .mod)
  | .Pow => decide (o = .pow)
  | _ => false
def copB (o : Cop) : CmpOp → Bool
  | .Eq => decide (o = .eq)
  | .NotEq => decide (o = .ne)
  | .Lt => decide (o = .lt)
  | .LtE => decide (o = .le)
  | .Gt => decide (o = .gt)
  | .GtE => decide (o = .ge)
  | .In => decide (o = .inn)
  | .NotIn => decide (o = .nin)
  | .Is => decide (o = .isn)
  | .IsNot => decide (o = .isnn)
def B1.nm : B1 → Str
  | .len => "len" | .int => "int" | .abs => "abs" | .tuple => "tuple" | .list => "list" | .sum => "sum" | .any => "any" | .all => "all"
def B2.nm : B2 → Str
  | .max => "max" | .min => "min"
def Ty.nm : Ty → Str
  | .tuple => "tuple" | .list => "list" | .int => "int" | .bool => "bool" | .str => "str"
/-- a test's form: no conditional expression -/
def tstOk : E → Bool
  | .ite _ _ _ => false
  | .not a => tstOk a
  | .and a b => tstOk a && tstOk b
  | .or a b => tstOk a && tstOk b
  | _ => true
def ownOf (N : List Str) (vs : List Nat) : List (Str × Nat) := vs.filterMap fun i => (N[i]?).map fun x => (x, i)
def blkCtx (c : Ctx) (scope : Scope) : Ctx := ⟨c.N, L2.relS scope c.sc, fun x => scope.names.lookup x == some .cell⟩
def isTupE : Expr → Bool
  | .Tuple _ _ _ => true
  | _ => false
mutual
def chkG : G → Ctx → Expr → Bool
  | .name i, c, t => match t with
    | .Name x _ => decide (c.N[i]? = some x) && locB c x
    | _ => false
  | .tup gs, c, t => match t with
    | .Tuple ts _ _ => chkGs gs c ts
    | _ => false
def chkGs : Gs → Ctx → List Expr → Bool
  | .nil, _, ts => ts.isEmpty
  | .cons g gs, c, ts => match ts with
    | t :: r => chkG g c t && chkGs gs c r
    | [] => false
end
mutual
def chkE (T : Tab) : E → Ctx → Expr → Bool
  | .var i, c, t => match t with
    | .Name x _ => nmB c i x
    | _ => false
  | .glob y v, c, t => match t with
    | .Name x _ => decide (x = y) && (glB c x && (okN x && T.globs.any fun p => decide (p.1 = y) && sameD p.2 v))
    | _ => false
  | .int i, _, t => match t with
    | .Constant (.int j) _ _ => decide (i = j)
    | _ => false
  | .bl b, _, t => match t with
    | .Constant (.bool j) _ _ => b == j
    | _ => false
  | .non, _, t => match t with
    | .Constant .none _ _ => true
    | _ => false
  | .str x, _, t => match t with
    | .Constant (.str j) _ _ => decide (x = j)
    | _ => false
  | .bin o a b, c, t => match t with
    | .BinOp l p r _ => bopB o p && (chkE T a c l && chkE T b c r)
    | _ => false
  | .neg a, c, t => match t with
    | .UnaryOp .USub l _ => chkE T a c l
    | _ => false
  | .not a, c, t => match t with
    | .UnaryOp .Not l _ => chkE T a c l
    | _ => false
  | .and a b, c, t => match t with
    | .BoolOp .And (x :: y :: r) pos => chkE T a c x && chkE T b c (match r with
      | [] => y
      | _ => .BoolOp .And (y :: r) pos)
    | _ => false
  | .or a b, c, t => match t with
    | .BoolOp .Or (x :: y :: r) pos => chkE T a c x && chkE T b c (match r with
      | [] => y
      | _ => .BoolOp .Or (y :: r) pos)
    | _ => false
  | .cmp o a b, c, t => match t with
    | .Compare l [p] [r] _ => copB o p && (chkE T a c l && chkE T b c r)
    | _ => false
  | .chain o p a b d, c, t => match t with
    | .Compare l [q, q'] [r, r'] _ => copB o q && (copB p q' && (chkE T a c l && (chkE T b c r && chkE T d c r')))
    | _ => false
  | .ite d a b, c, t => match t with
    | .IfExp x y z _ => tstOk d && (chkE T d c x && (chkE T a c y && chkE T b c z))
    | _ => false
  | .ix a b, c, t => match t with
    | .Subscript x y _ => chkE T a c x && chkE T b c y
    | _ => false
  | .slo a b, c, t => match t with
    | .Subscript x (.Slice (some y) none none _) _ => chkE T a c x && chkE T b c y
    | _ => false
  | .shi a b, c, t => match t with
    | .Subscript x (.Slice none (some y) none _) _ => chkE T a c x && chkE T b c y
    | _ => false
  | .rev a, c, t => match t with
    | .Subscript x (.Slice none none (some (.UnaryOp .USub (.Constant (.int k) _ _) _)) _) _ => decide (k = 1) && chkE T a c x
    | _ => false
  | .tup es, c, t => match t with
    | .Tuple ts _ _ => chkEs T es c ts
    | _ => false
  | .lst es, c, t => match t with
    | .List ts _ => chkEs T es c ts
    | _ => false
  | .comp g vs it hc d e, c, t => match t with
    | .ListComp elt [⟨tg, iter, ifs, asy⟩] scope _ =>
      decide (asy = 0) && (decide ((ownOf c.N vs).map (·.2) = vs) && (L2.blkC c.N c.sc scope (ownOf c.N vs) && (chkIt T it c tg iter && (chkG g (blkCtx c scope) tg && ((G.slots g).all (fun i => vs.contains i) &&
        ((match hc, ifs with
          | true, [f] => tstOk d && chkE T d (blkCtx c scope) f
          | false, [] => true
          | _, _ => false) && chkE T e (blkCtx c scope) elt))))))
    | _ => false
  | .b1 f a, c, t => match t with
    | .Call (.Name x _) [y] [] _ => decide (x = f.nm) && (glB c x && chkE T a c y)
    | _ => false
  | .b2 f a b, c, t => match t with
    | .Call (.Name x _) [y, z] [] _ => decide (x = f.nm) && (glB c x && (chkE T a c y && chkE T b c z))
    | _ => false
  | .isi a ty, c, t => match t with
    | .Call (.Name x _) [y, .Name z _] [] _ => decide (x = ("isinstance" : Str)) && (glB c x && (decide (z = ty.nm) && (glB c z && chkE T a c y)))
    | _ => false
  | .call f es, c, t => match t with
    | .Call (.Name x _) (y :: ys) [] _ => glB c x && (okN x && ((match T.defs[f]? with
        | some d => decide (d.name = x)
        | none => false) && chkEs T es c (y :: ys)))
    | _ => false
def chkEs (T : Tab) : Es → Ctx → List Expr → Bool
  | .nil, _, ts => ts.isEmpty
  | .cons e es, c, ts => match ts with
    | t :: r => chkE T e c t && chkEs T es c r
    | [] => false
def chkIt (T : Tab) : It → Ctx → Expr → Expr → Bool
  | .rng1 a, c, _, t => match t with
    | .Call (.Name x _) [y] [] _ => decide (x = ("range" : Str)) && (glB c x && chkE T a c y)
    | _ => false
  | .rng2 a b, c, _, t => match t with
    | .Call (.Name x _) [y, z] [] _ => decide (x = ("range" : Str)) && (glB c x && (chkE T a c y && chkE T b c z))
    | _ => false
  | .rng3 a b d, c, _, t => match t with
    | .Call (.Name x _) [y, z, u] [] _ => decide (x = ("range" : Str)) && (glB c x && (chkE T a c y && (chkE T b c z && chkE T d c u)))
    | _ => false
  | .seq a, c, _, t => chkE T a c t
  | .zip a b, c, tg, t => match t with
    | .Call (.Name x _) [y, z] [] _ => decide (x = ("zip" : Str)) && (isTupE tg && (glB c x && (chkE T a c y && chkE T b c z)))
    | _ => false
end
mutual
theorem sameD_eq : ∀ {a b : D}, sameD a b = true → a = b
  | .none, b, h => by cases b <;> first | rfl | cases h
  | .bool x, b, h => by
    cases b <;> first | (cases h; done) | skip
    rw [eq_of_beq (show (x == _) = true from h)]
  | .int x, b, h => by
    cases b <;> first | (cases h; done) | skip
    rw [of_decide_eq_true (show decide (x = _) = true from h)]
  | .str x, b, h => by
    cases b <;> first | (cases h; done) | skip
    rw [of_decide_eq_true (show decide (x = _) = true from h)]
  | .tuple xs, b, h => by
    cases b <;> first | (cases h; done) | skip
    rw [sameDs_eq (show sameDs xs _ = true from h)]
  | .list _, b, h => by cases b <;> cases h
  | .dict _, b, h => by cases b <;> cases h
theorem sameDs_eq : ∀ {a b : List D}, sameDs a b = true → a = b
  | [], b, h => by cases b <;> first | rfl | cases h
  | x :: xs, b, h => by
    cases b with
    | nil => cases h
    | cons y ys =>
      have h' : (sameD x y && sameDs xs ys) = true := h
      rw [Bool.and_eq_true] at h'
      rw [sameD_eq h'.1, sameDs_eq h'.2]
end
theorem bopB_eq {o : Bop} {p : Operator} (h : bopB o p = true) : p = o.py := by
  cases p <;> first | (cases h; done) | skip
  all_goals (have h' := of_decide_eq_true h; subst h'; rfl)
theorem copB_eq {o : Cop} {p : CmpOp} (h : copB o p = true) : p = o.py := by
  cases p
  all_goals (have h' := of_decide_eq_true h; subst h'; rfl)
/-- what no text of ours is -/
def plainE : Expr → Bool
  | .Starred _ _ => false
  | .Set _ _ _ => false
  | .Slice _ _ _ _ => false
  | .SetComp _ _ _ _ => false
  | .DictComp _ _ _ _ _ => false
  | .GeneratorExp _ _ _ _ => false
  | .NamedExpr _ _ _ => false
  | .Lambda _ _ _ _ => false
  | _ => true
theorem chk_plain {T : Tab} {e : E} {c : Ctx} {t : Expr} (h : chkE T e c t = true) : plainE t = true := by
  cases t <;> first | rfl | (cases e <;> cases h)
theorem star_of {t : Expr} (h : plainE t = true) (es : List Expr) (env : PySem.Env) : starEach (t :: es) env = (false, eval t env) :: starEach es env := by
  cases t <;> first | rfl | cases h
theorem mark_of {t : Expr} (h : plainE t = true) (op : CmpOp) : behindInMarks op t = false := by
  cases t <;> first | rfl | cases h
theorem fold_of {t : Expr} (h : plainE t = true) (env : PySem.Env) (x : Value) : foldedSetIterable t env x = pure x := by
  cases t <;> first | rfl | cases h
theorem sub_of {t : Expr} (h : plainE t = true) : PlainIx t := by
  intro o i
  cases t <;> first | rfl | cases h
theorem star_any {T : Tab} {c : Ctx} (env : PySem.Env) (pos : Pos) : ∀ {es : Es} {ts : List Expr}, chkEs T es c ts = true → (backTo pos (starEach ts env)).any (·.1) = false
  | .nil, ts, h => by
    cases ts with
    | nil => rfl
    | cons _ _ => cases h
  | .cons e es, ts, h => by
    cases ts with
    | nil => cases h
    | cons t r =>
      have h' : (chkE T e c t && chkEs T es c r) = true := h
      rw [Bool.and_eq_true] at h'
      rw [star_of (chk_plain h'.1)]
      have := star_any env pos h'.2
      show (false || (backTo pos (starEach r env)).any (·.1)) = false
      rw [this] <;> rfl
end PC
end
section
/-! PcSndE: what a text of the small language computes is what the Python expression does. -/
namespace PC
open PySem PySem.Spec PyProof.Rows L2

def Post (K : PySem.W.Frag) (F : Hp) (α : List Addr) (S : Store) (r : R) (Q : VK) : Prop := ∀ v H' F' α', Ext F α F' α' → SW K H' S F' α' → RepR K F' α' v r → Q v H'
def tE (K : PySem.W.Frag) (C : Call) (e : E) : TE := fun σ H Q => ∃ ρ S F α r S', EnvOk K F α σ ρ ∧ SW K H S F α ∧ evE C e ρ S = some (r, S') ∧ Post K F α S' r Q
def tT (K : PySem.W.Frag) (C : Call) (e : E) : TT := fun σ H Q => ∃ ρ S F α b S', EnvOk K F α σ ρ ∧ SW K H S F α ∧ evE C e ρ S = some (.d (.bool b), S') ∧ ∀ H' F' α', Ext F α F' α' → SW K H' S' F' α' → Q b H'
def tEs (K : PySem.W.Frag) (C : Call) (es : Es) : TA := fun σ H Q => ∃ ρ S F α rs S', EnvOk K F α σ ρ ∧ SW K H S F α ∧ evEs C es ρ S = some (rs, S') ∧ ∀ vs H' F' α', Ext F α F' α' → SW K H' S' F' α' → RepRs K F' α' vs rs → Q vs H'
/-- a new list, not yet frozen -/
def PostN (K : PySem.W.Frag) (F : Hp) (α : List Addr) (S : Store) (ds : List D) (Q : VK) : Prop := ∀ p H' F' α' vs, Ext F α F' α' → SW K H' S F' α' → F' p = none → p ∉ α' → H' p = some (.lst vs) → Reps K F' vs ds → Q (.ref p) H'
def tN (K : PySem.W.Frag) (C : Call) (e : E) : TE := fun σ H Q => ∃ ρ S F α ds S', EnvOk K F α σ ρ ∧ SW K H S F α ∧ evE C e ρ S = some (.d (.list ds), S') ∧ PostN K F α S' ds Q
/-- an iterator of the layer goes as our items do -/
structure ItOk (K : PySem.W.Frag) (F : Hp) (α : List Addr) (J : Items) (Jt : L2.It) : Prop where
  go : ∀ i H S F' α' x, Ext F α F' α' → SW K H S F' α' → i < J.n → J.get i S = some x → Jt.go i H ∧ ∀ v H', Jt.yld i H v H' → ∃ F'', Ext F' α' F'' α' ∧ SW K H' S F'' α' ∧ Rep K F'' v x
  fin : ∀ H S F' α', Ext F α F' α' → SW K H S F' α' → J.fin S = true → Jt.stop J.n H
def tIt (K : PySem.W.Frag) (C : Call) (it : It) : TI := fun σ H R => ∃ ρ S F α J S', EnvOk K F α σ ρ ∧ SW K H S F α ∧ evIt C it ρ S = some (J, S') ∧ ∀ H' F' α' Jt, Ext F α F' α' → SW K H' S' F' α' → ItOk K F' α' J Jt → R Jt H'
/-- slots outside are as they were -/
def Off (vs : List Nat) (σ σ' : L2.St) : Prop := L2.wipe σ' vs = L2.wipe σ vs
def tG (K : PySem.W.Frag) (g : G) : TG := fun v σ H Q => ∃ F α S ρ r ρ', EnvOk K F α σ ρ ∧ SW K H S F α ∧ RepR K F α v r ∧ asgG g r ρ = some ρ' ∧ ∀ σ', EnvOk K F α σ' ρ' → (∀ vs, (∀ i ∈ G.slots g, i ∈ vs) → Off vs σ σ') → Q σ' H
def tGs (K : PySem.W.Frag) (g : Gs) : TGs := fun us σ H Q => ∃ F α S ρ rs ρ', EnvOk K F α σ ρ ∧ SW K H S F α ∧ Reps K F us rs ∧ asgGs g rs ρ = some ρ' ∧ ∀ σ', EnvOk K F α σ' ρ' → (∀ vs, (∀ i ∈ Gs.slots g, i ∈ vs) → Off vs σ σ') → Q σ' H

/-! ### functions -/
def spF (K : PySem.W.Frag) (T : Tab) (W k f : Nat) : Sp := fun vs H Q _ => ∃ rs S F α r S', RepRs K F α vs rs ∧ SW K H S F α ∧ callD T.defs W k f rs S = some (r, S') ∧ ∀ v H' F', Ex F F' → SW K H' S' F' α → RepR K F' α v r → Q v H'
/-- .. a new list comes -/
def spN (K : PySem.W.Frag) (T : Tab) (W k f : Nat) : Sp := fun vs H Q _ => ∃ rs S F α ds S', RepRs K F α vs rs ∧ SW K H S F α ∧ callD T.defs W k f rs S = some (.d (.list ds), S') ∧ ∀ p H' F' ws, Ex F F' → SW K H' S' F' α → F' p = none → p ∉ α → H' p = some (.lst ws) → Reps K F' ws ds → Q (.ref p) H'
def bnames : List Str := ["len", "int", "abs", "tuple", "list", "sum", "any", "all", "max", "min", "isinstance", "range", "zip", "bool", "str"]
structure XOk (T : Tab) (W k : Nat) (c : Ctx) (X : Cx) : Prop where
  sc : X.env.scope = c.sc
  N : X.N = c.N
  nd : c.N.Nodup
  fn : X.fn = c.fn
  calm : X.calm = true
  room : Room k X.A
  blt : ∀ x ∈ bnames, X.mg x = none
  glob : ∀ x v, (x, v) ∈ T.globs → ∃ u w, X.mg x = some u ∧ RelV w u ∧ ∀ F, Rep X.K F w v
  funs : ∀ f d, T.defs[f]? = some d → ∃ fa fd ps, FnOk X.prog X.w X.K X.mg X.base CX0 k fa fd ps (spF X.K T W k f) ∧ X.mg d.name = some (.ref fa) ∧ PySem.W.keepIn X.K (.ref fa) = true ∧ Binds X.K fd ps []
  news : ∀ f d, T.defs[f]? = some d → d.fin.isSome = true → ∃ fa fd ps, FnOk X.prog X.w X.K X.mg X.base CX0 k fa fd ps (spN X.K T W k f) ∧ X.mg d.name = some (.ref fa) ∧ PySem.W.keepIn X.K (.ref fa) = true ∧ Binds X.K fd ps []
section
variable {T : Tab} {W k : Nat} {c : Ctx} {X : Cx}
theorem XOk.hu (ok : XOk T W k c X) : X.A.units + 65 < cLine := by have := ok.room.un; omega
theorem XOk.vis (ok : XOk T W k c X) {x : Str} (h : visB c x = true) : Vis X.env.scope x := by
  unfold visB at h
  unfold Vis
  rw [ok.sc]
  split at h
  · rename_i e; exact .inl e
  · rename_i e; exact .inr (.inl e)
  · rename_i e; exact .inr (.inr e)
  · cases h
theorem XOk.loc (ok : XOk T W k c X) {x : Str} (h : locB c x = true) : L2.Loc X.env.scope x ∧ (X.fn x = true ∨ X.env.scope.names.lookup x = some .local) := by
  unfold locB at h
  unfold L2.Loc
  rw [ok.sc, ok.fn]
  split at h
  · rename_i e; exact ⟨.inl e, .inr e⟩
  · rename_i e; exact ⟨.inr e, .inl h⟩
  · cases h
theorem XOk.gl (ok : XOk T W k c X) {x : Str} (h : glB c x = true) : Gl X x := by
  unfold glB at h
  show X.env.scope.names.lookup x = _
  rw [ok.sc]
  split at h
  · rename_i e; exact e
  · cases h
theorem okN_of {x : Str} (h : okN x = true) : (x == ("__debug__" : Str)) = false ∧ (x == ("__classdict__" : Str)) = false := by
  unfold okN at h
  rw [Bool.and_eq_true] at h
  exact ⟨by simpa using h.1, by simpa using h.2⟩
theorem own_ix {N : List Str} : ∀ {vs : List Nat} {p : Str × Nat}, p ∈ ownOf N vs → N[p.2]? = some p.1 := by
  intro vs p hp
  unfold ownOf at hp
  rw [List.mem_filterMap] at hp
  obtain ⟨i, _, e⟩ := hp
  cases h : N[i]? with
  | none => rw [h] at e; cases e
  | some x => rw [h] at e; cases e; exact h
theorem XOk.blk (ok : XOk T W k c X) (s : Shared) (H : Hp) (scope : Scope) (C : Addr) (cl : List (Str × Addr)) (fp : List Addr) : XOk T W k (blkCtx c scope) (X.blk s H scope (compEnvC scope cl C X.env) fp) :=
  ⟨by
    show (compEnvC scope cl C X.env).scope = _
    unfold blkCtx
    rw [← ok.sc]
    rfl, ok.N, ok.nd, rfl, ok.calm, ok.room, ok.blt, ok.glob, ok.funs, ok.news⟩
/-! ### weakening -/
theorem PE.imp {e : Expr} {t t' : TE} (h : PE X e t) (w : ∀ σ H Q, t' σ H Q → t σ H Q) : PE X e t' := ⟨fun pins s σ H Q I q => h.run pins s σ H Q I (w σ H Q q)⟩
theorem PT.imp {e : Expr} {t t' : TT} (h : PT X e t) (w : ∀ σ H Q, t' σ H Q → t σ H Q) : PT X e t' := ⟨fun pins s σ H Q I q => h.run pins s σ H Q I (w σ H Q q)⟩
theorem PW.imp {e : Expr} {t t' : TT} (h : PW X e t) (w : ∀ σ H Q, t' σ H Q → t σ H Q) : PW X e t' := ⟨fun wh pins s σ H Q I q => h.run wh pins s σ H Q I (w σ H Q q)⟩
theorem PA.imp {e : List Expr} {t t' : TA} (h : PA X e t) (w : ∀ σ H Q, t' σ H Q → t σ H Q) : PA X e t' := ⟨fun pos pins s σ H Q I q => h.run pos pins s σ H Q I (w σ H Q q)⟩
theorem PI.imp {tg e : Expr} {t t' : TI} (h : PI X tg e t) (w : ∀ σ H Q, t' σ H Q → t σ H Q) : PI X tg e t' := ⟨fun pins s σ H Q I q => h.run pins s σ H Q I (w σ H Q q)⟩
theorem PI.or {tg e : Expr} {t t' u : TI} (h : PI X tg e t) (h' : PI X tg e t') (w : ∀ σ H Q, u σ H Q → t σ H Q ∨ t' σ H Q) : PI X tg e u := ⟨fun pins s σ H Q I q => (w σ H Q q).elim (h.run pins s σ H Q I) (h'.run pins s σ H Q I)⟩
theorem PG.imp {tg : Expr} {t t' : TG} (h : PG X tg t) (w : ∀ v σ H Q, t' v σ H Q → t v σ H Q) : PG X tg t' := ⟨fun pins s σ H v u Q I r q => h.run pins s σ H v u Q I r (w v σ H Q q)⟩
theorem PG.or {tg : Expr} {t t' u : TG} (h : PG X tg t) (h' : PG X tg t') (w : ∀ v σ H Q, u v σ H Q → t v σ H Q ∨ t' v σ H Q) : PG X tg u := ⟨fun pins s σ H v u Q I r q => (w v σ H Q q).elim (h.run pins s σ H v u Q I r) (h'.run pins s σ H v u Q I r)⟩
theorem PGs.imp {tg : List Expr} {t t' : TGs} (h : PGs X tg t) (w : ∀ v σ H Q, t' v σ H Q → t v σ H Q) : PGs X tg t' := ⟨fun pins s σ H v u Q I r q => h.run pins s σ H v u Q I r (w v σ H Q q)⟩
end

/-! ### targets -/
theorem wipe_get {σ : L2.St} {i : Nat} : ∀ {vs : List Nat}, (L2.wipe σ vs)[i]? = if i ∈ vs ∧ i < σ.length then some none else σ[i]?
  | [] => by simp [L2.wipe]
  | v :: vs => by
    show ((L2.wipe σ vs).set v none)[i]? = _
    by_cases hv : v = i
    · subst hv
      by_cases hl : v < σ.length
      · rw [List.getElem?_set_self (by rw [L2.wipe_length]; exact hl), if_pos ⟨List.mem_cons_self, hl⟩]
      · rw [List.getElem?_eq_none (by rw [List.length_set, L2.wipe_length]; omega), if_neg (fun z => hl z.2), List.getElem?_eq_none (by omega)]
    · rw [List.getElem?_set_ne hv, wipe_get (vs := vs)]
      by_cases h : i ∈ vs ∧ i < σ.length
      · rw [if_pos h, if_pos ⟨List.mem_cons_of_mem _ h.1, h.2⟩]
      · rw [if_neg h, if_neg]
        rintro ⟨h1, h2⟩
        rcases List.mem_cons.mp h1 with e | h1
        · exact hv e.symm
        · exact h ⟨h1, h2⟩
theorem off_set {σ : L2.St} {v : Option V} {i : Nat} {vs : List Nat} (h : i ∈ vs) : Off vs σ (σ.set i v) := by
  unfold Off
  apply List.ext_getElem?
  intro j
  rw [wipe_get, wipe_get, List.length_set]
  by_cases hj : j ∈ vs ∧ j < σ.length
  · rw [if_pos hj, if_pos hj]
  · rw [if_neg hj, if_neg hj]
    by_cases e : i = j
    · subst e
      have hl : ¬ i < σ.length := fun z => hj ⟨h, z⟩
      rw [List.getElem?_eq_none (by rw [List.length_set]; omega), List.getElem?_eq_none (by omega)]
    · rw [List.getElem?_set_ne e]
theorem off_wipe {σ : L2.St} {vs : List Nat} : Off vs σ (L2.wipe σ vs) := by
  unfold Off
  apply List.ext_getElem?
  intro j
  rw [wipe_get, L2.wipe_length, wipe_get]
  by_cases hj : j ∈ vs ∧ j < σ.length
  · rw [if_pos hj, if_pos hj]
  · rw [if_neg hj]
theorem Off.trans {vs : List Nat} {a b c : L2.St} (h : Off vs a b) (h' : Off vs b c) : Off vs a c := Eq.trans h' h
theorem assign_len {c : Ctx} {env : PySem.Env} : ∀ {gs : Gs} {ts : List Expr}, chkGs gs c ts = true → (assignEach ts env).length = ts.length ∧ (assignEach ts env).findIdx? (·.1) = none
  | .nil, ts, h => by
    cases ts with
    | nil => exact ⟨rfl, rfl⟩
    | cons _ _ => cases h
  | .cons g gs, ts, h => by
    cases ts with
    | nil => cases h
    | cons t r =>
      have h' : (chkG g c t && chkGs gs c r) = true := h
      rw [Bool.and_eq_true] at h'
      obtain ⟨h1, h2⟩ := assign_len (env := env) h'.2
      have e : assignEach (t :: r) env = (false, assign t env) :: assignEach r env := by
        cases t <;> first | rfl | (cases g <;> cases h'.1)
      rw [e]
      refine ⟨by simp [h1], ?_⟩
      rw [List.findIdx?_cons]
      simp only [Bool.false_eq_true, if_false, h2, Option.map_none]
mutual
theorem sndG {T : Tab} {W k : Nat} : ∀ (g : G) (c : Ctx) (t : Expr), chkG g c t = true → ∀ (X : Cx), XOk T W k c X → PG X t (tG X.K g)
  | .name i, c, t, h, X, ok => by
    cases t <;> first | (cases h; done) | skip
    rename_i x pos
    have h' : (decide (c.N[i]? = some x) && locB c x) = true := h
    rw [Bool.and_eq_true] at h'
    obtain ⟨hl, hf⟩ := ok.loc h'.2
    refine PG.imp (pg_name (i := i) (by rw [ok.N]; exact ok.nd) (by rw [ok.N]; exact of_decide_eq_true h'.1) hl hf) fun v σ H Q ⟨F, α, S, ρ, r, ρ', he, w, rr, e, q⟩ => ?_
    cases (Option.some.inj e : ρ.set i (some r) = ρ')
    exact q _ (he.set rr i) fun vs hv => off_set (hv i (List.mem_singleton.mpr rfl))
  | .tup gs, c, t, h, X, ok => by
    cases t <;> first | (cases h; done) | skip
    rename_i ts n pos
    have h' : chkGs gs c ts = true := h
    obtain ⟨h1, h2⟩ := assign_len (env := X.env) h'
    refine PG.or (pg_tup ok.calm (sndGs gs c ts h' X ok) rfl h2) (pg_unl ok.calm (sndGs gs c ts h' X ok) rfl h2) fun v σ H Q ⟨F, α, S, ρ, r, ρ', he, w, rr, e, q⟩ => ?_
    cases r with
    | loc n => cases e
    | scr ns => cases e
    | d x =>
      cases x <;> first | (cases e; done) | skip
      · rename_i xs
        cases rr with
        | lst a rs =>
          refine .inr ⟨_, _, rfl, SqL.of (w.sub _ _ a), ?_, F, α, S, ρ, xs, ρ', he, w, rs, e, q⟩
          rw [h1, rs.length]
          exact (gs_len gs c ts h' xs ρ ρ' e).symm
      · rename_i xs
        cases rr with
        | tup a rs =>
          refine .inl ⟨_, _, rfl, Evl.ex_t w.sub a, ?_, F, α, S, ρ, xs, ρ', he, w, rs, e, q⟩
          rw [h1, rs.length]
          exact (gs_len gs c ts h' xs ρ ρ' e).symm
theorem sndGs {T : Tab} {W k : Nat} : ∀ (g : Gs) (c : Ctx) (t : List Expr), chkGs g c t = true → ∀ (X : Cx), XOk T W k c X → PGs X t (tGs X.K g)
  | .nil, c, ts, h, X, ok => by
    cases ts with
    | cons _ _ => cases h
    | nil =>
      refine PGs.imp pgs_nil fun vs σ H Q ⟨F, α, S, ρ, rs, ρ', he, w, rr, e, q⟩ => ?_
      cases rs with
      | cons _ _ => cases e
      | nil =>
        cases rr
        cases e
        exact ⟨rfl, q _ he fun vs _ => rfl⟩
  | .cons g gs, c, ts, h, X, ok => by
    cases ts with
    | nil => cases h
    | cons t r =>
      have h' : (chkG g c t && chkGs gs c r) = true := h
      rw [Bool.and_eq_true] at h'
      have e1 : (assignEach (t :: r) X.env).map (·.2) = assign t X.env :: (assignEach r X.env).map (·.2) := by
        cases t <;> first | rfl | (cases g <;> cases h'.1)
      refine PGs.imp (pgs_cons (sndG g c t h'.1 X ok) (sndGs gs c r h'.2 X ok) e1) fun vs σ H Q ⟨F, α, S, ρ, rs, ρ', he, w, rr, e, q⟩ => ?_
      cases rs with
      | nil => cases e
      | cons x xs =>
        cases rr with
        | cons a b =>
          have e2 : (match asgG g (.d x) ρ with | some ρ' => asgGs gs xs ρ' | none => none) = some ρ' := e
          cases h3 : asgG g (.d x) ρ with
          | none => rw [h3] at e2; cases e2
          | some ρ1 =>
            rw [h3] at e2
            refine ⟨_, _, rfl, F, α, S, ρ, .d x, ρ1, he, w, a, h3, fun σ1 he1 o1 => ⟨F, α, S, ρ1, xs, ρ', he1, w, b, e2, fun σ2 he2 o2 => q σ2 he2 fun vs hv => ?_⟩⟩
            exact (o1 vs fun i hi => hv i (List.mem_append_left _ hi)).trans (o2 vs fun i hi => hv i (List.mem_append_right _ hi))
theorem gs_len : ∀ (g : Gs) (c : Ctx) (t : List Expr), chkGs g c t = true → ∀ xs ρ ρ', asgGs g xs ρ = some ρ' → t.length = xs.length
  | .nil, c, ts, h, xs, ρ, ρ', e => by
    cases ts with
    | cons _ _ => cases h
    | nil =>
      cases xs with
      | nil => rfl
      | cons _ _ => cases e
  | .cons g gs, c, ts, h, xs, ρ, ρ', e => by
    cases ts with
    | nil => cases h
    | cons t r =>
      cases xs with
      | nil => cases e
      | cons x xs =>
        have h' : (chkG g c t && chkGs gs c r) = true := h
        rw [Bool.and_eq_true] at h'
        have e2 : (match asgG g (.d x) ρ with | some ρ' => asgGs gs xs ρ' | none => none) = some ρ' := e
        cases h3 : asgG g (.d x) ρ with
        | none => rw [h3] at e2; cases e2
        | some ρ1 =>
          rw [h3] at e2
          exact congrArg Nat.succ (gs_len gs c r h'.2 xs ρ1 ρ' e2)
end
end PC
end
section
/-! PcSndE2: the expressions. -/
namespace PC
open PySem PySem.Spec PyProof.Rows L2
section
variable {K : PySem.W.Frag} {F F' H H' : Hp} {α α' : List Addr} {S S' : Store} {Q : VK} {C : Call} {σ : L2.St} {ρ : Env}
theorem SW.freeze (w : SW K H S F α) {p : Addr} {o : HO} (hF : F p = none) (ha : p ∉ α) (hp : H p = some o) : SW K H S (upd F p o) α ∧ Ext F α (upd F p o) α := by
  have xF : Ex F (upd F p o) := Evl.Ex.new hF
  refine ⟨⟨fun a u h => ?_, w.len, w.nd, fun a hm => ?_, fun n a c h1 h2 => cellOk_mono xF rfl (w.cell n a c h1 h2)⟩, xF, List.prefix_refl _⟩
  · by_cases e : a = p
    · subst e; rw [upd_same] at h; rw [← h]; exact hp
    · rw [upd_ne e] at h; exact w.sub a u h
  · rw [upd_ne (fun e => ha (by rw [← e]; exact hm))]; exact w.out a hm
theorem SW.more (w : SW K H S F α) {p : Addr} {o : HO} (hp : H p = none) : SW K (upd H p o) S F α := by
  have hn := fresh_notin w hp
  refine ⟨fun a u h => ?_, w.len, w.nd, w.out, fun n a c h1 h2 => ?_⟩
  · rw [upd_ne (ne_of_none (w.sub a u h) hp)]; exact w.sub a u h
  · exact cellOk_mono (Evl.Ex.refl F) (upd_ne (fun e => hn (by rw [← e]; exact List.mem_of_getElem? h1))) (w.cell n a c h1 h2)
theorem SW.drop (w : SW K H S F α) (n : Nat) : SW K H (S.take n) F (α.take n) := by
  refine ⟨w.sub, by rw [List.length_take, List.length_take, w.len], w.nd.sublist (List.take_sublist _ _), fun a h => w.out a (List.mem_of_mem_take h), fun m a c h1 h2 => ?_⟩
  have hm : m < n := by
    have := (List.getElem?_eq_some_iff.mp h1).1
    rw [List.length_take] at this
    omega
  rw [List.getElem?_take_of_lt hm] at h1 h2
  exact w.cell m a c h1 h2
theorem Post.n {ds : List D} (q : Post K F α S (.d (.list ds)) Q) : PostN K F α S ds Q := fun p H' F' α' vs x w hF ha hp rs => by
  obtain ⟨w', x'⟩ := w.freeze hF ha hp
  exact q _ _ _ _ (x.trans x') w' (.lst upd_same (Reps.mono x'.ex _ rs))
theorem PostN.fin {ds : List D} (q : PostN K F α S ds Q) (x : Ext F α F' α') (w : SW K H' S F' α') : FinN K F' H' ds Q := fun p vs hp rs =>
  q p _ F' α' vs x (w.more hp) (Evl.fresh_back w.sub hp) (fresh_notin w hp) upd_same rs
theorem Post.fin {d : D} (q : Post K F α S (.d d) Q) (x : Ext F α F' α') : Fin1 K F' α' S d Q := fun v H2 F2 α2 x2 w2 r => q v H2 F2 α2 (x.trans x2) w2 r
/-- a list-valued text may be read as a new list -/
theorem tE.n {e : E} (hl : ∀ r S', evE C e ρ S = some (r, S') → ∃ ds, r = .d (.list ds)) (he : EnvOk K F α σ ρ) (w : SW K H S F α) {r : R} {S' : Store} (ev : evE C e ρ S = some (r, S')) (q : Post K F α S' r Q) : tN K C e σ H Q := by
  obtain ⟨ds, rfl⟩ := hl r S' ev
  exact ⟨ρ, S, F, α, ds, S', he, w, ev, q.n⟩
theorem rep_bool {v : V} {b : Bool} (h : RepR K F α v (.d (.bool b))) : v = .bl b := by
  cases (show Rep K F v _ from h); rfl
theorem rep_int {v : V} {b : Int} (h : RepR K F α v (.d (.int b))) : v = .int b := by
  cases (show Rep K F v _ from h); rfl
end
/-! ### built-in names -/
def B1.val (f : B1) : Value := match f with
  | .len => .builtin "len"
  | .int => .type "int"
  | .abs => .builtin "abs"
  | .tuple => .type "tuple"
  | .list => .type "list"
  | .sum => .builtin "sum"
  | .any => .builtin "any"
  | .all => .builtin "all"
def B2.val (f : B2) : Value := match f with
  | .max => .builtin "max"
  | .min => .builtin "min"
theorem boot_b1 (f : B1) : bootBuiltins f.nm = some f.val := by cases f <;> (simp only [B1.nm, B1.val]; decide +kernel)
theorem boot_b2 (f : B2) : bootBuiltins f.nm = some f.val := by cases f <;> (simp only [B2.nm, B2.val]; decide +kernel)
theorem boot_ty : ∀ t : Ty, bootBuiltins t.nm = some (.type t.py) := by
  intro f
  cases f <;> (simp only [Ty.nm, Ty.py]; decide +kernel)
theorem b1_in (f : B1) : f.nm ∈ bnames := by cases f <;> (simp only [B1.nm]; decide +kernel)
theorem b2_in (f : B2) : f.nm ∈ bnames := by cases f <;> (simp only [B2.nm]; decide +kernel)
theorem ty_in (f : Ty) : f.nm ∈ bnames := by cases f <;> (simp only [Ty.nm]; decide +kernel)
theorem b1_ne (f : B1) : f.nm ≠ "__name__" ∧ (f.nm == ("__debug__" : Str)) = false := by cases f <;> (simp only [B1.nm]; decide +kernel)
theorem b2_ne (f : B2) : f.nm ≠ "__name__" ∧ (f.nm == ("__debug__" : Str)) = false := by cases f <;> (simp only [B2.nm]; decide +kernel)
theorem ty_ne (f : Ty) : f.nm ≠ "__name__" ∧ (f.nm == ("__debug__" : Str)) = false := by cases f <;> (simp only [Ty.nm]; decide +kernel)

/-! ### iterators -/
section
variable {K : PySem.W.Frag} {F : Hp} {α : List Addr}
theorem it_rng (lo : Int) (n : Nat) : ItOk K F α (.rng lo 1 n) (Itr lo n) :=
  ⟨fun i H S F' α' x xt w hi e => ⟨hi, fun v H' ⟨e1, e2⟩ => by
    subst e1 e2
    cases (Option.some.inj e : PyData.int _ = x)
    rw [Int.mul_one]
    exact ⟨F', Ext.refl, w, .int _⟩⟩, fun H S F' α' xt w e => Nat.le_refl _⟩
theorem it_rngC (lo c : Int) (n : Nat) : ItOk K F α (.rng lo c n) (Itc lo c n) :=
  ⟨fun i H S F' α' x xt w hi e => ⟨hi, fun v H' ⟨e1, e2⟩ => by
    subst e1 e2
    cases (Option.some.inj e : PyData.int _ = x)
    exact ⟨F', Ext.refl, w, .int _⟩⟩, fun H S F' α' xt w e => Nat.le_refl _⟩
theorem it_list {r : R} {a : Addr} {n : Nat} (hr : RepR K F α (.ref a) r) (hl : ∀ S d, viewS r S = some d → ∃ ds, d = .list ds) : ItOk K F α (.seq r n) (Itl K a) := by
  have key : ∀ {H S F' α' d xs}, Ext F α F' α' → SW K H S F' α' → viewS r S = some d → seqOf d = some xs → ∃ vs, SqL K H a vs ∧ Reps K F' vs xs := fun {H S F' α' d xs} xt w h1 h2 => by
    obtain ⟨ds, rfl⟩ := hl S d h1
    cases (Option.some.inj h2 : ds = xs)
    obtain ⟨a', vs, e, h, rs⟩ := w.viewS (hr.mono xt) h1
    cases e
    exact ⟨vs, h, rs⟩
  refine ⟨fun i H S F' α' x xt w hi e => ?_, fun H S F' α' xt w e => ?_⟩
  · simp only [Items.get] at e
    cases h1 : viewS r S with
    | none => rw [h1] at e; cases e
    | some d =>
      rw [h1] at e
      simp only at e
      cases h2 : seqOf d with
      | none => rw [h2] at e; cases e
      | some xs =>
        rw [h2] at e
        obtain ⟨vs, hs, rs⟩ := key xt w h1 h2
        obtain ⟨v, hv, rv⟩ := rs.get e
        refine ⟨⟨vs, v, hs, hv⟩, fun u H' ⟨e1, e2⟩ => ?_⟩
        subst e1
        have := e2 vs hs
        rw [hv] at this
        cases this
        exact ⟨F', Ext.refl, w, rv⟩
  · simp only [Items.fin] at e
    cases h1 : viewS r S with
    | none => rw [h1] at e; cases e
    | some d =>
      rw [h1] at e
      simp only at e
      cases h2 : seqOf d with
      | none => rw [h2] at e; cases e
      | some xs =>
        rw [h2] at e
        obtain ⟨vs, hs, rs⟩ := key xt w h1 h2
        exact ⟨vs, hs, by rw [rs.length]; exact Nat.le_of_ble_eq_true e⟩
theorem it_tup {ds : List D} {a : Addr} {n : Nat} (hr : RepR K F α (.ref a) (.d (.tuple ds))) : ItOk K F α (.seq (.d (.tuple ds)) n) (Itt K a) := by
  cases (show Rep K F _ _ from hr) with
  | tup ha ra =>
    refine ⟨fun i H S F' α' x xt w hi e => ?_, fun H S F' α' xt w e => ?_⟩
    · obtain ⟨v, hv, rv⟩ := ra.get (show ds[i]? = some x from e)
      have hs := Evl.ex_t (xt.ex.trans w.sub) ha
      refine ⟨⟨_, v, hs, hv⟩, fun u H' ⟨e1, e2⟩ => ?_⟩
      subst e1
      have := e2 _ hs
      rw [hv] at this
      cases this
      exact ⟨F', Ext.refl, w, rv.mono xt.ex⟩
    · exact ⟨_, Evl.ex_t (xt.ex.trans w.sub) ha, by rw [ra.length]; exact Nat.le_of_ble_eq_true e⟩
theorem listOf_view {r : R} {v : V} {H : Hp} {S : Store} {xs : List D} (w : SW K H S F α) (hr : RepR K F α v r) (h : listOf r S = some xs) : ∃ a vs, v = .ref a ∧ H a = some (.lst vs) ∧ Reps K F vs xs := by
  unfold listOf at h
  split at h
  · rename_i ds h1
    cases h
    exact w.view hr h1
  · cases h
theorem it_zip {r q : R} {a b : Addr} {n : Nat} (hr : RepR K F α (.ref a) r) (hq : RepR K F α (.ref b) q) : ItOk K F α (.zip r q n) (Itz K a b) := by
  refine ⟨fun i H S F' α' x xt w hi e => ?_, fun H S F' α' xt w e => ?_⟩
  · simp only [Items.get] at e
    cases h1 : listOf r S with
    | none => rw [h1] at e; cases e
    | some xs =>
      cases h2 : listOf q S with
      | none => rw [h1, h2] at e; cases e
      | some ys =>
        rw [h1, h2] at e
        simp only at e
        cases h3 : xs[i]? with
        | none => rw [h3] at e; cases e
        | some x1 =>
          cases h4 : ys[i]? with
          | none => rw [h3, h4] at e; cases e
          | some y1 =>
            rw [h3, h4] at e
            cases e
            obtain ⟨a', vs, ea, hs, rs⟩ := listOf_view w (hr.mono xt) h1
            obtain ⟨b', us, eb, ht, rt⟩ := listOf_view w (hq.mono xt) h2
            cases ea
            cases eb
            obtain ⟨v, hv, rv⟩ := rs.get h3
            obtain ⟨u, hu, ru⟩ := rt.get h4
            refine ⟨⟨vs, us, v, u, SqL.of hs, SqL.of ht, hv, hu⟩, fun z H' ⟨p, x2, y2, e1, e2, e3, e4, e5⟩ => ?_⟩
            subst e1 e3
            have k1 := e4 vs (SqL.of hs)
            have k2 := e5 us (SqL.of ht)
            rw [hv] at k1
            rw [hu] at k2
            cases k1
            cases k2
            obtain ⟨w', x'⟩ := w.frozen (o := .tup [v, u]) e2
            exact ⟨_, x', w', .tup (SqT.of upd_same) (.cons (rv.mono x'.ex) (.cons (ru.mono x'.ex) .nil))⟩
  · simp only [Items.fin] at e
    cases h1 : listOf r S with
    | none => rw [h1] at e; cases e
    | some xs =>
      cases h2 : listOf q S with
      | none => rw [h1, h2] at e; cases e
      | some ys =>
        rw [h1, h2] at e
        simp only at e
        obtain ⟨a', vs, ea, hs, rs⟩ := listOf_view w (hr.mono xt) h1
        obtain ⟨b', us, eb, ht, rt⟩ := listOf_view w (hq.mono xt) h2
        cases ea
        cases eb
        rw [Bool.or_eq_true] at e
        refine ⟨vs, us, SqL.of hs, SqL.of ht, ?_⟩
        rw [rs.length, rt.length]
        exact e.imp (fun z => Nat.le_of_ble_eq_true z) (fun z => Nat.le_of_ble_eq_true z)
end
end PC
end
section
/-! PcSndE3: the expressions' proof. -/
namespace PC
open PySem PySem.Spec PyProof.Rows L2

/-! ### the readings of the parts, from the reading of the whole -/
section
variable {K : PySem.W.Frag} {C : Call} {σ : L2.St} {H : Hp} {Q : VK}
theorem i_var {i : Nat} (h : tE K C (.var i) σ H Q) : tVar i σ H Q := by
  obtain ⟨ρ, S, F, α, r, S', he, w, e, q⟩ := h
  simp only [evE] at e
  split at e
  · rename_i r' hr
    cases e
    obtain ⟨v, hv, rv⟩ := he.at_ i r hr
    exact ⟨v, hv, q v H F α Ext.refl w rv⟩
  · cases e
theorem i_c {e : E} {d : D} {v : V} (hd : ∀ ρ S, evE C e ρ S = some (.d d, S)) (hr : ∀ F, Rep K F v d) (h : tE K C e σ H Q) : tC v σ H Q := by
  obtain ⟨ρ, S, F, α, r, S', he, w, e1, q⟩ := h
  rw [hd] at e1
  cases e1
  exact q v H F α Ext.refl w (hr F)
/-- two parts, then a plain operation -/
theorem i_two {a b : E} {e : E} {f : D → D → Option D}
    (inv : ∀ ρ S r S', evE C e ρ S = some (r, S') → ∃ ra S1 rb dx dy dz, evE C a ρ S = some (ra, S1) ∧ evE C b ρ S1 = some (rb, S') ∧ viewD ra S' = some dx ∧ viewD rb S' = some dy ∧ f dx dy = some dz ∧ r = .d dz)
    (h : tE K C e σ H Q) : tOp (rB K f) (tE K C a) (tE K C b) σ H Q := by
  obtain ⟨ρ, S, F, α, r, S', he, w, ev, q⟩ := h
  obtain ⟨ra, S1, rb, dx, dy, dz, h1, h2, v1, v2, hf, rfl⟩ := inv _ _ _ _ ev
  exact ⟨ρ, S, F, α, ra, S1, he, w, h1, fun x H1 F1 α1 x1 w1 r1 => ⟨ρ, S1, F1, α1, rb, S', he.mono x1, w1, h2, fun y H2 F2 α2 x2 w2 r2 =>
    ⟨F2, α2, S', dx, dy, dz, w2, w2.view (r1.mono x2) v1, w2.view r2 v2, hf, q.fin (x1.trans x2)⟩⟩⟩
theorem inv_two {a b : E} {ρ : Env} {S : Store} {f : D → D → Option D} {g : D → R} {r : R} {S' : Store}
    (e : (match evE C a ρ S with
      | none => none
      | some (ra, s1) => match evE C b ρ s1 with
        | none => none
        | some (rb, s2) => match viewD ra s2, viewD rb s2 with
          | some x, some y => (match f x y with
            | some z => some (g z, s2)
            | none => none)
          | _, _ => none) = some (r, S')) :
    ∃ ra S1 rb dx dy dz, evE C a ρ S = some (ra, S1) ∧ evE C b ρ S1 = some (rb, S') ∧ viewD ra S' = some dx ∧ viewD rb S' = some dy ∧ f dx dy = some dz ∧ r = g dz := by
  split at e
  · cases e
  · rename_i ra s1 h1
    split at e
    · cases e
    · rename_i rb s2 h2
      split at e
      · rename_i x y h3 h4
        split at e
        · rename_i z h5
          cases e
          exact ⟨ra, s1, rb, x, y, z, h1, h2, h3, h4, h5, rfl⟩
        · cases e
      · cases e
theorem i_bin {o : Bop} {a b : E} (h : tE K C (.bin o a b) σ H Q) : tOp (rB K (binD o)) (tE K C a) (tE K C b) σ H Q := i_two (fun ρ S r S' e => inv_two (g := .d) (by simp only [evE] at e; exact e)) h
theorem i_binN {o : Bop} {a b : E} (h : tN K C (.bin o a b) σ H Q) : tOp (rBN K (binD o)) (tE K C a) (tE K C b) σ H Q := by
  obtain ⟨ρ, S, F, α, ds, S', he, w, ev, q⟩ := h
  simp only [evE] at ev
  obtain ⟨ra, S1, rb, dx, dy, dz, h1, h2, v1, v2, hf, e⟩ := inv_two (g := .d) ev
  cases e
  exact ⟨ρ, S, F, α, ra, S1, he, w, h1, fun x H1 F1 α1 x1 w1 r1 => ⟨ρ, S1, F1, α1, rb, S', he.mono x1, w1, h2, fun y H2 F2 α2 x2 w2 r2 =>
    ⟨F2, α2, S', dx, dy, ds, w2, w2.view (r1.mono x2) v1, w2.view r2 v2, hf, q.fin (x1.trans x2) w2⟩⟩⟩
theorem i_ix {a b : E} (h : tE K C (.ix a b) σ H Q) : tOp (rB K ixD) (tE K C a) (tE K C b) σ H Q := i_two (fun ρ S r S' e => inv_two (g := .d) (by simp only [evE] at e; exact e)) h
theorem inv_cmp {a b : E} {ρ : Env} {S : Store} {f : D → D → Option Bool} {r : R} {S' : Store}
    (e : (match evE C a ρ S with
      | none => none
      | some (ra, s1) => match evE C b ρ s1 with
        | none => none
        | some (rb, s2) => match viewD ra s2, viewD rb s2 with
          | some x, some y => (match f x y with
            | some z => some (R.d (.bool z), s2)
            | none => none)
          | _, _ => none) = some (r, S')) :
    ∃ ra S1 rb dx dy dz, evE C a ρ S = some (ra, S1) ∧ evE C b ρ S1 = some (rb, S') ∧ viewD ra S' = some dx ∧ viewD rb S' = some dy ∧ f dx dy = some dz ∧ r = .d (.bool dz) := by
  split at e
  · cases e
  · rename_i ra s1 h1
    split at e
    · cases e
    · rename_i rb s2 h2
      split at e
      · rename_i x y h3 h4
        split at e
        · rename_i z h5
          cases e
          exact ⟨ra, s1, rb, x, y, z, h1, h2, h3, h4, h5, rfl⟩
        · cases e
      · cases e
theorem i_cmp {o : Cop} {a b : E} (h : tE K C (.cmp o a b) σ H Q) : tOp (rC K (cmpD o)) (tE K C a) (tE K C b) σ H Q := by
  obtain ⟨ρ, S, F, α, r, S', he, w, ev, q⟩ := h
  simp only [evE] at ev
  obtain ⟨ra, S1, rb, dx, dy, dz, h1, h2, v1, v2, hf, e⟩ := inv_cmp ev
  cases e
  exact ⟨ρ, S, F, α, ra, S1, he, w, h1, fun x H1 F1 α1 x1 w1 r1 => ⟨ρ, S1, F1, α1, rb, S', he.mono x1, w1, h2, fun y H2 F2 α2 x2 w2 r2 =>
    ⟨F2, α2, S', dx, dy, dz, w2, w2.view (r1.mono x2) v1, w2.view r2 v2, hf, q _ _ _ _ (x1.trans x2) w2 (.bl dz)⟩⟩⟩
theorem i_cmpT {o : Cop} {a b : E} {Q : Bool → Hp → Prop} (h : tT K C (.cmp o a b) σ H Q) : tTest (tOp (rC K (cmpD o)) (tE K C a) (tE K C b)) σ H Q := by
  obtain ⟨ρ, S, F, α, b, S', he, w, ev, q⟩ := h
  exact i_cmp ⟨ρ, S, F, α, _, S', he, w, ev, fun v H' F' α' x w' r => ⟨b, rep_bool r, q H' F' α' x w'⟩⟩
theorem i_chain {o p : Cop} {a b c : E} (h : tE K C (.chain o p a b c) σ H Q) : tChain (rC K (cmpD o)) (rC K (cmpD p)) (tE K C a) (tE K C b) (tE K C c) σ H Q := by
  obtain ⟨ρ, S, F, α, r, S', he, w, ev, q⟩ := h
  simp only [evE] at ev
  split at ev
  · cases ev
  · rename_i ra s1 h1
    split at ev
    · cases ev
    · rename_i rb s2 h2
      split at ev
      · rename_i x y h3 h4
        split at ev
        · rename_i h5
          refine ⟨ρ, S, F, α, ra, _, he, w, h1, fun x H1 F1 α1 x1 w1 r1 => ⟨ρ, _, F1, α1, rb, _, he.mono x1, w1, h2, fun y H2 F2 α2 x2 w2 r2 =>
            ⟨F2, α2, _, _, _, true, w2, w2.view (r1.mono x2) h3, w2.view r2 h4, h5, true, rfl, ?_⟩⟩⟩
          refine iteT ?_
          split at ev
          · cases ev
          · rename_i rc s3 h6
            split at ev
            · rename_i y' z h7 h8
              split at ev
              · rename_i t h9
                cases ev
                refine ⟨ρ, _, F2, α2, rc, _, he.mono (x1.trans x2), w2, h6, fun z H3 F3 α3 x3 w3 r3 => ⟨F3, α3, _, _, _, t, w3, w3.view (r2.mono x3) h7, w3.view r3 h8, h9, q _ _ _ _ (x1.trans (x2.trans x3)) w3 (.bl t)⟩⟩
              · cases ev
            · cases ev
        · rename_i h5
          cases ev
          refine ⟨ρ, S, F, α, ra, _, he, w, h1, fun x H1 F1 α1 x1 w1 r1 => ⟨ρ, _, F1, α1, rb, _, he.mono x1, w1, h2, fun y H2 F2 α2 x2 w2 r2 =>
            ⟨F2, α2, _, _, _, false, w2, w2.view (r1.mono x2) h3, w2.view r2 h4, h5, false, rfl, ?_⟩⟩⟩
          refine iteF ?_
          exact q _ _ _ _ (x1.trans x2) w2 (.bl false)
        · cases ev
      · cases ev
theorem i_chainT {o p : Cop} {a b c : E} {Q : Bool → Hp → Prop} (h : tT K C (.chain o p a b c) σ H Q) : tTest (tChain (rC K (cmpD o)) (rC K (cmpD p)) (tE K C a) (tE K C b) (tE K C c)) σ H Q := by
  obtain ⟨ρ, S, F, α, b, S', he, w, ev, q⟩ := h
  exact i_chain ⟨ρ, S, F, α, _, S', he, w, ev, fun v H' F' α' x w' r => ⟨b, rep_bool r, q H' F' α' x w'⟩⟩
theorem i_neg {a : E} (h : tE K C (.neg a) σ H Q) : tUn (rU fun i => .int (-i)) (tE K C a) σ H Q := by
  obtain ⟨ρ, S, F, α, r, S', he, w, ev, q⟩ := h
  simp only [evE] at ev
  split at ev
  · rename_i i s1 h1
    cases ev
    exact ⟨ρ, S, F, α, _, _, he, w, h1, fun v H1 F1 α1 x1 w1 r1 => ⟨i, rep_int r1, q _ _ _ _ x1 w1 (.int _)⟩⟩
  · cases ev
theorem i_notT {a : E} {Q : Bool → Hp → Prop} (h : tT K C (.not a) σ H Q) : tNot (tT K C a) σ H Q := by
  obtain ⟨ρ, S, F, α, b, S', he, w, ev, q⟩ := h
  simp only [evE] at ev
  split at ev
  · rename_i i s1 h1
    cases ev
    exact ⟨ρ, S, F, α, i, _, he, w, h1, fun H1 F1 α1 x1 w1 => q _ _ _ x1 w1⟩
  · cases ev
theorem i_not {a : E} (h : tE K C (.not a) σ H Q) : tNotV (tE K C a) σ H Q := by
  obtain ⟨ρ, S, F, α, r, S', he, w, ev, q⟩ := h
  simp only [evE] at ev
  split at ev
  · rename_i i s1 h1
    cases ev
    exact ⟨ρ, S, F, α, _, _, he, w, h1, fun v H1 F1 α1 x1 w1 r1 => ⟨i, rep_bool r1, q _ _ _ _ x1 w1 (.bl _)⟩⟩
  · cases ev
theorem i_and {a b : E} (h : tE K C (.and a b) σ H Q) : tAndV (tE K C a) (tE K C b) σ H Q := by
  obtain ⟨ρ, S, F, α, r, S', he, w, ev, q⟩ := h
  simp only [evE] at ev
  split at ev
  · rename_i s1 h1
    refine ⟨ρ, S, F, α, _, _, he, w, h1, fun v H1 F1 α1 x1 w1 r1 => ⟨true, rep_bool r1, ?_⟩⟩
    refine iteT ?_
    exact ⟨ρ, s1, F1, α1, r, S', he.mono x1, w1, ev, fun v H2 F2 α2 x2 w2 r2 => q _ _ _ _ (x1.trans x2) w2 r2⟩
  · rename_i s1 h1
    cases ev
    refine ⟨ρ, S, F, α, _, _, he, w, h1, fun v H1 F1 α1 x1 w1 r1 => ⟨false, rep_bool r1, ?_⟩⟩
    refine iteF ?_
    exact q _ _ _ _ x1 w1 (.bl _)
  · cases ev
theorem i_or {a b : E} (h : tE K C (.or a b) σ H Q) : tOrV (tE K C a) (tE K C b) σ H Q := by
  obtain ⟨ρ, S, F, α, r, S', he, w, ev, q⟩ := h
  simp only [evE] at ev
  split at ev
  · rename_i s1 h1
    cases ev
    refine ⟨ρ, S, F, α, _, _, he, w, h1, fun v H1 F1 α1 x1 w1 r1 => ⟨true, rep_bool r1, ?_⟩⟩
    refine iteT ?_
    exact q _ _ _ _ x1 w1 (.bl _)
  · rename_i s1 h1
    refine ⟨ρ, S, F, α, _, _, he, w, h1, fun v H1 F1 α1 x1 w1 r1 => ⟨false, rep_bool r1, ?_⟩⟩
    refine iteF ?_
    exact ⟨ρ, s1, F1, α1, r, S', he.mono x1, w1, ev, fun v H2 F2 α2 x2 w2 r2 => q _ _ _ _ (x1.trans x2) w2 r2⟩
  · cases ev
theorem i_andT {a b : E} {Q : Bool → Hp → Prop} (h : tT K C (.and a b) σ H Q) : tAnd (tT K C a) (tT K C b) σ H Q := by
  obtain ⟨ρ, S, F, α, r, S', he, w, ev, q⟩ := h
  simp only [evE] at ev
  split at ev
  · rename_i s1 h1
    refine ⟨ρ, S, F, α, _, _, he, w, h1, fun H1 F1 α1 x1 w1 => ?_⟩
    refine iteT ?_
    exact ⟨ρ, s1, F1, α1, r, S', he.mono x1, w1, ev, fun H2 F2 α2 x2 w2 => q _ _ _ (x1.trans x2) w2⟩
  · rename_i s1 h1
    cases ev
    refine ⟨ρ, S, F, α, _, _, he, w, h1, fun H1 F1 α1 x1 w1 => ?_⟩
    refine iteF ?_
    exact q _ _ _ x1 w1
  · cases ev
theorem i_orT {a b : E} {Q : Bool → Hp → Prop} (h : tT K C (.or a b) σ H Q) : tOr (tT K C a) (tT K C b) σ H Q := by
  obtain ⟨ρ, S, F, α, r, S', he, w, ev, q⟩ := h
  simp only [evE] at ev
  split at ev
  · rename_i s1 h1
    cases ev
    refine ⟨ρ, S, F, α, _, _, he, w, h1, fun H1 F1 α1 x1 w1 => ?_⟩
    refine iteT ?_
    exact q _ _ _ x1 w1
  · rename_i s1 h1
    refine ⟨ρ, S, F, α, _, _, he, w, h1, fun H1 F1 α1 x1 w1 => ?_⟩
    refine iteF ?_
    exact ⟨ρ, s1, F1, α1, r, S', he.mono x1, w1, ev, fun H2 F2 α2 x2 w2 => q _ _ _ (x1.trans x2) w2⟩
  · cases ev
theorem i_ite {c a b : E} (h : tE K C (.ite c a b) σ H Q) : tIf (tT K C c) (tE K C a) (tE K C b) σ H Q := by
  obtain ⟨ρ, S, F, α, r, S', he, w, ev, q⟩ := h
  simp only [evE] at ev
  split at ev
  · rename_i s1 h1
    refine ⟨ρ, S, F, α, _, _, he, w, h1, fun H1 F1 α1 x1 w1 => ?_⟩
    refine iteT ?_
    exact ⟨ρ, s1, F1, α1, r, S', he.mono x1, w1, ev, fun v H2 F2 α2 x2 w2 r2 => q _ _ _ _ (x1.trans x2) w2 r2⟩
  · rename_i s1 h1
    refine ⟨ρ, S, F, α, _, _, he, w, h1, fun H1 F1 α1 x1 w1 => ?_⟩
    refine iteF ?_
    exact ⟨ρ, s1, F1, α1, r, S', he.mono x1, w1, ev, fun v H2 F2 α2 x2 w2 r2 => q _ _ _ _ (x1.trans x2) w2 r2⟩
  · cases ev
theorem i_slo {a b : E} (h : tE K C (.slo a b) σ H Q) : tSl (rS K) (tE K C a) (tPart (tE K C b)) tNoPart σ H Q := by
  obtain ⟨ρ, S, F, α, r, S', he, w, ev, q⟩ := h
  simp only [evE] at ev
  split at ev
  · cases ev
  · rename_i ra s1 h1
    split at ev
    · rename_i i s2 h2
      split at ev
      · rename_i x h3
        split at ev
        · rename_i z h4
          cases ev
          exact ⟨ρ, S, F, α, ra, _, he, w, h1, fun v H1 F1 α1 x1 w1 r1 => ⟨ρ, s1, F1, α1, _, S', he.mono x1, w1, h2, fun u H2 F2 α2 x2 w2 r2 =>
            ⟨i, rep_int r2, F2, α2, S', x, z, w2, w2.viewS (r1.mono x2) h3, h4, q.fin (x1.trans x2)⟩⟩⟩
        · cases ev
      · cases ev
    · cases ev
theorem i_shi {a b : E} (h : tE K C (.shi a b) σ H Q) : tSl (rS K) (tE K C a) tNoPart (tPart (tE K C b)) σ H Q := by
  obtain ⟨ρ, S, F, α, r, S', he, w, ev, q⟩ := h
  simp only [evE] at ev
  split at ev
  · cases ev
  · rename_i ra s1 h1
    split at ev
    · rename_i i s2 h2
      split at ev
      · rename_i x h3
        split at ev
        · rename_i z h4
          cases ev
          exact ⟨ρ, S, F, α, ra, _, he, w, h1, fun v H1 F1 α1 x1 w1 r1 => ⟨ρ, s1, F1, α1, _, S', he.mono x1, w1, h2, fun u H2 F2 α2 x2 w2 r2 =>
            ⟨i, rep_int r2, F2, α2, S', x, z, w2, w2.viewS (r1.mono x2) h3, h4, q.fin (x1.trans x2)⟩⟩⟩
        · cases ev
      · cases ev
    · cases ev
theorem i_rev {a : E} (h : tE K C (.rev a) σ H Q) : tRev K (tE K C a) σ H Q := by
  obtain ⟨ρ, S, F, α, r, S', he, w, ev, q⟩ := h
  simp only [evE] at ev
  split at ev
  · cases ev
  · rename_i ra s1 h1
    split at ev
    · rename_i x h3
      split at ev
      · rename_i z h4
        cases ev
        exact ⟨ρ, S, F, α, ra, S', he, w, h1, fun v H1 F1 α1 x1 w1 r1 => ⟨F1, α1, S', x, z, w1, (w1.view r1 h3).s, h4, q.fin x1⟩⟩
      · cases ev
    · cases ev
theorem i_tup {es : Es} (h : tE K C (.tup es) σ H Q) : tTup (tEs K C es) σ H Q := by
  obtain ⟨ρ, S, F, α, r, S', he, w, ev, q⟩ := h
  simp only [evE] at ev
  split at ev
  · rename_i rs s1 h1
    split at ev
    · rename_i xs h2
      split at ev
      · rename_i h3
        cases ev
        refine ⟨ρ, S, F, α, rs, S', he, w, h1, fun vs H1 F1 α1 x1 w1 r1 => ?_⟩
        have rp := r1.pures h2
        exact ⟨by rw [rp.length]; exact sz_le h3, fun p hp => (q.fin x1).tup w1 hp rp⟩
      · cases ev
    · cases ev
  · cases ev
theorem i_lst {es : Es} (h : tN K C (.lst es) σ H Q) : tLst (tEs K C es) σ H Q := by
  obtain ⟨ρ, S, F, α, ds, S', he, w, ev, q⟩ := h
  simp only [evE] at ev
  split at ev
  · rename_i rs s1 h1
    split at ev
    · rename_i xs h2
      split at ev
      · rename_i h3
        cases ev
        refine ⟨ρ, S, F, α, rs, S', he, w, h1, fun vs H1 F1 α1 x1 w1 r1 => ?_⟩
        have rp := r1.pures h2
        exact ⟨by rw [rp.length]; exact sz_le h3, fun p hp => q.fin x1 w1 p _ hp rp⟩
      · cases ev
    · cases ev
  · cases ev
theorem l_lst {es : Es} {ρ : Env} {S : Store} (r : R) (S' : Store) (ev : evE C (.lst es) ρ S = some (r, S')) : ∃ ds, r = .d (.list ds) := by
  simp only [evE] at ev
  split at ev
  · split at ev
    · split at ev
      · cases ev; exact ⟨_, rfl⟩
      · cases ev
    · cases ev
  · cases ev
theorem l_comp {g : G} {vs : List Nat} {it : It} {hc : Bool} {c e : E} {ρ : Env} {S : Store} (r : R) (S' : Store) (ev : evE C (.comp g vs it hc c e) ρ S = some (r, S')) : ∃ ds, r = .d (.list ds) := by
  simp only [evE] at ev
  split at ev
  · cases ev
  · split at ev
    · split at ev
      · cases ev; exact ⟨_, rfl⟩
      · cases ev
    · cases ev
theorem i_b1 {f : B1} {a : E} (h : tE K C (.b1 f a) σ H Q) : tCB (r1 K (b1D f)) (tCons (tE K C a) tNil) σ H Q := by
  obtain ⟨ρ, S, F, α, r, S', he, w, ev, q⟩ := h
  simp only [evE] at ev
  split at ev
  · cases ev
  · rename_i ra s1 h1
    split at ev
    · rename_i x h3
      split at ev
      · rename_i z h4
        cases ev
        exact ⟨ρ, S, F, α, ra, S', he, w, h1, fun v H1 F1 α1 x1 w1 r1 => ⟨v, F1, α1, S', x, z, rfl, w1, w1.viewS r1 h3, h4, q.fin x1⟩⟩
      · cases ev
    · cases ev
theorem i_b1N {f : B1} {a : E} (h : tN K C (.b1 f a) σ H Q) : tCB (r1N K (b1D f)) (tCons (tE K C a) tNil) σ H Q := by
  obtain ⟨ρ, S, F, α, r, S', he, w, ev, q⟩ := h
  simp only [evE] at ev
  split at ev
  · cases ev
  · rename_i ra s1 h1
    split at ev
    · rename_i x h3
      split at ev
      · rename_i z h4
        cases ev
        exact ⟨ρ, S, F, α, ra, S', he, w, h1, fun v H1 F1 α1 x1 w1 r1 => ⟨v, F1, α1, S', x, _, rfl, w1, w1.viewS r1 h3, h4, q.fin x1 w1⟩⟩
      · cases ev
    · cases ev
theorem i_b2 {f : B2} {a b : E} (h : tE K C (.b2 f a b) σ H Q) : tCB (r2 K (b2D f)) (tCons (tE K C a) (tCons (tE K C b) tNil)) σ H Q := by
  obtain ⟨ρ, S, F, α, r, S', he, w, ev, q⟩ := h
  simp only [evE] at ev
  obtain ⟨ra, S1, rb, dx, dy, dz, h1, h2, v1, v2, hf, e⟩ := inv_two (g := .d) ev
  cases e
  exact ⟨ρ, S, F, α, ra, S1, he, w, h1, fun x H1 F1 α1 x1 w1 r1 => ⟨ρ, S1, F1, α1, rb, S', he.mono x1, w1, h2, fun y H2 F2 α2 x2 w2 r2 =>
    ⟨x, y, F2, α2, S', dx, dy, dz, rfl, w2, w2.view (r1.mono x2) v1, w2.view r2 v2, hf, q.fin (x1.trans x2)⟩⟩⟩
theorem i_isi {a : E} {t : Ty} (h : tE K C (.isi a t) σ H Q) : tCB (rI1 K t) (tCons (tE K C a) (tCons (tC (.ty t.py)) tNil)) σ H Q := by
  obtain ⟨ρ, S, F, α, r, S', he, w, ev, q⟩ := h
  simp only [evE] at ev
  split at ev
  · cases ev
  · rename_i ra s1 h1
    split at ev
    · rename_i x h3
      split at ev
      · rename_i z h4
        cases ev
        exact ⟨ρ, S, F, α, ra, S', he, w, h1, fun v H1 F1 α1 x1 w1 r1 => ⟨v, F1, α1, S', x, z, rfl, w1, w1.view r1 h3, h4, q _ _ _ _ x1 w1 (.bl _)⟩⟩
      · cases ev
    · cases ev
theorem i_call {T : Tab} {W k f : Nat} {es : Es} {E : XK} (h : tE K (callD T.defs W k) (.call f es) σ H Q) : tCall (spF K T W k f) [] E (tEs K (callD T.defs W k) es) σ H Q := by
  obtain ⟨ρ, S, F, α, r, S', he, w, ev, q⟩ := h
  simp only [evE] at ev
  split at ev
  · rename_i rs s1 h1
    refine ⟨ρ, S, F, α, rs, _, he, w, h1, fun vs H1 F1 α1 x1 w1 r1 => ⟨rs, s1, F1, α1, r, S', ?_, w1, ev, fun v H2 F2 x2 w2 r2 => q _ _ _ _ (x1.trans ⟨x2, List.prefix_refl _⟩) w2 r2⟩⟩
    rw [List.append_nil]
    exact r1
  · cases ev
theorem i_esNil {Q : List V → Hp → Prop} (h : tEs K C .nil σ H Q) : tNil σ H Q := by
  obtain ⟨ρ, S, F, α, r, S', he, w, ev, q⟩ := h
  simp only [evEs] at ev
  cases ev
  exact q _ _ _ _ Ext.refl w .nil
theorem i_esCons {e : E} {es : Es} {Q : List V → Hp → Prop} (h : tEs K C (.cons e es) σ H Q) : tCons (tE K C e) (tEs K C es) σ H Q := by
  obtain ⟨ρ, S, F, α, r, S', he, w, ev, q⟩ := h
  simp only [evEs] at ev
  split at ev
  · cases ev
  · rename_i v s1 h1
    split at ev
    · cases ev
    · rename_i vs s2 h2
      cases ev
      exact ⟨ρ, S, F, α, v, _, he, w, h1, fun x H1 F1 α1 x1 w1 r1 => ⟨ρ, s1, F1, α1, vs, S', he.mono x1, w1, h2, fun xs H2 F2 α2 x2 w2 r2 => q _ _ _ _ (x1.trans x2) w2 (.cons (r1.mono x2) r2)⟩⟩
end
end PC
end
section
/-! PcSndE4: comprehensions; the expressions' theorem. -/
namespace PC
open PySem PySem.Spec PyProof.Rows L2

def ttOf (K : PySem.W.Frag) (C : Call) (hc : Bool) (c : E) : TT := match hc with
  | true => tT K C c
  | false => tYes
theorem i_comp {K : PySem.W.Frag} {C : Call} {σ : L2.St} {H : Hp} {Q : VK} {g : G} {vs : List Nat} {it : It} {hc : Bool} {c e : E} (hv : ∀ i ∈ G.slots g, i ∈ vs) (h : tN K C (.comp g vs it hc c e) σ H Q) :
    tLc (tIt K C it) (tG K g) (ttOf K C hc c) (tE K C e) vs σ H Q := by
  obtain ⟨ρ, S, F, α, ds, S', he, w, ev, q⟩ := h
  simp only [evE] at ev
  split at ev
  · cases ev
  · rename_i J S1 hit
    generalize hst : (fun (x : D) (s2 : Store) => (match asgG g (.d x) (wipeE ρ vs) with
        | none => none
        | some ρ2 => match (if hc = true then evE C c ρ2 s2 else some (R.d (.bool true), s2)) with
          | some (.d (.bool true), s3) => (match evE C e ρ2 s3 with
            | some (.d y, s4) => some (some y, s4)
            | _ => none)
          | some (.d (.bool false), s3) => some (none, s3)
          | _ => none : Option (Option D × Store))) = step at ev
    split at ev
    · rename_i S5 hcmp
      split at ev
      · rename_i xs hcell
        cases ev
        refine ⟨ρ, S, F, α, J, S1, he, w, hit, fun H1 F1 α1 Jt x1 w1 iok => fun Dn hD => ?_⟩
        obtain ⟨w2, x2⟩ := w1.celled (ds := []) hD .nil
        have hDn : (α1 ++ [Dn])[S1.length]? = some Dn := by rw [← w1.len]; simp
        refine ⟨fun i m Hi => ∃ Si Fi αi, Ext F1 (α1 ++ [Dn]) Fi αi ∧ SW K Hi Si Fi αi ∧ i + m = J.n ∧ compN J S1.length step m i Si = some S5, ⟨J.n, _, F1, _, Ext.refl, w2, by omega, hcmp⟩, ?_⟩
        rintro i m Hi ⟨Si, Fi, αi, xi, wi, hm, hi⟩
        have x02 : Ext F1 α1 Fi αi := x2.trans xi
        cases m with
        | zero =>
          unfold compN at hi
          split at hi
          · rename_i hfin
            cases hi
            have e0 : i = J.n := by omega
            subst e0
            refine .inl ⟨iok.fin Hi _ Fi αi x02 wi hfin, ?_⟩
            obtain ⟨us, hH, hr⟩ := wi.at_ (pre_get xi.pre hDn) hcell
            have hmem : Dn ∈ αi := List.mem_of_getElem? (pre_get xi.pre hDn)
            have etk : αi.take S1.length = α1 := by
              obtain ⟨t, ht⟩ := xi.pre
              rw [← ht, ← w1.len, List.append_assoc, List.take_left']
              rfl
            have wd := wi.drop S1.length
            rw [etk] at wd
            refine q Dn Hi Fi α1 us (x1.trans ⟨x2.ex.trans xi.ex, List.prefix_refl _⟩) wd (wi.out Dn hmem) (fun hn => ?_) hH hr
            have := w2.nd
            rw [List.nodup_append] at this
            exact this.2.2 Dn hn Dn (List.mem_singleton.mpr rfl) rfl
          · cases hi
        | succ m =>
          unfold compN at hi
          split at hi
          · cases hi
          · rename_i x hget
            have hlt : i < J.n := by omega
            obtain ⟨hgo, hyld⟩ := iok.go i Hi Si Fi αi x x02 wi hlt hget
            refine .inr ⟨hgo, fun H' => ∃ Si Fi αi, Ext F1 (α1 ++ [Dn]) Fi αi ∧ SW K H' Si Fi αi ∧ compN J S1.length step m (i + 1) Si = some S5, fun H' ⟨Sj, Fj, αj, xj, wj, hj⟩ => ⟨m, Nat.lt_succ_self m, Sj, Fj, αj, xj, wj, by omega, hj⟩, fun v H' hy => ?_⟩
            obtain ⟨F2, xy, wy, ry⟩ := hyld v H' hy
            have hs : step x Si = (match asgG g (.d x) (wipeE ρ vs) with
              | none => none
              | some ρ2 => match (if hc = true then evE C c ρ2 Si else some (R.d (.bool true), Si)) with
                | some (.d (.bool true), s3) => (match evE C e ρ2 s3 with
                  | some (.d y, s4) => some (some y, s4)
                  | _ => none)
                | some (.d (.bool false), s3) => some (none, s3)
                | _ => none : Option (Option D × Store)) := by rw [← hst]
            cases h1 : asgG g (.d x) (wipeE ρ vs) with
            | none =>
              rw [h1] at hs
              rw [hs] at hi
              cases hi
            | some ρ2 =>
              rw [h1] at hs
              simp only at hs
              have x3 : Ext F α F2 αi := x1.trans (x02.trans xy)
              refine ⟨F2, αi, Si, wipeE ρ vs, .d x, ρ2, (he.mono x3).wipe vs, wy, ry, h1, fun σ2 he2 off => ⟨(off_wipe.trans (off vs hv)), ?_⟩⟩
              -- the test
              have body : ∀ (S3 : Store) (H3 F3 : Hp) (α3 : List Addr), Ext F2 αi F3 α3 → SW K H3 S3 F3 α3 → (match evE C e ρ2 S3 with
                  | some (.d y, s4) => some (some y, s4)
                  | _ => (none : Option (Option D × Store))) = step x Si →
                  tE K C e σ2 H3 fun y H4 => ∃ acc, H4 Dn = some (.lst acc) ∧ acc.length < sizeLine ∧ ∃ Si Fi αi, Ext F1 (α1 ++ [Dn]) Fi αi ∧ SW K (upd H4 Dn (.lst (acc ++ [y]))) Si Fi αi ∧ compN J S1.length step m (i + 1) Si = some S5 := by
                intro S3 H3 F3 α3 x4 w3 hst3
                split at hst3
                · rename_i y S4 h4
                  rw [← hst3] at hi
                  simp only at hi
                  split at hi
                  · rename_i acc hacc
                    split at hi
                    · rename_i hsz
                      refine ⟨ρ2, S3, F3, α3, .d y, S4, he2.mono x4, w3, h4, fun z H4 F4 α4 x5 w4 r4 => ?_⟩
                      have hD4 : α4[S1.length]? = some Dn := pre_get x5.pre (pre_get x4.pre (pre_get xi.pre hDn))
                      obtain ⟨us, hH, hr⟩ := w4.at_ hD4 hacc
                      refine ⟨us, hH, by rw [hr.length]; exact sz_lt hsz, _, F4, α4, xi.trans (xy.trans (x4.trans x5)), w4.wrote hD4 (hr.append (.cons r4 .nil)), hi⟩
                    · cases hi
                  · cases hi
                · rw [← hst3] at hi
                  cases hi
              cases hc with
              | false =>
                simp only [Bool.false_eq_true, if_false] at hs
                simp only [ttOf, tYes, if_true]
                exact body Si H' F2 αi Ext.refl wy hs.symm
              | true =>
                simp only [if_true] at hs
                split at hs
                · rename_i S3 h3
                  exact ⟨ρ2, Si, F2, αi, true, S3, he2, wy, h3, fun H3 F3 α3 x4 w3 => iteT (body S3 H3 F3 α3 x4 w3 hs.symm)⟩
                · rename_i S3 h3
                  rw [hs] at hi
                  exact ⟨ρ2, Si, F2, αi, false, S3, he2, wy, h3, fun H3 F3 α3 x4 w3 => iteF ⟨S3, F3, α3, xi.trans (xy.trans x4), w3, hi⟩⟩
                · rw [hs] at hi
                  cases hi
      · cases ev
    · cases ev
/-- a test by its value -/
theorem t_val {X : Cx} {C : Call} {e : E} {t : Expr} (h : PE X t (tE X.K C e)) (ht : ∀ whole, isTrue t X.env whole = (do let v ← whole; standAt t.pos; holding [v] (truthy v))) : PT X t (tT X.K C e) :=
  PT.imp (pt_val h ht) fun σ H Q ⟨ρ, S, F, α, b, S', he, w, ev, q⟩ => ⟨ρ, S, F, α, _, S', he, w, ev, fun v H' F' α' x w' r => ⟨b, rep_bool r, q H' F' α' x w'⟩⟩
/-- a BoolOp's test whatever its whole is -/
theorem boolW {X : Cx} {op : BoolOp} {l : List Expr} {pos : Pos} {t : TT} (h : PT X (.BoolOp op l pos) t) : PW X (.BoolOp op l pos) t := ⟨fun wh pins s σ H Q I q => h.run pins s σ H Q I q⟩
theorem and_split {a b : Bool} (h : (a && b) = true) : a = true ∧ b = true := Bool.and_eq_true_iff.mp h
theorem own_all {N : List Str} {sc scope : Scope} {own : List (Str × Nat)} (h : L2.blkC N sc scope own = true) : L2.BlkOk N sc scope own := blkOk_by h
theorem ne_dbg {x : Str} {l : List Str} (hx : x ∈ l) (h : ("__debug__" : Str) ∉ l) : (x == ("__debug__" : Str)) = false := by
  cases e : x == ("__debug__" : Str) with
  | false => rfl
  | true => rw [eq_of_beq e] at hx; exact absurd hx h
theorem blt_ne {x : Str} (h : x ∈ bnames) : x ≠ "__name__" ∧ (x == ("__debug__" : Str)) = false :=
  ⟨fun e => absurd (e ▸ h) (by decide +kernel), ne_dbg h (by decide +kernel)⟩
mutual
theorem sndE {T : Tab} {W k : Nat} : ∀ (e : E) (c : Ctx) (t : Expr), chkE T e c t = true → ∀ (X : Cx), XOk T W k c X → PE X t (tE X.K (callD T.defs W k) e)
  | .var i, c, t, h, X, ok => by
    cases t <;> first | (cases h; done) | skip
    rename_i x pos
    obtain ⟨h1, h2⟩ := and_split (show (decide (c.N[i]? = some x) && (visB c x && okN x)) = true from h)
    obtain ⟨h3, h4⟩ := and_split h2
    obtain ⟨h5, h6⟩ := okN_of h4
    exact PE.imp (pe_var (i := i) (by rw [ok.N]; exact of_decide_eq_true h1) (ok.vis h3) h5 h6) fun σ H Q => i_var
  | .glob y v, c, t, h, X, ok => by
    cases t <;> first | (cases h; done) | skip
    rename_i x pos
    obtain ⟨h1, h2⟩ := and_split (show (decide (x = y) && (glB c x && (okN x && T.globs.any fun p => decide (p.1 = y) && sameD p.2 v))) = true from h)
    obtain ⟨h3, h4⟩ := and_split h2
    obtain ⟨h5, h6⟩ := and_split h4
    have e1 := of_decide_eq_true h1
    subst e1
    obtain ⟨p, hp, h7⟩ := List.any_eq_true.mp h6
    obtain ⟨h8, h9⟩ := and_split h7
    obtain ⟨px, pv⟩ := p
    have e2 := of_decide_eq_true h8
    have e3 := sameD_eq h9
    simp only at e2 e3
    subst e2 e3
    obtain ⟨u, w, hm, hr, hw⟩ := ok.glob _ _ hp
    exact PE.imp (pe_glob (ok.gl h3) hm hr (okN_of h5).1) fun σ H Q => i_c (fun _ _ => rfl) hw
  | .int i, c, t, h, X, ok => by
    cases t <;> first | (cases h; done) | skip
    rename_i x j pos
    cases x <;> first | (cases h; done) | skip
    have e1 := of_decide_eq_true h
    subst e1
    exact PE.imp pe_int fun σ H Q => i_c (fun _ _ => rfl) fun _ => .int _
  | .bl b, c, t, h, X, ok => by
    cases t <;> first | (cases h; done) | skip
    rename_i x j pos
    cases x <;> first | (cases h; done) | skip
    have e1 := eq_of_beq (show (b == _) = true from h)
    subst e1
    exact PE.imp pe_bl fun σ H Q => i_c (fun _ _ => rfl) fun _ => .bl _
  | .non, c, t, h, X, ok => by
    cases t <;> first | (cases h; done) | skip
    rename_i x j pos
    cases x <;> first | (cases h; done) | skip
    exact PE.imp pe_non fun σ H Q => i_c (fun _ _ => rfl) fun _ => .non
  | .str x, c, t, h, X, ok => by
    cases t <;> first | (cases h; done) | skip
    rename_i y j pos
    cases y <;> first | (cases h; done) | skip
    have e1 := of_decide_eq_true h
    subst e1
    exact PE.imp pe_str fun σ H Q => i_c (fun _ _ => rfl) fun _ => .str _
  | .bin o a b, c, t, h, X, ok => by
    cases t <;> first | (cases h; done) | skip
    rename_i l p r pos
    obtain ⟨h1, h2⟩ := and_split (show (bopB o p && (chkE T a c l && chkE T b c r)) = true from h)
    obtain ⟨h3, h4⟩ := and_split h2
    rw [bopB_eq h1]
    exact PE.imp (pe_op (op_bin o) (sndE a c l h3 X ok) (sndE b c r h4 X ok)) fun σ H Q => i_bin
  | .neg a, c, t, h, X, ok => by
    cases t <;> first | (cases h; done) | skip
    rename_i p l pos
    cases p <;> first | (cases h; done) | skip
    exact PE.imp (pe_un un_neg (sndE a c l h X ok)) fun σ H Q => i_neg
  | .not a, c, t, h, X, ok => by
    cases t <;> first | (cases h; done) | skip
    rename_i p l pos
    cases p <;> first | (cases h; done) | skip
    exact PE.imp (pe_not (sndE a c l h X ok)) fun σ H Q => i_not
  | .and a b, c, t, h, X, ok => by
    cases t <;> first | (cases h; done) | skip
    rename_i p l pos
    cases p <;> first | (cases h; done) | skip
    match l, h with
    | x :: y :: r, h =>
      obtain ⟨h1, h2⟩ := and_split (show (chkE T a c x && chkE T b c (match (generalizing := false) r with | [] => y | _ => .BoolOp .And (y :: r) pos)) = true from h)
      cases r with
      | nil => exact PE.imp (pe_and (sndE a c x h1 X ok) (pe_one (sndE b c y h2 X ok))) fun σ H Q => i_and
      | cons z r => exact PE.imp (pe_and (sndE a c x h1 X ok) (sndE b c _ h2 X ok)) fun σ H Q => i_and
  | .or a b, c, t, h, X, ok => by
    cases t <;> first | (cases h; done) | skip
    rename_i p l pos
    cases p <;> first | (cases h; done) | skip
    match l, h with
    | x :: y :: r, h =>
      obtain ⟨h1, h2⟩ := and_split (show (chkE T a c x && chkE T b c (match (generalizing := false) r with | [] => y | _ => .BoolOp .Or (y :: r) pos)) = true from h)
      cases r with
      | nil => exact PE.imp (pe_or (sndE a c x h1 X ok) (pe_one (sndE b c y h2 X ok))) fun σ H Q => i_or
      | cons z r => exact PE.imp (pe_or (sndE a c x h1 X ok) (sndE b c _ h2 X ok)) fun σ H Q => i_or
  | .cmp o a b, c, t, h, X, ok => by
    cases t <;> first | (cases h; done) | skip
    rename_i l ps rs pos
    match ps, rs, h with
    | [p], [r], h =>
      obtain ⟨h1, h2⟩ := and_split (show (copB o p && (chkE T a c l && chkE T b c r)) = true from h)
      obtain ⟨h3, h4⟩ := and_split h2
      rw [copB_eq h1]
      exact PE.imp (pe_cmpR (op_cmp ok.hu o) (sndE a c l h3 X ok) (sndE b c r h4 X ok) (mark_of (chk_plain h4) _)) fun σ H Q => i_cmp
  | .chain o p a b d, c, t, h, X, ok => by
    cases t <;> first | (cases h; done) | skip
    rename_i l ps rs pos
    match ps, rs, h with
    | [q, q'], [r, r'], h =>
      obtain ⟨h1, h2⟩ := and_split (show (copB o q && (copB p q' && (chkE T a c l && (chkE T b c r && chkE T d c r')))) = true from h)
      obtain ⟨h3, h4⟩ := and_split h2
      obtain ⟨h5, h6⟩ := and_split h4
      obtain ⟨h7, h8⟩ := and_split h6
      rw [copB_eq h1, copB_eq h3]
      exact PE.imp (pe_chain (op_cmp ok.hu o) (op_cmp ok.hu p) (sndE a c l h5 X ok) (sndE b c r h7 X ok) (sndE d c r' h8 X ok) (mark_of (chk_plain h8) _)) fun σ H Q => i_chain
  | .ite d a b, c, t, h, X, ok => by
    cases t <;> first | (cases h; done) | skip
    rename_i x y z pos
    obtain ⟨h1, h2⟩ := and_split (show (tstOk d && (chkE T d c x && (chkE T a c y && chkE T b c z))) = true from h)
    obtain ⟨h3, h4⟩ := and_split h2
    obtain ⟨h5, h6⟩ := and_split h4
    exact PE.imp (pe_ifExp (sndT d c x h3 h1 X ok) (sndE a c y h5 X ok) (sndE b c z h6 X ok)) fun σ H Q => i_ite
  | .ix a b, c, t, h, X, ok => by
    cases t <;> first | (cases h; done) | skip
    rename_i x y pos
    obtain ⟨h1, h2⟩ := and_split (show (chkE T a c x && chkE T b c y) = true from h)
    exact PE.imp (pe_ix ix_D (sndE a c x h1 X ok) (sndE b c y h2 X ok) (sub_of (chk_plain h2))) fun σ H Q => i_ix
  | .slo a b, c, t, h, X, ok => by
    cases t <;> first | (cases h; done) | skip
    rename_i x y pos
    cases y <;> first | (cases h; done) | skip
    rename_i lo up st p2
    cases lo <;> cases up <;> cases st <;> first | (cases h; done) | skip
    rename_i y
    obtain ⟨h1, h2⟩ := and_split (show (chkE T a c x && chkE T b c y) = true from h)
    exact PE.imp (pe_slice sl_D (sndE a c x h1 X ok) (po_some (sndE b c y h2 X ok)) po_none) fun σ H Q => i_slo
  | .shi a b, c, t, h, X, ok => by
    cases t <;> first | (cases h; done) | skip
    rename_i x y pos
    cases y <;> first | (cases h; done) | skip
    rename_i lo up st p2
    cases lo <;> cases up <;> cases st <;> first | (cases h; done) | skip
    rename_i y
    obtain ⟨h1, h2⟩ := and_split (show (chkE T a c x && chkE T b c y) = true from h)
    exact PE.imp (pe_slice sl_D (sndE a c x h1 X ok) po_none (po_some (sndE b c y h2 X ok))) fun σ H Q => i_shi
  | .rev a, c, t, h, X, ok => by
    cases t <;> first | (cases h; done) | skip
    rename_i x y pos
    cases y <;> first | (cases h; done) | skip
    rename_i lo up st p2
    cases lo <;> cases up <;> cases st <;> first | (cases h; done) | skip
    rename_i u
    cases u <;> first | (cases h; done) | skip
    rename_i uo ux up
    cases uo <;> first | (cases h; done) | skip
    cases ux <;> first | (cases h; done) | skip
    rename_i kc k1 k2
    cases kc <;> first | (cases h; done) | skip
    rename_i kk
    obtain ⟨h1, h2⟩ := and_split (show (decide (kk = 1) && chkE T a c x) = true from h)
    have e1 := of_decide_eq_true h1
    subst e1
    exact PE.imp (pe_rev (sndE a c x h2 X ok)) fun σ H Q => i_rev
  | .tup es, c, t, h, X, ok => by
    cases t <;> first | (cases h; done) | skip
    rename_i ts n pos
    exact PE.imp (pe_tup (sndEs es c ts h X ok)) fun σ H Q => i_tup
  | .lst es, c, t, h, X, ok => by
    cases t <;> first | (cases h; done) | skip
    rename_i ts pos
    exact PE.imp (pe_lst (sndEs es c ts h X ok)) fun σ H Q ⟨ρ, S, F, α, r, S', he, w, ev, q⟩ => i_lst (tE.n l_lst he w ev q)
  | .comp g vs it hc d e, c, t, h, X, ok => by
    cases t <;> first | (cases h; done) | skip
    rename_i elt gens scope pos
    match gens, h with
    | [⟨tg, iter, ifs, asy⟩], h =>
      obtain ⟨h1, h⟩ := and_split (show (decide (asy = 0) && (decide ((ownOf c.N vs).map (·.2) = vs) && (L2.blkC c.N c.sc scope (ownOf c.N vs) && (chkIt T it c tg iter && (chkG g (blkCtx c scope) tg && ((G.slots g).all (fun i => vs.contains i) &&
        ((match (generalizing := false) hc, ifs with
          | true, [f] => tstOk d && chkE T d (blkCtx c scope) f
          | false, [] => true
          | _, _ => false) && chkE T e (blkCtx c scope) elt))))))) = true from h)
      obtain ⟨h2, h⟩ := and_split h
      obtain ⟨h3, h⟩ := and_split h
      obtain ⟨h4, h⟩ := and_split h
      obtain ⟨h5, h⟩ := and_split h
      obtain ⟨h6, h⟩ := and_split h
      obtain ⟨h7, h8⟩ := and_split h
      have e1 := of_decide_eq_true h1
      subst e1
      have e2 := of_decide_eq_true h2
      have hv : ∀ i ∈ G.slots g, i ∈ vs := fun i hi => by simpa using List.all_eq_true.mp h6 i hi
      have hb : BlkOk X.N X.env.scope scope (ownOf c.N vs) := by rw [ok.N, ok.sc]; exact blkOk_by h3
      have hfold : ∀ x, foldedSetIterable iter X.env x = pure x := fun x => by
        cases it <;> first | exact fold_of (chk_plain h4) _ _ | (cases iter <;> first | rfl | cases h4)
      have core : PE X (.ListComp elt [⟨tg, iter, ifs, 0⟩] scope pos) (tLc (tIt X.K (callD T.defs W k) it) (tG X.K g) (ttOf X.K (callD T.defs W k) hc d) (tE X.K (callD T.defs W k) e) ((ownOf c.N vs).map (·.2))) := by
        refine pe_lc ok.calm (by rw [ok.N]; exact ok.nd) (sndIt it c tg iter h4 X ok) hb (fun s H C cl fp => sndG g _ tg h5 _ (ok.blk s H scope C cl fp)) (fun s H C cl fp => ?_) (fun s H C cl fp => sndE e _ elt h8 _ (ok.blk s H scope C cl fp)) hfold
        cases hc with
        | true =>
          match ifs, h7 with
          | [f], h7 =>
            obtain ⟨h9, h10⟩ := and_split h7
            exact pts_one (sndT d _ f h10 h9 _ (ok.blk s H scope C cl fp))
        | false =>
          match ifs, h7 with
          | [], _ => exact pts_nil
      rw [e2] at core
      exact PE.imp core fun σ H Q ⟨ρ, S, F, α, r, S', he, w, ev, q⟩ => i_comp hv (tE.n l_comp he w ev q)
  | .b1 f a, c, t, h, X, ok => by
    cases t <;> first | (cases h; done) | skip
    rename_i fn as ks pos
    cases fn <;> first | (cases h; done) | skip
    rename_i x pn
    match as, ks, h with
    | [y], [], h =>
      obtain ⟨h1, h⟩ := and_split (show (decide (x = f.nm) && (glB c x && chkE T a c y)) = true from h)
      obtain ⟨h2, h3⟩ := and_split h
      have e1 := of_decide_eq_true h1
      subst e1
      have hA := pa_cons (sndE a c y h3 X ok) pa_nil (star_of (chk_plain h3) _ _)
      have hs := star_of (chk_plain h3) [] X.env
      have hm := ok.blt _ (b1_in f)
      obtain ⟨n1, n2⟩ := b1_ne f
      cases f with
      | len => exact PE.imp (pe_callB b1_len (ok.gl h2) hm (boot_b1 .len) hA n1 n2 hs rfl) fun σ H Q => i_b1
      | int => exact PE.imp (pe_callTy b1_int (ok.gl h2) hm (boot_b1 .int) hA n1 n2 hs rfl) fun σ H Q => i_b1
      | abs => exact PE.imp (pe_callB b1_abs (ok.gl h2) hm (boot_b1 .abs) hA n1 n2 hs rfl) fun σ H Q => i_b1
      | tuple => exact PE.imp (pe_callTy b1_tuple (ok.gl h2) hm (boot_b1 .tuple) hA n1 n2 hs rfl) fun σ H Q => i_b1
      | list => exact PE.imp (pe_callTy b1_list (ok.gl h2) hm (boot_b1 .list) hA n1 n2 hs rfl) fun σ H Q => i_b1
      | sum => exact PE.imp (pe_callB (b1_sum ok.calm) (ok.gl h2) hm (boot_b1 .sum) hA n1 n2 hs rfl) fun σ H Q => i_b1
      | any => exact PE.imp (pe_callB (b1_any ok.calm) (ok.gl h2) hm (boot_b1 .any) hA n1 n2 hs rfl) fun σ H Q => i_b1
      | all => exact PE.imp (pe_callB (b1_all ok.calm) (ok.gl h2) hm (boot_b1 .all) hA n1 n2 hs rfl) fun σ H Q => i_b1
  | .b2 f a b, c, t, h, X, ok => by
    cases t <;> first | (cases h; done) | skip
    rename_i fn as ks pos
    cases fn <;> first | (cases h; done) | skip
    rename_i x pn
    match as, ks, h with
    | [y, z], [], h =>
      obtain ⟨h1, h⟩ := and_split (show (decide (x = f.nm) && (glB c x && (chkE T a c y && chkE T b c z))) = true from h)
      obtain ⟨h2, h⟩ := and_split h
      obtain ⟨h3, h4⟩ := and_split h
      have e1 := of_decide_eq_true h1
      subst e1
      have hA := pa_cons (sndE a c y h3 X ok) (pa_cons (sndE b c z h4 X ok) pa_nil (star_of (chk_plain h4) _ _)) (star_of (chk_plain h3) _ _)
      have hs := star_of (chk_plain h3) [z] X.env
      have hp : (backTo pos (starEach [z] X.env)).any (·.1) = false := by rw [star_of (chk_plain h4)]; rfl
      have hm := ok.blt _ (b2_in f)
      obtain ⟨n1, n2⟩ := b2_ne f
      cases f with
      | max => exact PE.imp (pe_callB (b2_max ok.calm) (ok.gl h2) hm (boot_b2 .max) hA n1 n2 hs hp) fun σ H Q => i_b2
      | min => exact PE.imp (pe_callB (b2_min ok.calm) (ok.gl h2) hm (boot_b2 .min) hA n1 n2 hs hp) fun σ H Q => i_b2
  | .isi a ty, c, t, h, X, ok => by
    cases t <;> first | (cases h; done) | skip
    rename_i fn as ks pos
    cases fn <;> first | (cases h; done) | skip
    rename_i x pn
    match as, ks, h with
    | [y, .Name z pz], [], h =>
      obtain ⟨h1, h⟩ := and_split (show (decide (x = ("isinstance" : Str)) && (glB c x && (decide (z = ty.nm) && (glB c z && chkE T a c y)))) = true from h)
      obtain ⟨h2, h⟩ := and_split h
      obtain ⟨h3, h⟩ := and_split h
      obtain ⟨h4, h5⟩ := and_split h
      have e1 := of_decide_eq_true h1
      have e2 := of_decide_eq_true h3
      subst e1 e2
      obtain ⟨n1, n2⟩ := ty_ne ty
      have hty : PE X (.Name ty.nm pz) (tC (.ty ty.py)) := pe_bltn (ok.gl h4) (ok.blt _ (ty_in ty)) (boot_ty ty) rfl n1 n2
      have hA := pa_cons (sndE a c y h5 X ok) (pa_cons hty pa_nil rfl) (star_of (chk_plain h5) _ _)
      exact PE.imp (pe_callB (isi_D ty) (ok.gl h2) (ok.blt _ (by decide +kernel)) (by decide +kernel) hA (by decide +kernel) (by decide +kernel) (star_of (chk_plain h5) _ _) rfl) fun σ H Q => i_isi
  | .call f es, c, t, h, X, ok => by
    cases t <;> first | (cases h; done) | skip
    rename_i fn as ks pos
    cases fn <;> first | (cases h; done) | skip
    rename_i x pn
    match as, ks, h with
    | y :: ys, [], h =>
      obtain ⟨h1, h⟩ := and_split (show (glB c x && (okN x && ((match T.defs[f]? with
        | some d => decide (d.name = x)
        | none => false) && chkEs T es c (y :: ys)))) = true from h)
      obtain ⟨h2, h⟩ := and_split h
      obtain ⟨h3, h4⟩ := and_split h
      cases hd : T.defs[f]? with
      | none => rw [hd] at h3; cases h3
      | some d =>
        rw [hd] at h3
        have e1 := of_decide_eq_true h3
        subst e1
        obtain ⟨fa, fd, ps, F, hm, hk, hb⟩ := ok.funs f d hd
        have hst : starEach (y :: ys) X.env = (false, eval y X.env) :: starEach ys X.env ∧ (backTo pos (starEach ys X.env)).any (·.1) = false := by
          cases es with
          | nil => cases h4
          | cons e0 es0 =>
            obtain ⟨h5, h6⟩ := and_split (show (chkE T e0 c y && chkEs T es0 c ys) = true from h4)
            exact ⟨star_of (chk_plain h5) _ _, star_any _ _ h6⟩
        exact PE.imp (pe_call F ok.room (ok.gl h1) hm hk hb .nil pass0 (sndEs es c _ h4 X ok) (okN_of h2).1 hst.1 hst.2) fun σ H Q => i_call
theorem sndEs {T : Tab} {W k : Nat} : ∀ (es : Es) (c : Ctx) (ts : List Expr), chkEs T es c ts = true → ∀ (X : Cx), XOk T W k c X → PA X ts (tEs X.K (callD T.defs W k) es)
  | .nil, c, ts, h, X, ok => by
    cases ts with
    | cons _ _ => cases h
    | nil => exact PA.imp pa_nil fun σ H Q => i_esNil
  | .cons e es, c, ts, h, X, ok => by
    cases ts with
    | nil => cases h
    | cons t r =>
      obtain ⟨h1, h2⟩ := and_split (show (chkE T e c t && chkEs T es c r) = true from h)
      exact PA.imp (pa_cons (sndE e c t h1 X ok) (sndEs es c r h2 X ok) (star_of (chk_plain h1) _ _)) fun σ H Q => i_esCons
theorem sndIt {T : Tab} {W k : Nat} : ∀ (it : It) (c : Ctx) (tg t : Expr), chkIt T it c tg t = true → ∀ (X : Cx), XOk T W k c X → PI X tg t (tIt X.K (callD T.defs W k) it)
  | .rng1 a, c, tg, t, h, X, ok => by
    cases t <;> first | (cases h; done) | skip
    rename_i fn as ks pos
    cases fn <;> first | (cases h; done) | skip
    rename_i x pn
    match as, ks, h with
    | [y], [], h =>
      obtain ⟨h1, h⟩ := and_split (show (decide (x = ("range" : Str)) && (glB c x && chkE T a c y)) = true from h)
      obtain ⟨h2, h3⟩ := and_split h
      have e1 := of_decide_eq_true h1
      subst e1
      have hs := star_of (chk_plain h3) [] X.env
      refine PI.imp (pi_range1 (ok.gl h2) (ok.blt _ (by decide +kernel)) (pa_cons (sndE a c y h3 X ok) pa_nil (star_of (chk_plain h3) _ _)) hs) fun σ H R ⟨ρ, S, F, α, J, S', he, w, ev, q⟩ => ?_
      simp only [evIt] at ev
      split at ev
      · rename_i j s1 h4
        split at ev
        · rename_i h5
          cases ev
          obtain ⟨b1, b2⟩ := and_split (show (decide (-(2 ^ 62) ≤ j) && decide (j < 2 ^ 62)) = true from h5)
          exact ⟨ρ, S, F, α, _, _, he, w, h4, fun v H1 F1 α1 x1 w1 r1 => ⟨j, by rw [rep_int r1], of_decide_eq_true b1, of_decide_eq_true b2, q _ _ _ _ x1 w1 (it_rng 0 _)⟩⟩
        · cases ev
      · cases ev
  | .rng2 a b, c, tg, t, h, X, ok => by
    cases t <;> first | (cases h; done) | skip
    rename_i fn as ks pos
    cases fn <;> first | (cases h; done) | skip
    rename_i x pn
    match as, ks, h with
    | [y, z], [], h =>
      obtain ⟨h1, h⟩ := and_split (show (decide (x = ("range" : Str)) && (glB c x && (chkE T a c y && chkE T b c z))) = true from h)
      obtain ⟨h2, h⟩ := and_split h
      obtain ⟨h3, h4⟩ := and_split h
      have e1 := of_decide_eq_true h1
      subst e1
      have hs2 : starEach [z] X.env = [(false, eval z X.env)] := star_of (chk_plain h4) [] X.env
      have hs : starEach [y, z] X.env = [(false, eval y X.env), (false, eval z X.env)] := by rw [star_of (chk_plain h3), hs2]
      refine PI.imp (pi_range2 (ok.gl h2) (ok.blt _ (by decide +kernel)) (pa_cons (sndE a c y h3 X ok) (pa_cons (sndE b c z h4 X ok) pa_nil (star_of (chk_plain h4) _ _)) (star_of (chk_plain h3) _ _)) hs hs2) fun σ H R ⟨ρ, S, F, α, J, S', he, w, ev, q⟩ => ?_
      simp only [evIt] at ev
      split at ev
      · rename_i i s1 h5
        split at ev
        · rename_i j s2 h6
          split at ev
          · rename_i h7
            cases ev
            obtain ⟨k1, k2⟩ := and_split h7
            obtain ⟨b1, b2⟩ := and_split (show (decide (-(2 ^ 62) ≤ i) && decide (i < 2 ^ 62)) = true from k1)
            obtain ⟨b3, b4⟩ := and_split (show (decide (-(2 ^ 62) ≤ j) && decide (j < 2 ^ 62)) = true from k2)
            exact ⟨ρ, S, F, α, _, _, he, w, h5, fun v H1 F1 α1 x1 w1 r1 => ⟨ρ, _, F1, α1, _, _, he.mono x1, w1, h6, fun u H2 F2 α2 x2 w2 r2 => ⟨i, j, by rw [rep_int r1, rep_int r2], ⟨of_decide_eq_true b1, of_decide_eq_true b2, of_decide_eq_true b3, of_decide_eq_true b4⟩, q _ _ _ _ (x1.trans x2) w2 (it_rng i _)⟩⟩⟩
          · cases ev
        · cases ev
      · cases ev
  | .rng3 a b d, c, tg, t, h, X, ok => by
    cases t <;> first | (cases h; done) | skip
    rename_i fn as ks pos
    cases fn <;> first | (cases h; done) | skip
    rename_i x pn
    match as, ks, h with
    | [y, z, u], [], h =>
      obtain ⟨h1, h⟩ := and_split (show (decide (x = ("range" : Str)) && (glB c x && (chkE T a c y && (chkE T b c z && chkE T d c u)))) = true from h)
      obtain ⟨h2, h⟩ := and_split h
      obtain ⟨h3, h⟩ := and_split h
      obtain ⟨h4, h5⟩ := and_split h
      have e1 := of_decide_eq_true h1
      subst e1
      have hs2 : (backTo pos (starEach [z, u] X.env)).any (·.1) = false := by
        rw [star_of (chk_plain h4), star_of (chk_plain h5)]; rfl
      refine PI.imp (pi_range3 (ok.gl h2) (ok.blt _ (by decide +kernel)) (pa_cons (sndE a c y h3 X ok) (pa_cons (sndE b c z h4 X ok) (pa_cons (sndE d c u h5 X ok) pa_nil (star_of (chk_plain h5) _ _)) (star_of (chk_plain h4) _ _)) (star_of (chk_plain h3) _ _)) (star_of (chk_plain h3) _ _) hs2) fun σ H R ⟨ρ, S, F, α, J, S', he, w, ev, q⟩ => ?_
      simp only [evIt] at ev
      split at ev
      · rename_i i s1 h5
        split at ev
        · rename_i j s2 h6
          split at ev
          · rename_i l s3 h8
            split at ev
            · rename_i h7
              cases ev
              obtain ⟨k1, k3⟩ := and_split h7
              obtain ⟨k1, k2⟩ := and_split k1
              obtain ⟨b1, b2⟩ := and_split (show (decide (-(2 ^ 62) ≤ i) && decide (i < 2 ^ 62)) = true from k1)
              obtain ⟨b3, b4⟩ := and_split (show (decide (-(2 ^ 62) ≤ j) && decide (j < 2 ^ 62)) = true from k2)
              have e3 := of_decide_eq_true k3
              subst e3
              exact ⟨ρ, S, F, α, _, _, he, w, h5, fun v H1 F1 α1 x1 w1 r1 => ⟨ρ, _, F1, α1, _, _, he.mono x1, w1, h6, fun u H2 F2 α2 x2 w2 r2 => ⟨ρ, _, F2, α2, _, _, he.mono (x1.trans x2), w2, h8, fun u3 H3 F3 α3 x3 w3 r3 =>
                ⟨i, j, -1, _, by rw [rep_int r1, rep_int r2, rep_int r3], RgC.neg (of_decide_eq_true b1) (of_decide_eq_true b2) (of_decide_eq_true b3) (of_decide_eq_true b4), q _ _ _ _ (x1.trans (x2.trans x3)) w3 (it_rngC i (-1) _)⟩⟩⟩⟩
            · cases ev
          · cases ev
        · cases ev
      · cases ev
  | .seq a, c, tg, t, h, X, ok => by
    have h' : chkE T a c t = true := h
    refine PI.or (pi_list (sndE a c t h' X ok)) (pi_tup (sndE a c t h' X ok)) fun σ H R ⟨ρ, S, F, α, J, S', he, w, ev, q⟩ => ?_
    simp only [evIt] at ev
    split at ev
    · cases ev
    · rename_i ra s1 h1
      split at ev
      · rename_i x h2
        split at ev
        · rename_i xs h3
          cases ev
          by_cases ht : ∃ ds, ra = .d (.tuple ds)
          · obtain ⟨ds, rfl⟩ := ht
            refine .inr ⟨ρ, S, F, α, _, _, he, w, h1, fun v H1 F1 α1 x1 w1 r1 => ?_⟩
            have r1' := r1
            cases (show Rep X.K F1 v _ from r1) with
            | tup ha ra' => exact ⟨_, rfl, ⟨_, Evl.ex_t w1.sub ha⟩, q _ _ _ _ x1 w1 (it_tup r1')⟩
          · refine .inl ⟨ρ, S, F, α, _, _, he, w, h1, fun v H1 F1 α1 x1 w1 r1 => ?_⟩
            have hl : ∀ S d, viewS ra S = some d → seqOf d ≠ none → ∃ ds, d = .list ds := fun S d e hne => by
              cases ra with
              | d y =>
                have e' : y = d := Option.some.inj e
                subst e'
                cases y <;> first | exact ⟨_, rfl⟩ | exact (hne rfl).elim | exact (ht ⟨_, rfl⟩).elim
              | loc n =>
                have e' : viewD (.loc n) S = some d := e
                simp only [viewD] at e'
                split at e' <;> cases e'
                exact ⟨_, rfl⟩
              | scr ns => cases e; exact ⟨_, rfl⟩
            obtain ⟨ds, rfl⟩ := hl _ _ h2 (by rw [h3]; simp)
            obtain ⟨a', vs, ea, hs, rs⟩ := w1.viewS r1 h2
            subst ea
            refine ⟨a', rfl, ⟨vs, hs⟩, q _ _ _ _ x1 w1 (it_list r1 fun S d e => ?_)⟩
            cases ra with
            | d y =>
              have e1 : y = d := Option.some.inj e
              have e2 : y = _ := Option.some.inj h2
              rw [← e1, e2]
              exact ⟨_, rfl⟩
            | loc n =>
              have e' : viewD (.loc n) S = some d := e
              simp only [viewD] at e'
              split at e' <;> cases e'
              exact ⟨_, rfl⟩
            | scr ns => cases e; exact ⟨_, rfl⟩
        · cases ev
      · cases ev
  | .zip a b, c, tg, t, h, X, ok => by
    cases t <;> first | (cases h; done) | skip
    rename_i fn as ks pos
    cases fn <;> first | (cases h; done) | skip
    rename_i x pn
    match as, ks, h with
    | [y, z], [], h =>
      obtain ⟨h1, h⟩ := and_split (show (decide (x = ("zip" : Str)) && (isTupE tg && (glB c x && (chkE T a c y && chkE T b c z)))) = true from h)
      obtain ⟨h0, h⟩ := and_split h
      obtain ⟨h2, h⟩ := and_split h
      obtain ⟨h3, h4⟩ := and_split h
      have e1 := of_decide_eq_true h1
      subst e1
      cases tg <;> first | (cases h0; done) | skip
      have hp : (backTo pos (starEach [z] X.env)).any (·.1) = false := by rw [star_of (chk_plain h4)]; rfl
      refine PI.imp (pi_zip (ok.gl h2) (ok.blt _ (by decide +kernel)) (pa_cons (sndE a c y h3 X ok) (pa_cons (sndE b c z h4 X ok) pa_nil (star_of (chk_plain h4) _ _)) (star_of (chk_plain h3) _ _)) (star_of (chk_plain h3) _ _) hp) fun σ H R ⟨ρ, S, F, α, J, S', he, w, ev, q⟩ => ?_
      simp only [evIt] at ev
      split at ev
      · cases ev
      · rename_i ra s1 h5
        split at ev
        · cases ev
        · rename_i rb s2 h6
          split at ev
          · rename_i xs ys h7 h8
            cases ev
            refine ⟨ρ, S, F, α, _, _, he, w, h5, fun v H1 F1 α1 x1 w1 r1 => ⟨ρ, _, F1, α1, _, _, he.mono x1, w1, h6, fun u H2 F2 α2 x2 w2 r2 => ?_⟩⟩
            obtain ⟨a', vs, ea, hs, rs⟩ := listOf_view w2 (r1.mono x2) h7
            obtain ⟨b', us, eb, ht, rt⟩ := listOf_view w2 r2 h8
            subst ea eb
            exact ⟨a', b', vs, us, rfl, SqL.of hs, SqL.of ht, q _ _ _ _ (x1.trans x2) w2 (it_zip (r1.mono x2) r2)⟩
          · cases ev
theorem sndT {T : Tab} {W k : Nat} : ∀ (e : E) (c : Ctx) (t : Expr), chkE T e c t = true → tstOk e = true → ∀ (X : Cx), XOk T W k c X → PT X t (tT X.K (callD T.defs W k) e)
  | .not a, c, t, h, hk, X, ok => by
    cases t <;> first | (cases h; done) | skip
    rename_i p l pos
    cases p <;> first | (cases h; done) | skip
    exact PT.imp (pt_not (sndT a c l h hk X ok)) fun σ H Q => i_notT
  | .and a b, c, t, h, hk, X, ok => by
    cases t <;> first | (cases h; done) | skip
    rename_i p l pos
    cases p <;> first | (cases h; done) | skip
    obtain ⟨k1, k2⟩ := and_split (show (tstOk a && tstOk b) = true from hk)
    match l, h with
    | x :: y :: r, h =>
      obtain ⟨h1, h2⟩ := and_split (show (chkE T a c x && chkE T b c (match (generalizing := false) r with | [] => y | _ => .BoolOp .And (y :: r) pos)) = true from h)
      cases r with
      | nil => exact PT.imp (pw_and (sndT a c x h1 k1 X ok) (pw_and1 (sndT b c y h2 k2 X ok))).pt fun σ H Q => i_andT
      | cons z r => exact PT.imp (pw_and (sndT a c x h1 k1 X ok) (boolW (sndT b c _ h2 k2 X ok))).pt fun σ H Q => i_andT
  | .or a b, c, t, h, hk, X, ok => by
    cases t <;> first | (cases h; done) | skip
    rename_i p l pos
    cases p <;> first | (cases h; done) | skip
    obtain ⟨k1, k2⟩ := and_split (show (tstOk a && tstOk b) = true from hk)
    match l, h with
    | x :: y :: r, h =>
      obtain ⟨h1, h2⟩ := and_split (show (chkE T a c x && chkE T b c (match (generalizing := false) r with | [] => y | _ => .BoolOp .Or (y :: r) pos)) = true from h)
      cases r with
      | nil => exact PT.imp (pw_or (sndT a c x h1 k1 X ok) (pw_or1 (sndT b c y h2 k2 X ok))).pt fun σ H Q => i_orT
      | cons z r => exact PT.imp (pw_or (sndT a c x h1 k1 X ok) (boolW (sndT b c _ h2 k2 X ok))).pt fun σ H Q => i_orT
  | .cmp o a b, c, t, h, hk, X, ok => by
    cases t <;> first | (cases h; done) | skip
    rename_i l ps rs pos
    match ps, rs, h with
    | [p], [r], h =>
      obtain ⟨h1, h2⟩ := and_split (show (copB o p && (chkE T a c l && chkE T b c r)) = true from h)
      obtain ⟨h3, h4⟩ := and_split h2
      rw [copB_eq h1]
      exact PT.imp (pt_cmpR (op_cmp ok.hu o) (sndE a c l h3 X ok) (sndE b c r h4 X ok) (mark_of (chk_plain h4) _)) fun σ H Q => i_cmpT
  | .chain o p a b d, c, t, h, hk, X, ok => by
    cases t <;> first | (cases h; done) | skip
    rename_i l ps rs pos
    match ps, rs, h with
    | [q, q'], [r, r'], h =>
      obtain ⟨h1, h2⟩ := and_split (show (copB o q && (copB p q' && (chkE T a c l && (chkE T b c r && chkE T d c r')))) = true from h)
      obtain ⟨h3, h4⟩ := and_split h2
      obtain ⟨h5, h6⟩ := and_split h4
      obtain ⟨h7, h8⟩ := and_split h6
      rw [copB_eq h1, copB_eq h3]
      exact PT.imp (pt_chain (op_cmp ok.hu o) (op_cmp ok.hu p) (sndE a c l h5 X ok) (sndE b c r h7 X ok) (sndE d c r' h8 X ok) (mark_of (chk_plain h8) _)) fun σ H Q => i_chainT
  | .ite d a b, c, t, h, hk, X, ok => by cases hk
  | .var i, c, t, h, hk, X, ok => t_val (sndE (.var i) c t h X ok) (by cases t <;> first | (cases h; done) | (intro _; rfl))
  | .glob y v, c, t, h, hk, X, ok => t_val (sndE (.glob y v) c t h X ok) (by cases t <;> first | (cases h; done) | (intro _; rfl))
  | .int i, c, t, h, hk, X, ok => t_val (sndE (.int i) c t h X ok) (by cases t <;> first | (cases h; done) | (intro _; rfl))
  | .bl i, c, t, h, hk, X, ok => t_val (sndE (.bl i) c t h X ok) (by cases t <;> first | (cases h; done) | (intro _; rfl))
  | .non, c, t, h, hk, X, ok => t_val (sndE .non c t h X ok) (by cases t <;> first | (cases h; done) | (intro _; rfl))
  | .str i, c, t, h, hk, X, ok => t_val (sndE (.str i) c t h X ok) (by cases t <;> first | (cases h; done) | (intro _; rfl))
  | .bin o a b, c, t, h, hk, X, ok => t_val (sndE (.bin o a b) c t h X ok) (by cases t <;> first | (cases h; done) | (intro _; rfl))
  | .neg a, c, t, h, hk, X, ok => t_val (sndE (.neg a) c t h X ok) (by
    cases t <;> first | (cases h; done) | skip
    rename_i p l pos
    cases p <;> first | (cases h; done) | (intro _; rfl))
  | .ix a b, c, t, h, hk, X, ok => t_val (sndE (.ix a b) c t h X ok) (by cases t <;> first | (cases h; done) | (intro _; rfl))
  | .slo a b, c, t, h, hk, X, ok => t_val (sndE (.slo a b) c t h X ok) (by cases t <;> first | (cases h; done) | (intro _; rfl))
  | .shi a b, c, t, h, hk, X, ok => t_val (sndE (.shi a b) c t h X ok) (by cases t <;> first | (cases h; done) | (intro _; rfl))
  | .rev a, c, t, h, hk, X, ok => t_val (sndE (.rev a) c t h X ok) (by cases t <;> first | (cases h; done) | (intro _; rfl))
  | .tup es, c, t, h, hk, X, ok => t_val (sndE (.tup es) c t h X ok) (by cases t <;> first | (cases h; done) | (intro _; rfl))
  | .lst es, c, t, h, hk, X, ok => t_val (sndE (.lst es) c t h X ok) (by cases t <;> first | (cases h; done) | (intro _; rfl))
  | .comp g vs it hc d e, c, t, h, hk, X, ok => t_val (sndE (.comp g vs it hc d e) c t h X ok) (by cases t <;> first | (cases h; done) | (intro _; rfl))
  | .b1 f a, c, t, h, hk, X, ok => t_val (sndE (.b1 f a) c t h X ok) (by cases t <;> first | (cases h; done) | (intro _; rfl))
  | .b2 f a b, c, t, h, hk, X, ok => t_val (sndE (.b2 f a b) c t h X ok) (by cases t <;> first | (cases h; done) | (intro _; rfl))
  | .isi a ty, c, t, h, hk, X, ok => t_val (sndE (.isi a ty) c t h X ok) (by cases t <;> first | (cases h; done) | (intro _; rfl))
  | .call f es, c, t, h, hk, X, ok => t_val (sndE (.call f es) c t h X ok) (by cases t <;> first | (cases h; done) | (intro _; rfl))
end
end PC
end
section
/-! PcSndS: the statements. -/
namespace PC
open PySem PySem.Spec PyProof.Rows L2

def PostS (K : PySem.W.Frag) (F : Hp) (α : List Addr) (D : Ends) : Out → Prop
  | .nx ρ' S' => ∀ σ' H' F' α', Ext F α F' α' → SW K H' S' F' α' → EnvOk K F' α' σ' ρ' → D.nx σ' H'
  | .rt r S' => ∀ v H' F' α', Ext F α F' α' → SW K H' S' F' α' → RepR K F' α' v r → D.rt v H'
def tS (K : PySem.W.Frag) (C : Call) (W : Nat) (st : S) : TS := fun D σ H => ∃ ρ S F α o, EnvOk K F α σ ρ ∧ SW K H S F α ∧ exS C W st ρ S = some o ∧ PostS K F α D o
def tSs (K : PySem.W.Frag) (C : Call) (W : Nat) (st : Ss) : TS := fun D σ H => ∃ ρ S F α o, EnvOk K F α σ ρ ∧ SW K H S F α ∧ exSs C W st ρ S = some o ∧ PostS K F α D o
theorem PostS.mono {K : PySem.W.Frag} {F F' : Hp} {α α' : List Addr} {D : Ends} {o : Out} (h : PostS K F α D o) (x : Ext F α F' α') : PostS K F' α' D o := by
  cases o with
  | nx ρ S => exact fun σ' H' F2 α2 x2 => h σ' H' F2 α2 (x.trans x2)
  | rt r S => exact fun v H' F2 α2 x2 => h v H' F2 α2 (x.trans x2)

/-! ### what is checked -/
def swNames (sc : Scope) (ts : List Expr) : List Str :=
  let line := (ts.head?.map (·.pos.line)).getD 0
  ts.filterMap fun
    | .Name id pos => if sc.names.lookup id == some .local && pos.line == line then some id else none
    | _ => none
def swB (sc scope : Scope) (x : Str) (l1 l2 : Nat) : Bool := sc.names.lookup x == some .local && l1 == l2 && !(scope.names.any fun (n, k) => n == x && (k == .local || k == .cell))
def chkNames (c : Ctx) : List Nat → List Expr → Bool
  | [], ts => ts.isEmpty
  | i :: is, ts => match ts with
    | .Name x p :: r => chkG (.name i) c (.Name x p) && chkNames c is r
    | _ => false
/-- the tuple's stores are not swapped -/
def nswB (sc : Scope) (ts vs : List Expr) : Bool := (swNames sc ts).length != ts.length || (swNames sc ts).eraseDups.length != (swNames sc ts).length || vs.all (foldedForSure 8)
/-- they are, plainly -/
def yswB (sc : Scope) (ts vs : List Expr) (ns : List Str) : Bool := !((swNames sc ts).length != ts.length || (swNames sc ts).eraseDups.length != (swNames sc ts).length) && (!vs.all (foldedForSure 8) && (!vs.all (constantsAlone 8) && decide (swNames sc ts = ns)))
def isComp : Expr → Bool
  | .ListComp _ _ _ _ => true
  | _ => false
def fresh (T : Tab) : E → Bool
  | .call f _ => (match T.defs[f]? with
    | some d => d.fin.isSome
    | none => false)
  | .lst _ => true
  | .bin _ _ _ => true
  | .comp _ _ _ _ _ _ => true
  | .b1 .list _ => true
  | _ => false
def augOk : Bop → Bool
  | .pow => false
  | _ => true
def localB (c : Ctx) (x : Str) : Bool := c.sc.names.lookup x == some .local
def locNames (c : Ctx) : List Expr → Bool
  | [] => true
  | t :: r => match t with
    | .Name x _ => localB c x && locNames c r
    | _ => false
def nmsOf : List Expr → List Str
  | [] => []
  | t :: r => match t with
    | .Name x _ => x :: nmsOf r
    | _ => []
def parOk (c : Ctx) (is : List Nat) (ts vs : List Expr) : Bool := decide (vs.length = ts.length) && ((is.length == 2 || is.length == 3) && (nswB c.sc ts vs || (yswB c.sc ts vs (nmsOf ts) && (decide is.Nodup && locNames c ts))))
mutual
def chkS (T : Tab) : S → Ctx → Stmt → Bool
  | .asg g e, c, st => match st with
    | .Assign [tg] t _ => chkE T e c t && (chkG g c tg && (!(isTupE tg && isTupE t)))
    | _ => false
  | .thaw i e, c, st => match st with
    | .Assign [.Name x p] t _ => fresh T e && (chkE T e c t && chkG (.name i) c (.Name x p))
    | _ => false
  | .par is es, c, st => match st with
    | .Assign [.Tuple ts _ _] (.Tuple vs _ _) _ => chkEs T es c vs && (chkNames c is ts && parOk c is ts vs)
    | _ => false
  | .aug i o e, c, st => match st with
    | .AugAssign (.Name x p) op t _ => bopB o op && (augOk o && (chkE T e c t && (chkG (.name i) c (.Name x p) && visB c x)))
    | _ => false
  | .seti a b e, c, st => match st with
    | .Assign [.Subscript x y _] t _ => chkE T e c t && (chkE T a c x && chkE T b c y)
    | _ => false
  | .augi a b o e, c, st => match st with
    | .AugAssign (.Subscript x y _) op t _ => bopB o op && (augOk o && (chkE T e c t && (chkE T a c x && chkE T b c y)))
    | _ => false
  | .if_ d t f, c, st => match st with
    | .If x p q _ => tstOk d && (chkE T d c x && (chkSs T t c p && chkSs T f c q))
    | _ => false
  | .whl d b, c, st => match st with
    | .While x p [] _ => tstOk d && (chkE T d c x && chkSs T b c p)
    | _ => false
  | .for_ g it b, c, st => match st with
    | .For tg t p [] _ => chkIt T it c tg t && (chkG g c tg && chkSs T b c p)
    | _ => false
  | .ret e, c, st => match st with
    | .Return (some t) _ => chkE T e c t
    | _ => false
  | .app a e, c, st => match st with
    | .Expr (.Call (.Attribute (.Name x p) m apos) [t] [] cpos) _ => decide (m = ("append" : Str)) && ((apos.endLine == cpos.line) && (chkE T a c (.Name x p) && chkE T e c t))
    | _ => false
  | .ext a e, c, st => match st with
    | .Expr (.Call (.Attribute (.Name x p) m apos) [t] [] cpos) _ => decide (m = ("extend" : Str)) && ((apos.endLine == cpos.line) && (chkE T a c (.Name x p) && chkE T e c t))
    | _ => false
  | .pop a, c, st => match st with
    | .Expr (.Call (.Attribute (.Name x p) m apos) [] [] cpos) _ => decide (m = ("pop" : Str)) && ((apos.endLine == cpos.line) && chkE T a c (.Name x p))
    | _ => false
  | .pass, _, st => match st with
    | .Pass _ => true
    | _ => false
  | .dead, _, _ => true
def chkSs (T : Tab) : Ss → Ctx → List Stmt → Bool
  | .nil, _, l => l.isEmpty
  | .cons s r, c, l => match l with
    | x :: xs => chkS T s c x && chkSs T r c xs
    | [] => false
end

structure XOkS (T : Tab) (W k : Nat) (c : Ctx) (X : Cx) : Prop extends XOk T W k c X where
  kind : c.sc.kind = .function
  never : X.xe = fun _ _ => False
section
variable {T : Tab} {W k : Nat} {c : Ctx} {X : Cx}
theorem XOkS.passes (ok : XOkS T W k c X) : PassesOwn (model X.prog X.w) X.A X.env X.xe := by rw [ok.never]; exact PassesOwn.never
theorem XOkS.bk (ok : XOkS T W k c X) : X.env.blockKind = .function := by unfold Env.blockKind; rw [ok.sc, ok.kind]; rfl
theorem XOkS.kd (ok : XOkS T W k c X) (x : Str) : X.env.kindOf x = c.sc.names.lookup x := by unfold Env.kindOf; rw [ok.sc]
theorem PS.imp {e : Stmt} {t t' : TS} (h : PS X e t) (w : ∀ D σ H, t' D σ H → t D σ H) : PS X e t' := ⟨fun pins s σ H D I q => h.run pins s σ H D I (w D σ H q)⟩
theorem PSs.imp {e : List Stmt} {t t' : TS} (h : PSs X e t) (w : ∀ D σ H, t' D σ H → t D σ H) : PSs X e t' := ⟨fun pins s σ H D I q => h.run pins s σ H D I (w D σ H q)⟩
theorem sw_plain {t : Expr} (h : isComp t = false) (hp : plainE t = true) (tg : Option Expr) (l : Nat) (env : PySem.Env) : swapsWith t tg l env = pure false := by
  cases t <;> first | rfl | (cases h; done) | (cases hp; done)
theorem sw_tup {ts : List Expr} {k : Nat} {p : Pos} (t : Expr) (hp : plainE t = true) (l : Nat) (env : PySem.Env) : swapsWith t (some (.Tuple ts k p)) l env = pure false := by
  cases t <;> first | rfl | (cases hp; done)
theorem sw_sub {a b : Expr} {p : Pos} (t : Expr) (hp : plainE t = true) (l : Nat) (env : PySem.Env) : swapsWith t (some (.Subscript a b p)) l env = pure false := by
  cases t <;> first | rfl | (cases hp; done)
theorem ss_name {x : Str} {p : Pos} (t : Expr) (env : PySem.Env) : swappedStores [.Name x p] t env = pure none := by cases t <;> rfl
theorem ss_sub {a b : Expr} {p : Pos} (t : Expr) (env : PySem.Env) : swappedStores [.Subscript a b p] t env = pure none := by cases t <;> rfl
theorem ss_tup {ts : List Expr} {k : Nat} {p : Pos} {t : Expr} (h : isTupE t = false) (env : PySem.Env) : swappedStores [.Tuple ts k p] t env = pure none := by
  cases t <;> first | rfl | (cases h; done)
theorem sw_comp (ok : XOkS T W k c X) {elt : Expr} {gs : List Comprehension} {scope : Scope} {pos py : Pos} {y : Str} {l : Nat} : swapsWith (.ListComp elt gs scope pos) (some (.Name y py)) l X.env = pure (swB c.sc scope y py.line pos.line) := by
  unfold swapsWith swB
  simp only [ok.bk, ok.kd, Expr.pos]
  rfl
theorem no_star {es : Es} : ∀ {vs : List Expr}, chkEs T es c vs = true → (vs.any fun | .Starred .. => true | _ => false) = false := by
  intro vs
  induction vs generalizing es with
  | nil => intro _; rfl
  | cons v vs ih =>
    intro h
    cases es with
    | nil => cases h
    | cons e es =>
      obtain ⟨h1, h2⟩ := and_split (show (chkE T e c v && chkEs T es c vs) = true from h)
      rw [List.any_cons, ih h2, Bool.or_false]
      have := chk_plain h1
      cases v <;> first | rfl | (cases this; done)
theorem ss_gen (ok : XOkS T W k c X) {ts vs : List Expr} {k1 k2 : Nat} {p1 p2 : Pos} (h1 : (ts.length == 2 || ts.length == 3) = true) (h2 : vs.length = ts.length) (h3 : (vs.any fun | .Starred .. => true | _ => false) = false) :
    swappedStores [.Tuple ts k1 p1] (.Tuple vs k2 p2) X.env = (if ((swNames c.sc ts).length != ts.length || (swNames c.sc ts).eraseDups.length != (swNames c.sc ts).length) = true then pure none else if vs.all (foldedForSure 8) = true then pure none
      else if vs.all (constantsAlone 8) = true then unsupported "assign.tuple-of-constant-expressions:order-of-the-stores" else pure (some (swNames c.sc ts))) := by
  have e0 : (!(ts.length == 2 || ts.length == 3) || vs.length != ts.length || X.env.blockKind != .function) = false := by
    rw [h1, h2, ok.bk]
    simp
  rw [← ok.sc]
  unfold swappedStores
  simp only []
  rw [if_neg (by rw [e0]; exact Bool.false_ne_true)]
  split
  · rename_i h
    exact absurd (h.symm.trans h3) (by decide)
  · split
    · rename_i h
      exact (if_pos h).symm
    · rename_i h
      refine Eq.trans ?_ (if_neg h).symm
      split
      · rfl
      · split
        · rfl
        · rfl
end
end PC
end
section
/-! PcSndS2: the statements' rules. -/
namespace PC
open PySem PySem.Spec PyProof.Rows L2
section
variable {T : Tab} {W k : Nat} {c : Ctx} {X : Cx}
theorem SW.cell2 {K : PySem.W.Frag} {F H : Hp} {α : List Addr} {S : Store} (w : SW K H S F α) {p : Addr} {vs : List V} {ds : List D} (hF : F p = none) (ha : p ∉ α) (hp : H p = some (.lst vs)) (r : Reps K F vs ds) :
    SW K H (S ++ [.lst ds]) F (α ++ [p]) ∧ Ext F α F (α ++ [p]) := by
  refine ⟨⟨w.sub, by simp [w.len], ?_, fun a hm => ?_, fun n a c h1 h2 => ?_⟩, Evl.Ex.refl F, List.prefix_append _ _⟩
  · rw [List.nodup_append]
    refine ⟨w.nd, by simp, fun a hm b hb => ?_⟩
    have : b = p := by simpa using hb
    subst this
    exact fun e => ha (e ▸ hm)
  · rcases List.mem_append.mp hm with hm | hm
    · exact w.out a hm
    · have : a = p := by simpa using hm
      subst this
      exact hF
  · by_cases hl : n < α.length
    · rw [List.getElem?_append_left hl] at h1
      rw [List.getElem?_append_left (w.len ▸ hl)] at h2
      exact w.cell n a c h1 h2
    · have hn2 : n = α.length := by
        have := (List.getElem?_eq_some_iff.mp h1).1
        simp at this
        omega
      subst hn2
      rw [List.getElem?_append_right (Nat.le_refl _)] at h1
      rw [w.len, List.getElem?_append_right (Nat.le_refl _)] at h2
      simp at h1 h2
      subst h1 h2
      exact ⟨vs, hp, r⟩
theorem i_callN {K : PySem.W.Frag} {T : Tab} {W k f : Nat} {es : Es} {E : XK} {σ : L2.St} {H : Hp} {Q : VK} (h : tN K (callD T.defs W k) (.call f es) σ H Q) : tCall (spN K T W k f) [] E (tEs K (callD T.defs W k) es) σ H Q := by
  obtain ⟨ρ, S, F, α, ds, S', he, w, ev, q⟩ := h
  simp only [evE] at ev
  split at ev
  · rename_i rs s1 h1
    refine ⟨ρ, S, F, α, rs, _, he, w, h1, fun vs H1 F1 α1 x1 w1 r1 => ⟨rs, s1, F1, α1, ds, S', ?_, w1, ev, fun p H2 F2 ws x2 w2 hF ha hp hr => q p H2 F2 α1 ws (x1.trans ⟨x2, List.prefix_refl _⟩) w2 hF ha hp hr⟩⟩
    rw [List.append_nil]
    exact r1
  · cases ev
/-- a fresh text, as a new list -/
theorem sndN (e : E) (hf : fresh T e = true) (c : Ctx) (t : Expr) (hc : isComp t = false) (h : chkE T e c t = true) (X : Cx) (ok : XOk T W k c X) : PE X t (tN X.K (callD T.defs W k) e) := by
  cases e <;> first | (cases hf; done) | skip
  · rename_i o a b
    cases t <;> first | (cases h; done) | skip
    rename_i l p r pos
    obtain ⟨h1, h2⟩ := and_split (show (bopB o p && (chkE T a c l && chkE T b c r)) = true from h)
    obtain ⟨h3, h4⟩ := and_split h2
    rw [bopB_eq h1]
    exact PE.imp (pe_op (op_binN o) (sndE a c l h3 X ok) (sndE b c r h4 X ok)) fun σ H Q => i_binN
  · rename_i es
    cases t <;> first | (cases h; done) | skip
    rename_i ts pos
    exact PE.imp (pe_lst (sndEs es c ts h X ok)) fun σ H Q => i_lst
  · cases t <;> first | (cases h; done) | (cases hc; done)
  · rename_i f a
    cases f <;> first | (cases hf; done) | skip
    cases t <;> first | (cases h; done) | skip
    rename_i fn as ks pos
    cases fn <;> first | (cases h; done) | skip
    rename_i x pn
    match as, ks, h with
    | [y], [], h =>
      obtain ⟨h1, h⟩ := and_split (show (decide (x = B1.list.nm) && (glB c x && chkE T a c y)) = true from h)
      obtain ⟨h2, h3⟩ := and_split h
      have e1 := of_decide_eq_true h1
      subst e1
      have hA := pa_cons (sndE a c y h3 X ok) pa_nil (star_of (chk_plain h3) _ _)
      have hs := star_of (chk_plain h3) [] X.env
      obtain ⟨n1, n2⟩ := b1_ne .list
      exact PE.imp (pe_callTy b1_listN (ok.gl h2) (ok.blt _ (b1_in .list)) (boot_b1 .list) hA n1 n2 hs rfl) fun σ H Q => i_b1N
  · rename_i f es
    cases t <;> first | (cases h; done) | skip
    rename_i fn as ks pos
    cases fn <;> first | (cases h; done) | skip
    rename_i x pn
    match as, ks, h with
    | y :: ys, [], h =>
      obtain ⟨h1, h⟩ := and_split (show (glB c x && (okN x && ((match T.defs[f]? with
        | some d => decide (d.name = x)
        | none => false) && chkEs T es c (y :: ys)))) = true from h)
      obtain ⟨h2, h⟩ := and_split h
      obtain ⟨h3, h4⟩ := and_split h
      cases hd : T.defs[f]? with
      | none => rw [hd] at h3; cases h3
      | some d =>
        rw [hd] at h3
        have e1 := of_decide_eq_true h3
        subst e1
        have hfin : d.fin.isSome = true := by
          have hf' : (match T.defs[f]? with
            | some d => d.fin.isSome
            | none => false) = true := hf
          rw [hd] at hf'
          exact hf'
        obtain ⟨fa, fd, ps, F, hm, hk, hb⟩ := ok.news f d hd hfin
        have hst : starEach (y :: ys) X.env = (false, eval y X.env) :: starEach ys X.env ∧ (backTo pos (starEach ys X.env)).any (·.1) = false := by
          cases es with
          | nil => cases h4
          | cons e0 es0 =>
            obtain ⟨h5, h6⟩ := and_split (show (chkE T e0 c y && chkEs T es0 c ys) = true from h4)
            exact ⟨star_of (chk_plain h5) _ _, star_any _ _ h6⟩
        exact PE.imp (pe_call F ok.room (ok.gl h1) hm hk hb .nil pass0 (sndEs es c _ h4 X ok) (okN_of h2).1 hst.1 hst.2) fun σ H Q => i_callN
/-- name = a comprehension -/
theorem ps_comp (ok : XOkS T W k c X) {e : E} {i : Nat} {x : Str} {p pos : Pos} {t : Expr} (hc : isComp t = true) (h : chkE T e c t = true) (hg : chkG (.name i) c (.Name x p) = true) :
    PS X (.Assign [.Name x p] t pos) (tAsg (tN X.K (callD T.defs W k) e) (gName i)) := by
  cases t <;> first | (cases hc; done) | skip
  rename_i elt gens scope cpos
  obtain ⟨g1, g2⟩ := and_split (show (decide (c.N[i]? = some x) && locB c x) = true from hg)
  obtain ⟨hl, hf⟩ := ok.loc g2
  have hN : X.N.Nodup := by rw [ok.N]; exact ok.nd
  have hi : X.N[i]? = some x := by rw [ok.N]; exact of_decide_eq_true g1
  by_cases hsw : swB c.sc scope x p.line cpos.line = true
  · cases e <;> first | (cases h; done) | skip
    rename_i g vs it hc' d e
    match gens, h with
    | [⟨tg, iter, ifs, asy⟩], h =>
      obtain ⟨h1, h⟩ := and_split (show (decide (asy = 0) && (decide ((ownOf c.N vs).map (·.2) = vs) && (L2.blkC c.N c.sc scope (ownOf c.N vs) && (chkIt T it c tg iter && (chkG g (blkCtx c scope) tg && ((G.slots g).all (fun i => vs.contains i) &&
        ((match (generalizing := false) hc', ifs with
          | true, [f] => tstOk d && chkE T d (blkCtx c scope) f
          | false, [] => true
          | _, _ => false) && chkE T e (blkCtx c scope) elt))))))) = true from h)
      obtain ⟨h2, h⟩ := and_split h
      obtain ⟨h3, h⟩ := and_split h
      obtain ⟨h4, h⟩ := and_split h
      obtain ⟨h5, h⟩ := and_split h
      obtain ⟨h6, h⟩ := and_split h
      obtain ⟨h7, h8⟩ := and_split h
      have e1 := of_decide_eq_true h1
      subst e1
      have e2 := of_decide_eq_true h2
      have hv : ∀ i ∈ G.slots g, i ∈ vs := fun i hi => by simpa using List.all_eq_true.mp h6 i hi
      have hb : BlkOk X.N X.env.scope scope (ownOf c.N vs) := by rw [ok.N, ok.sc]; exact blkOk_by h3
      have hfold : ∀ x, foldedSetIterable iter X.env x = pure x := fun x => by
        cases it <;> first | exact fold_of (chk_plain h4) _ _ | (cases iter <;> first | rfl | cases h4)
      have hloc : X.env.scope.names.lookup x = some .local := by
        rw [ok.sc]
        unfold swB at hsw
        rw [Bool.and_eq_true, Bool.and_eq_true] at hsw
        exact eq_of_beq hsw.1.1
      have core : PS X (.Assign [.Name x p] (.ListComp elt [⟨tg, iter, ifs, 0⟩] scope cpos) pos) (tAsg (tLc (tIt X.K (callD T.defs W k) it) (tG X.K g) (ttOf X.K (callD T.defs W k) hc' d) (tE X.K (callD T.defs W k) e) ((ownOf c.N vs).map (·.2))) (gName i)) := by
        refine ps_setLc ok.calm hN hi hloc (by rw [sw_comp ok, hsw]) (sndIt it c tg iter h4 X ok.toXOk) hb (fun s H C cl fp => sndG g _ tg h5 _ (ok.toXOk.blk s H scope C cl fp)) (fun s H C cl fp => ?_) (fun s H C cl fp => sndE e _ elt h8 _ (ok.toXOk.blk s H scope C cl fp)) hfold
        cases hc' with
        | true =>
          match ifs, h7 with
          | [f], h7 =>
            obtain ⟨h9, h10⟩ := and_split h7
            exact pts_one (sndT d _ f h10 h9 _ (ok.toXOk.blk s H scope C cl fp))
        | false =>
          match ifs, h7 with
          | [], _ => exact pts_nil
      rw [e2] at core
      exact PS.imp core fun D σ H q => i_comp hv q
  · have hsw' : swB c.sc scope x p.line cpos.line = false := by simpa using hsw
    have hE : PE X (.ListComp elt gens scope cpos) (tN X.K (callD T.defs W k) e) := by
      cases e <;> first | (cases h; done) | skip
      rename_i g vs it hc' d e
      match gens, h with
      | [⟨tg, iter, ifs, asy⟩], h =>
        obtain ⟨h1, h⟩ := and_split (show (decide (asy = 0) && (decide ((ownOf c.N vs).map (·.2) = vs) && (L2.blkC c.N c.sc scope (ownOf c.N vs) && (chkIt T it c tg iter && (chkG g (blkCtx c scope) tg && ((G.slots g).all (fun i => vs.contains i) &&
          ((match (generalizing := false) hc', ifs with
            | true, [f] => tstOk d && chkE T d (blkCtx c scope) f
            | false, [] => true
            | _, _ => false) && chkE T e (blkCtx c scope) elt))))))) = true from h)
        obtain ⟨h2, h⟩ := and_split h
        obtain ⟨h3, h⟩ := and_split h
        obtain ⟨h4, h⟩ := and_split h
        obtain ⟨h5, h⟩ := and_split h
        obtain ⟨h6, h⟩ := and_split h
        obtain ⟨h7, h8⟩ := and_split h
        have e1 := of_decide_eq_true h1
        subst e1
        have e2 := of_decide_eq_true h2
        have hv : ∀ i ∈ G.slots g, i ∈ vs := fun i hi => by simpa using List.all_eq_true.mp h6 i hi
        have hb : BlkOk X.N X.env.scope scope (ownOf c.N vs) := by rw [ok.N, ok.sc]; exact blkOk_by h3
        have hfold : ∀ x, foldedSetIterable iter X.env x = pure x := fun x => by
          cases it <;> first | exact fold_of (chk_plain h4) _ _ | (cases iter <;> first | rfl | cases h4)
        have core : PE X (.ListComp elt [⟨tg, iter, ifs, 0⟩] scope cpos) (tLc (tIt X.K (callD T.defs W k) it) (tG X.K g) (ttOf X.K (callD T.defs W k) hc' d) (tE X.K (callD T.defs W k) e) ((ownOf c.N vs).map (·.2))) := by
          refine pe_lc ok.calm hN (sndIt it c tg iter h4 X ok.toXOk) hb (fun s H C cl fp => sndG g _ tg h5 _ (ok.toXOk.blk s H scope C cl fp)) (fun s H C cl fp => ?_) (fun s H C cl fp => sndE e _ elt h8 _ (ok.toXOk.blk s H scope C cl fp)) hfold
          cases hc' with
          | true =>
            match ifs, h7 with
            | [f], h7 =>
              obtain ⟨h9, h10⟩ := and_split h7
              exact pts_one (sndT d _ f h10 h9 _ (ok.toXOk.blk s H scope C cl fp))
          | false =>
            match ifs, h7 with
            | [], _ => exact pts_nil
        rw [e2] at core
        exact PE.imp core fun σ H Q q => i_comp hv q
    exact ps_set hN hi hl hE (by rw [sw_comp ok, hsw']) hf
theorem ps_thaw (ok : XOkS T W k c X) {e : E} {i : Nat} {x : Str} {p pos : Pos} {t : Expr} (hf : fresh T e = true) (h : chkE T e c t = true) (hg : chkG (.name i) c (.Name x p) = true) :
    PS X (.Assign [.Name x p] t pos) (tS X.K (callD T.defs W k) W (.thaw i e)) := by
  have core : PS X (.Assign [.Name x p] t pos) (tAsg (tN X.K (callD T.defs W k) e) (gName i)) := by
    by_cases hc : isComp t = true
    · exact ps_comp ok hc h hg
    · have hc' : isComp t = false := by simpa using hc
      obtain ⟨g1, g2⟩ := and_split (show (decide (c.N[i]? = some x) && locB c x) = true from hg)
      obtain ⟨hl, hfn⟩ := ok.loc g2
      exact ps_set (by rw [ok.N]; exact ok.nd) (by rw [ok.N]; exact of_decide_eq_true g1) hl (sndN e hf c t hc' h X ok.toXOk) (sw_plain hc' (chk_plain h) _ _ _) hfn
  refine PS.imp core fun D σ H ⟨ρ, S, F, α, o, he, w, ev, q⟩ => ?_
  simp only [exS] at ev
  split at ev
  · rename_i xs s1 h1
    cases ev
    refine ⟨ρ, S, F, α, xs, s1, he, w, h1, fun p H' F' α' vs x w' hF ha hp rs => ?_⟩
    obtain ⟨w2, x2⟩ := w'.cell2 hF ha hp rs
    refine q _ H' F' _ (x.trans x2) w2 ((he.mono (x.trans x2)).set (show RepR X.K F' (α' ++ [p]) (.ref p) (.loc s1.length) from ⟨p, rfl, ?_⟩) i)
    rw [← w'.len]
    simp
  · cases ev
theorem ps_asgn (ok : XOkS T W k c X) {g : G} {e : E} {tg t : Expr} {pos : Pos} (h : chkE T e c t = true) (hg : chkG g c tg = true) (hn : (isTupE tg && isTupE t) = false) :
    PS X (.Assign [tg] t pos) (tS X.K (callD T.defs W k) W (.asg g e)) := by
  have toE : ∀ D σ H, tS X.K (callD T.defs W k) W (.asg g e) D σ H → tAsg (tE X.K (callD T.defs W k) e) (tG X.K g) D σ H := by
    rintro D σ H ⟨ρ, S, F, α, o, he, w, ev, q⟩
    simp only [exS] at ev
    split at ev
    · cases ev
    · rename_i r s1 h1
      split at ev
      · rename_i ρ' h2
        cases ev
        exact ⟨ρ, S, F, α, r, s1, he, w, h1, fun v H1 F1 α1 x1 w1 r1 => ⟨F1, α1, s1, ρ, r, ρ', he.mono x1, w1, r1, h2, fun σ' he' _ => q σ' H1 F1 α1 x1 w1 he'⟩⟩
      · cases ev
  have hG := sndG g c tg hg X ok.toXOk
  cases tg <;> first | (cases g <;> cases hg; done) | skip
  · rename_i x p
    by_cases hc : isComp t = true
    · cases g <;> first | (cases hg; done) | skip
      rename_i i
      refine PS.imp (ps_comp ok hc h hg) fun D σ H ⟨ρ, S, F, α, o, he, w, ev, q⟩ => ?_
      simp only [exS] at ev
      split at ev
      · cases ev
      · rename_i r s1 h1
        cases (Option.some.inj ev : Out.nx (ρ.set i (some r)) s1 = o)
        have hl : ∃ ds, r = .d (.list ds) := by
          cases t <;> first | (cases hc; done) | skip
          cases e <;> first | (cases h; done) | skip
          exact l_comp r s1 h1
        obtain ⟨ds, rfl⟩ := hl
        refine ⟨ρ, S, F, α, ds, s1, he, w, h1, Post.n (Q := fun z H1 => gName i z σ H1 D.nx) fun v H1 F1 α1 x1 w1 r1 => q _ H1 F1 α1 x1 w1 ((he.mono x1).set r1 i)⟩
    · have hc' : isComp t = false := by simpa using hc
      exact PS.imp (ps_asg (sndE e c t h X ok.toXOk) hG (Eq.trans (b := swapsWith t (some (.Name x p)) pos.line X.env) rfl (sw_plain hc' (chk_plain h) _ _ _)) (ss_name _ _) rfl) toE
  · rename_i ts n p
    have ht : isTupE t = false := by simpa [isTupE] using hn
    exact PS.imp (ps_asg (sndE e c t h X ok.toXOk) hG (Eq.trans (b := swapsWith t (some (.Tuple ts n p)) pos.line X.env) rfl (sw_tup t (chk_plain h) _ _)) (ss_tup ht _) rfl) toE
/-! ### a, b = x, y -/
def setsV (σ : L2.St) : List Nat → List V → L2.St
  | i :: is, v :: vs => setsV (σ.set i (some v)) is vs
  | _, _ => σ
def gNs (is : List Nat) : TGs := fun vs σ H Q => vs.length = is.length ∧ Q (setsV σ is vs) H
theorem sndNs (ok : XOk T W k c X) : ∀ (is : List Nat) (ts : List Expr), chkNames c is ts = true → PGs X ts (gNs is) ∧ (assignEach ts X.env).length = ts.length ∧ (assignEach ts X.env).findIdx? (·.1) = none ∧ ts.length = is.length
  | [], ts, h => by
    cases ts with
    | cons _ _ => cases h
    | nil =>
      refine ⟨PGs.imp pgs_nil fun vs σ H Q ⟨h1, h2⟩ => ?_, rfl, rfl, rfl⟩
      cases vs with
      | nil => exact ⟨rfl, h2⟩
      | cons _ _ => cases h1
  | i :: is, ts, h => by
    cases ts with
    | nil => cases h
    | cons t r =>
      cases t <;> first | (cases h; done) | skip
      rename_i x p
      obtain ⟨h1, h2⟩ := and_split (show (chkG (.name i) c (.Name x p) && chkNames c is r) = true from h)
      obtain ⟨g1, g2⟩ := and_split (show (decide (c.N[i]? = some x) && locB c x) = true from h1)
      obtain ⟨hl, hf⟩ := ok.loc g2
      obtain ⟨k1, k2, k3, k4⟩ := sndNs ok is r h2
      have hp : PG X (.Name x p) (gName i) := pg_name (by rw [ok.N]; exact ok.nd) (by rw [ok.N]; exact of_decide_eq_true g1) hl hf
      refine ⟨PGs.imp (pgs_cons hp k1 rfl) fun vs σ H Q ⟨e1, q⟩ => ?_, ?_, ?_, congrArg Nat.succ k4⟩
      · cases vs with
        | nil => cases e1
        | cons v vs => exact ⟨v, vs, rfl, by simpa using e1, q⟩
      · show (assignEach r X.env).length + 1 = r.length + 1
        rw [k2]
      · have : assignEach (.Name x p :: r) X.env = (false, assign (.Name x p) X.env) :: assignEach r X.env := rfl
        rw [this, List.findIdx?_cons]
        simp only [Bool.false_eq_true, if_false, k3, Option.map_none]
theorem sets_env {K : PySem.W.Frag} {F : Hp} {α : List Addr} : ∀ {is : List Nat} {rs : List R} {vs : List V} {σ : L2.St} {ρ ρ' : Env}, EnvOk K F α σ ρ → RepRs K F α vs rs → sets ρ is rs = some ρ' → EnvOk K F α (setsV σ is vs) ρ' ∧ is.length = rs.length
  | [], rs, vs, σ, ρ, ρ', he, r, e => by
    cases rs with
    | cons _ _ => cases e
    | nil =>
      cases e
      exact ⟨he, rfl⟩
  | i :: is, rs, vs, σ, ρ, ρ', he, r, e => by
    cases rs with
    | nil => cases e
    | cons x xs =>
      cases r with
      | cons a b =>
        obtain ⟨h1, h2⟩ := sets_env (he.set a i) b e
        exact ⟨h1, congrArg Nat.succ h2⟩
theorem szs {n : Nat} (h : n ≤ 3) : szOk n = true := Nat.ble_eq.mpr (by omega)
theorem i_par {K : PySem.W.Frag} {C : Call} {is : List Nat} {es : Es} {D : Ends} {σ : L2.St} {H : Hp} (hn : is.length ≤ 3) (h : tS K C W (.par is es) D σ H) :
    tEs K C es σ H fun vs H1 => vs.length = is.length ∧ vs.length ≤ sizeLine ∧ D.nx (setsV σ is vs) H1 ∧ ∀ p, H1 p = none → D.nx (setsV σ is vs) (upd H1 p (.tup vs)) := by
  obtain ⟨ρ, S, F, α, o, he, w, ev, q⟩ := h
  simp only [exS] at ev
  split at ev
  · cases ev
  · rename_i rs s1 h1
    split at ev
    · rename_i ρ' h2
      cases ev
      refine ⟨ρ, S, F, α, rs, s1, he, w, h1, fun vs H1 F1 α1 x1 w1 r1 => ?_⟩
      obtain ⟨k1, k2⟩ := sets_env (he.mono x1) r1 h2
      refine ⟨by rw [r1.length, k2], by rw [r1.length, ← k2]; exact sz_le (szs hn), q _ _ _ _ x1 w1 k1, fun p hp => q _ _ _ _ x1 (w1.more hp) k1⟩
    · cases ev
end
end PC
end
section
/-! PcSndS3: the statements' theorem. -/
namespace PC
open PySem PySem.Spec PyProof.Rows L2
/-- in place -/
def rIp (o : Bop) : TIp := fun x y H Q => ∃ i j z, x = .int i ∧ y = .int j ∧ binI o i j = some z ∧ Q (.int z) H
section
variable {T : Tab} {W k : Nat} {c : Ctx} {X : Cx}
theorem ip_D (o : Bop) (ha : augOk o = true) : PIp X o.py (rIp o) := by
  intro pins s σ H x y v u Q I rx ry ⟨i, j, z, ex, ey, h, q⟩
  subst ex ey
  cases o with
  | add => cases h; exact iop_add pins s σ H _ _ v u Q I rx ry ⟨i, j, rfl, rfl, q⟩
  | sub => cases h; exact iop_sub pins s σ H _ _ v u Q I rx ry ⟨i, j, rfl, rfl, q⟩
  | mul =>
    simp only [binI] at h
    split at h
    · rename_i hs
      cases h
      rw [Bool.or_eq_true] at hs
      exact iop_mul pins s σ H _ _ v u Q I rx ry ⟨i, j, rfl, rfl, hs.imp sm_of sm_of, q⟩
    · cases h
  | div =>
    simp only [binI] at h
    split at h
    · split at h
      · cases h
        rename_i h1 h2
        exact iop_fdiv pins s σ H _ _ v u Q I rx ry ⟨i, j, rfl, rfl, ⟨h1, h2⟩, q⟩
      · cases h
    · split at h
      · split at h
        · cases h
          obtain ⟨t, rfl⟩ := rx
          obtain ⟨t', rfl⟩ := ry
          exact ifloordiv_int (by omega) ⟨.int _, H, I.tok _, ⟨_, rfl⟩, q⟩ (.inl (PyProof.noPylong_small (by omega)))
        · cases h
      · cases h
  | mod =>
    simp only [binI] at h
    split at h
    · cases h
      rename_i h1
      exact iop_mod pins s σ H _ _ v u Q I rx ry ⟨i, j, rfl, rfl, h1, q⟩
    · split at h
      · cases h
        obtain ⟨t, rfl⟩ := rx
        obtain ⟨t', rfl⟩ := ry
        exact imod_int (by omega) ⟨.int _, H, I.tok _, ⟨_, rfl⟩, q⟩
      · cases h
  | pow => cases ha
theorem binD_int {o : Bop} {x y : Int} {z : D} (h : binD o (.int x) (.int y) = some z) : ∃ w, z = .int w ∧ binI o x y = some w := by
  simp only [binD] at h
  cases e : binI o x y with
  | none => rw [e] at h; cases h
  | some w => rw [e] at h; cases h; exact ⟨w, rfl, rfl⟩
theorem SW.has {K : PySem.W.Frag} {F H : Hp} {α : List Addr} {S : Store} (w : SW K H S F α) {n : Nat} {a : Addr} (ha : α[n]? = some a) : ∃ vs, H a = some (.lst vs) := by
  have hl : n < S.length := by rw [← w.len]; exact (List.getElem?_eq_some_iff.mp ha).1
  have := w.cell n a S[n] ha (List.getElem?_eq_getElem hl)
  cases hc : S[n] with
  | lst ds =>
    rw [hc] at this
    obtain ⟨vs, h1, _⟩ := this
    exact ⟨vs, h1⟩
end
end PC
end
section
/-! PcSndS3: the statements' theorem. -/
namespace PC
open PySem PySem.Spec PyProof.Rows L2
section
variable {T : Tab} {W k : Nat} {c : Ctx} {X : Cx}
/-! ### a, b = x, y -/
theorem names_cons {i : Nat} {is : List Nat} {ts : List Expr} (h : chkNames c (i :: is) ts = true) : ∃ x p r, ts = .Name x p :: r ∧ chkG (.name i) c (.Name x p) = true ∧ chkNames c is r = true := by
  cases ts with
  | nil => cases h
  | cons t r =>
    cases t <;> first | (cases h; done) | skip
    rename_i x p
    obtain ⟨h1, h2⟩ := and_split (show (chkG (.name i) c (.Name x p) && chkNames c is r) = true from h)
    exact ⟨x, p, r, rfl, h1, h2⟩
theorem names_nil {ts : List Expr} (h : chkNames c [] ts = true) : ts = [] := by
  cases ts with
  | nil => rfl
  | cons t r => cases h
theorem names_of (ok : XOkS T W k c X) {i : Nat} {x : Str} {p : Pos} (h : chkG (.name i) c (.Name x p) = true) : X.N[i]? = some x := by
  rw [ok.N]
  exact of_decide_eq_true (and_split (show (decide (c.N[i]? = some x) && locB c x) = true from h)).1
theorem names_loc (ok : XOkS T W k c X) {x : Str} (h : localB c x = true) : X.env.scope.names.lookup x = some .local := by
  rw [ok.sc]
  exact eq_of_beq h
theorem ss_no (ok : XOkS T W k c X) {es : Es} {ts vs : List Expr} {n1 n2 : Nat} {p1 p2 : Pos} (h1 : chkEs T es c vs = true) (hlen : vs.length = ts.length) (hl : (ts.length == 2 || ts.length == 3) = true) (hn : nswB c.sc ts vs = true) :
    swappedStores [.Tuple ts n1 p1] (.Tuple vs n2 p2) X.env = pure none := by
  rw [ss_gen ok hl hlen (no_star h1)]
  unfold nswB at hn
  rw [Bool.or_eq_true] at hn
  split
  · rfl
  · rename_i z
    rw [if_pos (hn.resolve_left z)]
theorem ss_yes (ok : XOkS T W k c X) {es : Es} {ts vs : List Expr} {n1 n2 : Nat} {p1 p2 : Pos} {ns : List Str} (h1 : chkEs T es c vs = true) (hlen : vs.length = ts.length) (hl : (ts.length == 2 || ts.length == 3) = true) (hn : yswB c.sc ts vs ns = true) :
    swappedStores [.Tuple ts n1 p1] (.Tuple vs n2 p2) X.env = pure (some ns) := by
  rw [ss_gen ok hl hlen (no_star h1)]
  unfold yswB at hn
  rw [Bool.and_eq_true, Bool.and_eq_true, Bool.and_eq_true] at hn
  obtain ⟨k1, k2, k3, k4⟩ := hn
  rw [if_neg (by simpa using k1), if_neg (by simpa using k2), if_neg (by simpa using k3), of_decide_eq_true k4]
theorem ps_parP (ok : XOkS T W k c X) {is : List Nat} {es : Es} {ts vs : List Expr} {n1 n2 : Nat} {p1 p2 pos : Pos} (h1 : chkEs T es c vs = true) (h2 : chkNames c is ts = true) (h3 : is.length ≤ 3) (hss : swappedStores [.Tuple ts n1 p1] (.Tuple vs n2 p2) X.env = pure none) :
    PS X (.Assign [.Tuple ts n1 p1] (.Tuple vs n2 p2) pos) (tS X.K (callD T.defs W k) W (.par is es)) := by
  obtain ⟨g1, g2, g3, g4⟩ := sndNs ok.toXOk is ts h2
  have hsw : swapsWithSole [.Tuple ts n1 p1] (.Tuple vs n2 p2) pos.line X.env = pure false := rfl
  refine PS.imp (ps_asg (pe_tup (sndEs es c vs h1 X ok.toXOk)) (pg_tup ok.calm g1 rfl g3) hsw hss rfl) fun D σ H q => ?_
  obtain ⟨ρ, S, F, α, rs, S', he, w, ev, q⟩ := i_par (K := X.K) h3 q
  refine ⟨ρ, S, F, α, rs, S', he, w, ev, fun us H1 F1 α1 x1 w1 r1 => ?_⟩
  obtain ⟨q1, q2, _, q3⟩ := q us H1 F1 α1 x1 w1 r1
  refine ⟨q2, fun p hp => ⟨p, us, rfl, SqT.of upd_same, ?_, q1, q3 p hp⟩⟩
  rw [q1, g2, g4]
theorem ps_par2R (ok : XOkS T W k c X) {i j : Nat} {es : Es} {ts vs : List Expr} {n1 n2 : Nat} {p1 p2 pos : Pos} (h1 : chkEs T es c vs = true) (h2 : chkNames c [i, j] ts = true) (h : parOk c [i, j] ts vs = true) :
    PS X (.Assign [.Tuple ts n1 p1] (.Tuple vs n2 p2) pos) (tS X.K (callD T.defs W k) W (.par [i, j] es)) := by
  obtain ⟨k1, h⟩ := and_split h
  obtain ⟨_, h⟩ := and_split h
  have hlen : vs.length = ts.length := of_decide_eq_true k1
  obtain ⟨x, px, r1, rfl, m1, h3⟩ := names_cons h2
  obtain ⟨y, py, r2, rfl, m2, h4⟩ := names_cons h3
  obtain rfl := names_nil h4
  rcases Bool.or_eq_true_iff.mp h with h | h
  · exact ps_parP ok h1 h2 (Nat.le_of_ble_eq_true rfl) (ss_no ok h1 hlen rfl h)
  · obtain ⟨k2, h⟩ := and_split h
    obtain ⟨k3, h⟩ := and_split h
    obtain ⟨l1, h⟩ := and_split (show (localB c x && (localB c y && true)) = true from h)
    obtain ⟨l2, _⟩ := and_split h
    have hnd : [i, j].Nodup := of_decide_eq_true k3
    have hij : i ≠ j := by simpa using hnd
    cases vs with
    | nil => cases hlen
    | cons a vs =>
      cases vs with
      | nil => cases hlen
      | cons b vs =>
        cases vs with
        | cons _ _ => cases hlen
        | nil =>
          refine PS.imp (ps_par ok.calm (by rw [ok.N]; exact ok.nd) (names_of ok m1) (names_of ok m2) hij (names_loc ok l1) (names_loc ok l2) (sndEs es c _ h1 X ok.toXOk) (ss_yes ok h1 hlen rfl k2) rfl) fun D σ H q => ?_
          obtain ⟨ρ, S, F, α, rs, S', he, w, ev, q⟩ := i_par (K := X.K) (show [i, j].length ≤ 3 from Nat.le_of_ble_eq_true rfl) q
          refine ⟨ρ, S, F, α, rs, S', he, w, ev, fun us H1 F1 α1 x1 w1 r1 => ?_⟩
          obtain ⟨q1, _, q2, _⟩ := q us H1 F1 α1 x1 w1 r1
          match us, q1, q2 with
          | [u, v], _, q2 => exact ⟨u, v, rfl, q2⟩
theorem ps_par3R (ok : XOkS T W k c X) {i j l : Nat} {es : Es} {ts vs : List Expr} {n1 n2 : Nat} {p1 p2 pos : Pos} (h1 : chkEs T es c vs = true) (h2 : chkNames c [i, j, l] ts = true) (h : parOk c [i, j, l] ts vs = true) :
    PS X (.Assign [.Tuple ts n1 p1] (.Tuple vs n2 p2) pos) (tS X.K (callD T.defs W k) W (.par [i, j, l] es)) := by
  obtain ⟨k1, h⟩ := and_split h
  obtain ⟨_, h⟩ := and_split h
  have hlen : vs.length = ts.length := of_decide_eq_true k1
  obtain ⟨x, px, r1, rfl, m1, h3⟩ := names_cons h2
  obtain ⟨y, py, r2, rfl, m2, h4⟩ := names_cons h3
  obtain ⟨z, pz, r3, rfl, m3, h5⟩ := names_cons h4
  obtain rfl := names_nil h5
  rcases Bool.or_eq_true_iff.mp h with h | h
  · exact ps_parP ok h1 h2 (Nat.le_of_ble_eq_true rfl) (ss_no ok h1 hlen rfl h)
  · obtain ⟨k2, h⟩ := and_split h
    obtain ⟨k3, h⟩ := and_split h
    obtain ⟨l1, h⟩ := and_split (show (localB c x && (localB c y && (localB c z && true))) = true from h)
    obtain ⟨l2, h⟩ := and_split h
    obtain ⟨l3, _⟩ := and_split h
    have hnd : [i, j, l].Nodup := of_decide_eq_true k3
    have hd : (i ≠ j ∧ i ≠ l) ∧ j ≠ l := by simpa using hnd
    cases vs with
    | nil => cases hlen
    | cons a vs =>
      cases vs with
      | nil => cases hlen
      | cons b vs =>
        cases vs with
        | nil => cases hlen
        | cons d vs =>
          cases vs with
          | cons _ _ => cases hlen
          | nil =>
            refine PS.imp (ps_par3 ok.calm (by rw [ok.N]; exact ok.nd) (names_of ok m1) (names_of ok m2) (names_of ok m3) hd.1.1 hd.1.2 hd.2 (names_loc ok l1) (names_loc ok l2) (names_loc ok l3) (sndEs es c _ h1 X ok.toXOk) (ss_yes ok h1 hlen rfl k2) rfl) fun D σ H q => ?_
            obtain ⟨ρ, S, F, α, rs, S', he, w, ev, q⟩ := i_par (K := X.K) (show [i, j, l].length ≤ 3 from Nat.le_of_ble_eq_true rfl) q
            refine ⟨ρ, S, F, α, rs, S', he, w, ev, fun us H1 F1 α1 x1 w1 r1 => ?_⟩
            obtain ⟨q1, _, q2, _⟩ := q us H1 F1 α1 x1 w1 r1
            match us, q1, q2 with
            | [u, v, t], _, q2 => exact ⟨u, v, t, rfl, q2⟩
theorem ps_parR (ok : XOkS T W k c X) {is : List Nat} {es : Es} {ts vs : List Expr} {n1 n2 : Nat} {p1 p2 pos : Pos} (h1 : chkEs T es c vs = true) (h2 : chkNames c is ts = true) (h : parOk c is ts vs = true) :
    PS X (.Assign [.Tuple ts n1 p1] (.Tuple vs n2 p2) pos) (tS X.K (callD T.defs W k) W (.par is es)) := by
  have hl : (is.length == 2 || is.length == 3) = true := (and_split (and_split h).2).1
  cases is with
  | nil => cases hl
  | cons i is =>
    cases is with
    | nil => cases hl
    | cons j is =>
      cases is with
      | nil => exact ps_par2R ok h1 h2 h
      | cons l is =>
        cases is with
        | nil => exact ps_par3R ok h1 h2 h
        | cons _ _ =>
          rw [Bool.or_eq_true, beq_iff_eq, beq_iff_eq] at hl
          simp only [List.length_cons] at hl
          omega
end
end PC
end
section
/-! PcSndS3: the statements' theorem. -/
namespace PC
open PySem PySem.Spec PyProof.Rows L2
section
variable {T : Tab} {W k : Nat} {c : Ctx} {X : Cx}
/-! ### the rest -/
variable {K : PySem.W.Frag} {C : Call} {D : Ends} {σ : L2.St} {H : Hp}
theorem i_aug {i : Nat} {o : Bop} {e : E} (h : tS K C W (.aug i o e) D σ H) : tAug i (tE K C e) (rIp o) D σ H := by
  obtain ⟨ρ, S, F, α, out, he, w, ev, q⟩ := h
  simp only [exS] at ev
  split at ev
  · rename_i r h1
    split at ev
    · cases ev
    · rename_i re s1 h2
      split at ev
      · rename_i x y
        split at ev
        · rename_i z h3
          cases ev
          obtain ⟨z, rfl, h4⟩ := binD_int h3
          obtain ⟨v, hv, rv⟩ := he.at_ i _ h1
          refine ⟨v, hv, ρ, S, F, α, _, s1, he, w, h2, fun u H1 F1 α1 x1 w1 r1 => ⟨x, y, z, rep_int rv, rep_int r1, h4, ?_⟩⟩
          exact q _ _ _ _ x1 w1 ((he.mono x1).set (show RepR K F1 α1 (.int z) (.d (.int z)) from .int z) i)
        · cases ev
      · cases ev
  · cases ev
theorem i_seti {a b e : E} (h : tS K C W (.seti a b e) D σ H) : tAsg (tE K C e) (gSub (tE K C a) (tE K C b) rSetL) D σ H := by
  obtain ⟨ρ, S, F, α, out, he, w, ev, q⟩ := h
  simp only [exS] at ev
  split at ev
  · rename_i x s1 h1
    split at ev
    · rename_i n s2 h2
      split at ev
      · rename_i i s3 h3
        split at ev
        · rename_i xs h4
          split at ev
          · rename_i j h5
            cases ev
            refine ⟨ρ, S, F, α, _, s1, he, w, h1, fun v H1 F1 α1 x1 w1 r1 => ⟨ρ, s1, F1, α1, _, s2, he.mono x1, w1, h2, fun u H2 F2 α2 x2 w2 r2 => ⟨ρ, s2, F2, α2, _, s3, he.mono (x1.trans x2), w2, h3, fun t H3 F3 α3 x3 w3 r3 => ?_⟩⟩⟩
            obtain ⟨p, rfl, hp⟩ := r2
            have hp3 := pre_get x3.pre hp
            obtain ⟨vs, hH, hr⟩ := w3.at_ hp3 h4
            have rv : Rep K F3 v x := (r1.mono (x2.trans x3) : RepR K F3 α3 v (.d x))
            refine ⟨p, vs, i, j, rfl, rep_int r3, hH, by rw [hr.length]; exact h5, ?_⟩
            exact q σ _ F3 α3 (x1.trans (x2.trans x3)) (w3.wrote hp3 (hr.set rv j)) (he.mono (x1.trans (x2.trans x3)))
          · cases ev
        · cases ev
      · cases ev
    · cases ev
  · cases ev
theorem i_augi {a b e : E} {o : Bop} (h : tS K C W (.augi a b o e) D σ H) : tAugS (tE K C a) (tE K C b) (tE K C e) (rIxL K) (rIp o) rSetL D σ H := by
  obtain ⟨ρ, S, F, α, out, he, w, ev, q⟩ := h
  simp only [exS] at ev
  split at ev
  · rename_i n s1 h1
    split at ev
    · rename_i i s2 h2
      split at ev
      · rename_i xs h3
        split at ev
        · rename_i x h4
          split at ev
          · rename_i y s3 h5
            split at ev
            · rename_i z h6
              split at ev
              · rename_i ys h7
                split at ev
                · rename_i j h8
                  cases ev
                  obtain ⟨z, rfl, h9⟩ := binD_int h6
                  refine ⟨ρ, S, F, α, _, s1, he, w, h1, fun v H1 F1 α1 x1 w1 r1 => ⟨ρ, s1, F1, α1, _, s2, he.mono x1, w1, h2, fun u H2 F2 α2 x2 w2 r2 => ?_⟩⟩
                  obtain ⟨p, rfl, hp⟩ := r1
                  have hp2 := pre_get x2.pre hp
                  obtain ⟨vs, hH, hr⟩ := w2.at_ hp2 h3
                  obtain ⟨vx, e1, e2⟩ := atI_rep hr h4
                  refine ⟨p, vs, i, vx, rfl, rep_int r2, SqL.of hH, e1, ρ, s2, F2, α2, _, s3, he.mono (x1.trans x2), w2, h5, fun t H3 F3 α3 x3 w3 r3 => ⟨x, y, z, rep_int (α := α3) e2, rep_int r3, h9, ?_⟩⟩
                  have hp3 := pre_get x3.pre hp2
                  obtain ⟨us, hH3, hr3⟩ := w3.at_ hp3 h7
                  refine ⟨p, us, i, j, rfl, rep_int r2, hH3, by rw [hr3.length]; exact h8, ?_⟩
                  exact q σ _ F3 α3 (x1.trans (x2.trans x3)) (w3.wrote hp3 (hr3.set (.int z) j)) (he.mono (x1.trans (x2.trans x3)))
                · cases ev
              · cases ev
            · cases ev
          · cases ev
        · cases ev
      · cases ev
    · cases ev
  · cases ev
theorem i_if {d : E} {t f : Ss} (h : tS K C W (.if_ d t f) D σ H) : tIfS (tT K C d) (tSs K C W t) (tSs K C W f) D σ H := by
  obtain ⟨ρ, S, F, α, out, he, w, ev, q⟩ := h
  simp only [exS] at ev
  split at ev
  · rename_i s1 h1
    refine ⟨ρ, S, F, α, true, s1, he, w, h1, fun H1 F1 α1 x1 w1 => ?_⟩
    refine Eq.mpr (if_pos rfl) ?_
    exact ⟨ρ, s1, F1, α1, out, he.mono x1, w1, ev, q.mono x1⟩
  · rename_i s1 h1
    refine ⟨ρ, S, F, α, false, s1, he, w, h1, fun H1 F1 α1 x1 w1 => ?_⟩
    refine Eq.mpr (if_neg Bool.false_ne_true) ?_
    exact ⟨ρ, s1, F1, α1, out, he.mono x1, w1, ev, q.mono x1⟩
  · cases ev
theorem i_whl {d : E} {b : Ss} (h : tS K C W (.whl d b) D σ H) : tWhile (tT K C d) (tSs K C W b) D σ H := by
  obtain ⟨ρ, S, F, α, out, he, w, ev, q⟩ := h
  simp only [exS] at ev
  generalize ht : (fun ρ s => (match evE C d ρ s with
      | some (.d (.bool t), s1) => some (t, s1)
      | _ => none : Option (Bool × Store))) = tst at ev
  refine ⟨fun m σ H => ∃ ρ S F α, EnvOk K F α σ ρ ∧ SW K H S F α ∧ whlN tst (fun ρ s => exSs C W b ρ s) m ρ S = some out ∧ PostS K F α D out, ⟨W, ρ, S, F, α, he, w, ev, q⟩, ?_⟩
  rintro m σ H ⟨ρ, S, F, α, he, w, ev, q⟩
  cases m with
  | zero => cases ev
  | succ m =>
    unfold whlN at ev
    subst ht
    simp only at ev
    split at ev
    · cases ev
    · rename_i s1 h1
      cases ev
      split at h1
      · rename_i t s2 h2
        cases h1
        refine ⟨ρ, S, F, α, _, _, he, w, h2, fun H1 F1 α1 x1 w1 => ?_⟩
        refine Eq.mpr (if_neg Bool.false_ne_true) ?_
        exact q σ H1 F1 α1 x1 w1 (he.mono x1)
      · cases h1
    · rename_i s1 h1
      split at h1
      · rename_i t s2 h2
        cases h1
        refine ⟨ρ, S, F, α, _, _, he, w, h2, fun H1 F1 α1 x1 w1 => ?_⟩
        refine Eq.mpr (if_pos rfl) ?_
        refine ⟨_, fun σ' H' hh => ⟨m, Nat.lt_succ_self m, hh⟩, ?_⟩
        cases hb : exSs C W b ρ s1 with
        | none => rw [hb] at ev; cases ev
        | some o2 =>
          rw [hb] at ev
          refine ⟨ρ, s1, F1, α1, o2, he.mono x1, w1, hb, ?_⟩
          cases o2 with
          | nx ρ' s' => exact fun σ' H' F' α' x' w' he' => ⟨ρ', s', F', α', he', w', ev, q.mono (x1.trans x')⟩
          | rt r s' =>
            cases (Option.some.inj ev : Out.rt r s' = out)
            exact q.mono x1
      · cases h1
theorem i_for {g : G} {it : It} {b : Ss} (h : tS K C W (.for_ g it b) D σ H) : tFor (tIt K C it) (tG K g) (tSs K C W b) D σ H := by
  obtain ⟨ρ, S, F, α, out, he, w, ev, q⟩ := h
  simp only [exS] at ev
  split at ev
  · cases ev
  · rename_i J s1 h1
    generalize ht : (fun x ρ s => (match asgG g (.d x) ρ with
        | none => none
        | some ρ' => exSs C W b ρ' s : Option Out)) = step at ev
    refine ⟨ρ, S, F, α, J, s1, he, w, h1, fun H1 F1 α1 Jt x1 w1 iok => ?_⟩
    refine ⟨fun i m σ H => ∃ ρ S F α, Ext F1 α1 F α ∧ EnvOk K F α σ ρ ∧ SW K H S F α ∧ i + m = J.n ∧ forN J step m i ρ S = some out ∧ PostS K F α D out, ⟨J.n, ρ, s1, F1, α1, Ext.refl, he.mono x1, w1, by omega, ev, q.mono x1⟩, ?_⟩
    rintro i m σ H ⟨ρ, S, F, α, x, he, w, hm, ev, q⟩
    cases m with
    | zero =>
      unfold forN at ev
      split at ev
      · rename_i hf
        cases ev
        have e0 : i = J.n := by omega
        subst e0
        exact .inl ⟨iok.fin H S F α x w hf, q σ H F α Ext.refl w he⟩
      · cases ev
    | succ m =>
      unfold forN at ev
      split at ev
      · cases ev
      · rename_i y hy
        obtain ⟨hgo, hyl⟩ := iok.go i H S F α y x w (by omega) hy
        refine .inr ⟨hgo, _, fun σ' H' hh => ⟨m, Nat.lt_succ_self m, hh⟩, fun v H' hv => ?_⟩
        obtain ⟨F2, x2, w2, r2⟩ := hyl v H' hv
        subst ht
        simp only at ev
        cases hg : asgG g (.d y) ρ with
        | none => rw [hg] at ev; cases ev
        | some ρ' =>
          rw [hg] at ev
          refine ⟨F2, α, S, ρ, .d y, ρ', he.mono x2, w2, r2, hg, fun σ2 he2 _ => ?_⟩
          cases hb : exSs C W b ρ' S with
          | none => simp only [hb] at ev; cases ev
          | some o2 =>
            simp only [hb] at ev
            refine ⟨ρ', S, F2, α, o2, he2, w2, hb, ?_⟩
            cases o2 with
            | nx ρ3 s3 => exact fun σ' H' F' α' x' w' he' => ⟨ρ3, s3, F', α', x.trans (x2.trans x'), he', w', by omega, ev, q.mono (x2.trans x')⟩
            | rt r s3 =>
              cases (Option.some.inj ev : Out.rt r s3 = out)
              exact q.mono x2
theorem i_ret {e : E} (h : tS K C W (.ret e) D σ H) : tRet (tE K C e) D σ H := by
  obtain ⟨ρ, S, F, α, out, he, w, ev, q⟩ := h
  simp only [exS] at ev
  split at ev
  · cases ev
  · rename_i r s1 h1
    cases ev
    exact ⟨ρ, S, F, α, r, s1, he, w, h1, q⟩
theorem i_app {a e : E} (h : tS K C W (.app a e) D σ H) : tDrop (tBM K "list" rAppend (tE K C a) (tCons (tE K C e) tNil)) D σ H := by
  obtain ⟨ρ, S, F, α, out, he, w, ev, q⟩ := h
  simp only [exS] at ev
  split at ev
  · rename_i n s1 h1
    split at ev
    · rename_i x s2 h2
      split at ev
      · rename_i xs h3
        split at ev
        · rename_i hz
          cases ev
          refine ⟨ρ, S, F, α, _, s1, he, w, h1, fun v H1 F1 α1 x1 w1 r1 => ?_⟩
          obtain ⟨p, rfl, hp⟩ := r1
          obtain ⟨vs0, hH0⟩ := w1.has hp
          refine ⟨.inl ⟨rfl, vs0, SqL.of hH0⟩, ρ, s1, F1, α1, _, s2, he.mono x1, w1, h2, fun u H2 F2 α2 x2 w2 r2 => ?_⟩
          have hp2 := pre_get x2.pre hp
          obtain ⟨vs, hH, hr⟩ := w2.at_ hp2 h3
          refine ⟨p, vs, u, rfl, rfl, hH, by rw [hr.length]; exact sz_lt hz, ?_⟩
          exact q σ _ F2 α2 (x1.trans x2) (w2.wrote hp2 (hr.append (.cons r2 .nil))) (he.mono (x1.trans x2))
        · cases ev
      · cases ev
    · cases ev
  · cases ev
theorem i_ext {a e : E} (h : tS K C W (.ext a e) D σ H) : tDrop (tBM K "list" rExtend (tE K C a) (tCons (tE K C e) tNil)) D σ H := by
  obtain ⟨ρ, S, F, α, out, he, w, ev, q⟩ := h
  simp only [exS] at ev
  split at ev
  · rename_i n s1 h1
    split at ev
    · rename_i ys s2 h2
      split at ev
      · rename_i xs h3
        split at ev
        · rename_i hz
          cases ev
          refine ⟨ρ, S, F, α, _, s1, he, w, h1, fun v H1 F1 α1 x1 w1 r1 => ?_⟩
          obtain ⟨p, rfl, hp⟩ := r1
          obtain ⟨vs0, hH0⟩ := w1.has hp
          refine ⟨.inl ⟨rfl, vs0, SqL.of hH0⟩, ρ, s1, F1, α1, _, s2, he.mono x1, w1, h2, fun u H2 F2 α2 x2 w2 r2 => ?_⟩
          have hp2 := pre_get x2.pre hp
          obtain ⟨vs, hH, hr⟩ := w2.at_ hp2 h3
          cases (show Rep K F2 u (.list ys) from r2) with
          | lst hb rb =>
            refine ⟨p, _, vs, _, rfl, rfl, hH, w2.sub _ _ hb, by rw [hr.length, rb.length]; exact sz_le hz, ?_⟩
            exact q σ _ F2 α2 (x1.trans x2) (w2.wrote hp2 (hr.append rb)) (he.mono (x1.trans x2))
        · cases ev
      · cases ev
    · cases ev
  · cases ev
theorem i_pop {a : E} (h : tS K C W (.pop a) D σ H) : tDrop (tBM0 K "list" rPop (tE K C a)) D σ H := by
  obtain ⟨ρ, S, F, α, out, he, w, ev, q⟩ := h
  simp only [exS] at ev
  split at ev
  · rename_i n s1 h1
    split at ev
    · rename_i xs h3
      split at ev
      · rename_i y hy
        cases ev
        refine ⟨ρ, S, F, α, _, s1, he, w, h1, fun v H1 F1 α1 x1 w1 r1 => ?_⟩
        obtain ⟨p, rfl, hp⟩ := r1
        obtain ⟨vs, hH, hr⟩ := w1.at_ hp h3
        obtain ⟨vy, e1, e2⟩ := hr.get hy
        refine ⟨.inl ⟨rfl, vs, SqL.of hH⟩, p, vs, vy, rfl, rfl, hH, by rw [hr.length]; exact e1, ?_⟩
        exact q σ _ F1 α1 x1 (w1.wrote hp hr.dropLast) (he.mono x1)
      · cases ev
    · cases ev
  · cases ev
theorem i_seq {st : S} {r : Ss} (h : tSs K C W (.cons st r) D σ H) : tSeq (tS K C W st) (tSs K C W r) D σ H := by
  obtain ⟨ρ, S, F, α, out, he, w, ev, q⟩ := h
  simp only [exSs] at ev
  cases h1 : exS C W st ρ S with
  | none => rw [h1] at ev; cases ev
  | some o1 =>
    rw [h1] at ev
    refine ⟨ρ, S, F, α, o1, he, w, h1, ?_⟩
    cases o1 with
    | nx ρ' s' => exact fun σ' H' F' α' x' w' he' => ⟨ρ', s', F', α', out, he', w', ev, q.mono x'⟩
    | rt v s' =>
      cases (Option.some.inj ev : Out.rt v s' = out)
      exact q
end
end PC
end
section
/-! PcSndS3: the statements' theorem. -/
namespace PC
open PySem PySem.Spec PyProof.Rows L2
theorem mt_few {t : Expr} (h : plainE t = true) (cpos : Pos) (env : PySem.Env) : ((backTo cpos (starEach [t] env)).all (fun x => !x.1) && (backToKw cpos (keywordEach [] env)).all (fun x => x.1.isSome)
      && decide (([t] : List Expr).length + ([] : List Keyword).length + (if ([] : List Keyword).isEmpty then 0 else 1) < 30)) = true := by
  rw [star_of h]
  rfl
theorem snd_asg {T : Tab} {W k : Nat} (g : G) (e : E) (c : Ctx) (t : Stmt) (h : chkS T (.asg g e) c t = true) (X : Cx) (ok : XOkS T W k c X) : PS X t (tS X.K (callD T.defs W k) W (.asg g e)) := by
    cases t <;> first | (cases h; done) | skip
    rename_i tgs v pos
    match tgs, h with
    | [tg], h =>
      obtain ⟨h1, h⟩ := and_split (show (chkE T e c v && (chkG g c tg && (!(isTupE tg && isTupE v)))) = true from h)
      obtain ⟨h2, h3⟩ := and_split h
      exact ps_asgn ok h1 h2 (by rw [Bool.not_eq_true'] at h3; exact h3)

theorem snd_thaw {T : Tab} {W k : Nat} (i : Nat) (e : E) (c : Ctx) (t : Stmt) (h : chkS T (.thaw i e) c t = true) (X : Cx) (ok : XOkS T W k c X) : PS X t (tS X.K (callD T.defs W k) W (.thaw i e)) := by
    cases t <;> first | (cases h; done) | skip
    rename_i tgs v pos
    match tgs, h with
    | [.Name x p], h =>
      obtain ⟨h1, h⟩ := and_split (show (fresh T e && (chkE T e c v && chkG (.name i) c (.Name x p))) = true from h)
      obtain ⟨h2, h3⟩ := and_split h
      exact ps_thaw ok h1 h2 h3

theorem snd_par {T : Tab} {W k : Nat} (is : List Nat) (es : Es) (c : Ctx) (t : Stmt) (h : chkS T (.par is es) c t = true) (X : Cx) (ok : XOkS T W k c X) : PS X t (tS X.K (callD T.defs W k) W (.par is es)) := by
    cases t <;> first | (cases h; done) | skip
    rename_i tgs v pos
    cases tgs with
    | nil => cases h
    | cons tg r =>
      cases r with
      | cons _ _ => cases tg <;> cases h
      | nil =>
        cases tg <;> first | (cases h; done) | skip
        cases v <;> first | (cases h; done) | skip
        rename_i ts n1 p1 vs n2 p2
        obtain ⟨h1, h⟩ := and_split (show (chkEs T es c vs && (chkNames c is ts && parOk c is ts vs)) = true from h)
        obtain ⟨h2, h3⟩ := and_split h
        exact ps_parR ok h1 h2 h3

theorem snd_aug {T : Tab} {W k : Nat} (i : Nat) (o : Bop) (e : E) (c : Ctx) (t : Stmt) (h : chkS T (.aug i o e) c t = true) (X : Cx) (ok : XOkS T W k c X) : PS X t (tS X.K (callD T.defs W k) W (.aug i o e)) := by
    cases t <;> first | (cases h; done) | skip
    rename_i tg op v pos
    cases tg <;> first | (cases h; done) | skip
    rename_i x p
    obtain ⟨h1, h⟩ := and_split (show (bopB o op && (augOk o && (chkE T e c v && (chkG (.name i) c (.Name x p) && visB c x)))) = true from h)
    obtain ⟨h2, h⟩ := and_split h
    obtain ⟨h3, h⟩ := and_split h
    obtain ⟨h4, h5⟩ := and_split h
    obtain ⟨g1, g2⟩ := and_split (show (decide (c.N[i]? = some x) && locB c x) = true from h4)
    obtain ⟨hl, hf⟩ := ok.loc g2
    rw [bopB_eq h1]
    exact PS.imp (ps_aug (by rw [ok.N]; exact ok.nd) (by rw [ok.N]; exact of_decide_eq_true g1) hl (sndE e c v h3 X ok.toXOk) (ip_D o h2) hf) fun D σ H => i_aug

theorem snd_seti {T : Tab} {W k : Nat} (a b e : E) (c : Ctx) (t : Stmt) (h : chkS T (.seti a b e) c t = true) (X : Cx) (ok : XOkS T W k c X) : PS X t (tS X.K (callD T.defs W k) W (.seti a b e)) := by
    cases t <;> first | (cases h; done) | skip
    rename_i tgs v pos
    match tgs, h with
    | [.Subscript x y p], h =>
      obtain ⟨h1, h⟩ := and_split (show (chkE T e c v && (chkE T a c x && chkE T b c y)) = true from h)
      obtain ⟨h2, h3⟩ := and_split h
      refine PS.imp (ps_asg (sndE e c v h1 X ok.toXOk) (pg_sub (sndE a c x h2 X ok.toXOk) (sndE b c y h3 X ok.toXOk) set_list ?_) (Eq.trans (b := swapsWith v (some (.Subscript x y p)) pos.line X.env) rfl (sw_sub v (chk_plain h1) _ _)) (ss_sub _ _) rfl) fun D σ H => i_seti
      intro u
      have := chk_plain h3
      cases y <;> first | rfl | (cases this; done)

theorem snd_augi {T : Tab} {W k : Nat} (a b : E) (o : Bop) (e : E) (c : Ctx) (t : Stmt) (h : chkS T (.augi a b o e) c t = true) (X : Cx) (ok : XOkS T W k c X) : PS X t (tS X.K (callD T.defs W k) W (.augi a b o e)) := by
    cases t <;> first | (cases h; done) | skip
    rename_i tg op v pos
    cases tg <;> first | (cases h; done) | skip
    rename_i x y p
    obtain ⟨h1, h⟩ := and_split (show (bopB o op && (augOk o && (chkE T e c v && (chkE T a c x && chkE T b c y)))) = true from h)
    obtain ⟨h2, h⟩ := and_split h
    obtain ⟨h3, h⟩ := and_split h
    obtain ⟨h4, h5⟩ := and_split h
    rw [bopB_eq h1]
    refine PS.imp (ps_augS (sndE a c x h4 X ok.toXOk) (sndE b c y h5 X ok.toXOk) get_list (sndE e c v h3 X ok.toXOk) (ip_D o h2) set_list ?_) fun D σ H => i_augi
    intro u1 u2 u3
    have := chk_plain h5
    cases y <;> first | rfl | (cases this; done)

theorem snd_ret {T : Tab} {W k : Nat} (e : E) (c : Ctx) (st : Stmt) (h : chkS T (.ret e) c st = true) (X : Cx) (ok : XOkS T W k c X) : PS X st (tS X.K (callD T.defs W k) W (.ret e)) := by
    cases st <;> first | (cases h; done) | skip
    rename_i v pos
    cases v with
    | none => cases h
    | some v => exact PS.imp (ps_ret (sndE e c v h X ok.toXOk)) fun D σ H => i_ret

theorem snd_app {T : Tab} {W k : Nat} (a e : E) (c : Ctx) (st : Stmt) (h : chkS T (.app a e) c st = true) (X : Cx) (ok : XOkS T W k c X) : PS X st (tS X.K (callD T.defs W k) W (.app a e)) := by
    cases st <;> first | (cases h; done) | skip
    rename_i v pos
    match v, h with
    | .Call (.Attribute (.Name x p) m apos) [t] [] cpos, h =>
      obtain ⟨h1, h⟩ := and_split (show (decide (m = ("append" : Str)) && ((apos.endLine == cpos.line) && (chkE T a c (.Name x p) && chkE T e c t))) = true from h)
      obtain ⟨h2, h⟩ := and_split h
      obtain ⟨h3, h4⟩ := and_split h
      have e1 := of_decide_eq_true h1
      subst e1
      exact PS.imp (ps_expr (pe_bm PySem.F.plainAttrs_list PySem.F.slot_list_append PySem.F.type_list_append mt_append (sndE a c _ h3 X ok.toXOk) (pa_cons (sndE e c t h4 X ok.toXOk) pa_nil (star_of (chk_plain h4) _ _)) rfl (mt_few (chk_plain h4) _ _) h2 (star_of (chk_plain h4) _ _) rfl) rfl) fun D σ H => i_app

theorem snd_ext {T : Tab} {W k : Nat} (a e : E) (c : Ctx) (st : Stmt) (h : chkS T (.ext a e) c st = true) (X : Cx) (ok : XOkS T W k c X) : PS X st (tS X.K (callD T.defs W k) W (.ext a e)) := by
    cases st <;> first | (cases h; done) | skip
    rename_i v pos
    match v, h with
    | .Call (.Attribute (.Name x p) m apos) [t] [] cpos, h =>
      obtain ⟨h1, h⟩ := and_split (show (decide (m = ("extend" : Str)) && ((apos.endLine == cpos.line) && (chkE T a c (.Name x p) && chkE T e c t))) = true from h)
      obtain ⟨h2, h⟩ := and_split h
      obtain ⟨h3, h4⟩ := and_split h
      have e1 := of_decide_eq_true h1
      subst e1
      exact PS.imp (ps_expr (pe_bm PySem.F.plainAttrs_list PySem.F.slot_list_extend PySem.F.type_list_extend mt_extend (sndE a c _ h3 X ok.toXOk) (pa_cons (sndE e c t h4 X ok.toXOk) pa_nil (star_of (chk_plain h4) _ _)) rfl (mt_few (chk_plain h4) _ _) h2 (star_of (chk_plain h4) _ _) rfl) rfl) fun D σ H => i_ext

theorem snd_pop {T : Tab} {W k : Nat} (a : E) (c : Ctx) (st : Stmt) (h : chkS T (.pop a) c st = true) (X : Cx) (ok : XOkS T W k c X) : PS X st (tS X.K (callD T.defs W k) W (.pop a)) := by
    cases st <;> first | (cases h; done) | skip
    rename_i v pos
    match v, h with
    | .Call (.Attribute (.Name x p) m apos) [] [] cpos, h =>
      obtain ⟨h1, h⟩ := and_split (show (decide (m = ("pop" : Str)) && ((apos.endLine == cpos.line) && chkE T a c (.Name x p))) = true from h)
      obtain ⟨h2, h3⟩ := and_split h
      have e1 := of_decide_eq_true h1
      subst e1
      exact PS.imp (ps_expr (pe_bm0 PySem.F.plainAttrs_list PySem.F.slot_list_pop PySem.F.type_list_pop mt_pop (sndE a c _ h3 X ok.toXOk) rfl h2) rfl) fun D σ H => i_pop

theorem snd_pass {T : Tab} {W k : Nat}  (c : Ctx) (st : Stmt) (h : chkS T (.pass) c st = true) (X : Cx) (ok : XOkS T W k c X) : PS X st (tS X.K (callD T.defs W k) W (.pass)) := by
    cases st <;> first | (cases h; done) | skip
    exact PS.imp ps_pass fun D σ H ⟨ρ, S, F, α, o, he, w, ev, q⟩ => by
      cases ev
      exact q σ H F α Ext.refl w he

theorem snd_dead {T : Tab} {W k : Nat}  (c : Ctx) (st : Stmt) (h : chkS T (.dead) c st = true) (X : Cx) (ok : XOkS T W k c X) : PS X st (tS X.K (callD T.defs W k) W (.dead)) :=  PS.imp ps_never fun D σ H ⟨ρ, S, F, α, o, he, w, ev, q⟩ => by cases ev


theorem snd_if {T : Tab} {W k : Nat} (d : E) (t f : Ss) (c : Ctx) (st : Stmt) (h : chkS T (.if_ d t f) c st = true) (X : Cx) (ok : XOkS T W k c X)
    (ht : ∀ l, chkSs T t c l = true → PSs X l (tSs X.K (callD T.defs W k) W t)) (hf : ∀ l, chkSs T f c l = true → PSs X l (tSs X.K (callD T.defs W k) W f)) : PS X st (tS X.K (callD T.defs W k) W (.if_ d t f)) := by
    cases st <;> first | (cases h; done) | skip
    rename_i x p q pos
    obtain ⟨h1, h⟩ := and_split (show (tstOk d && (chkE T d c x && (chkSs T t c p && chkSs T f c q))) = true from h)
    obtain ⟨h2, h⟩ := and_split h
    obtain ⟨h3, h4⟩ := and_split h
    exact PS.imp (ps_if (sndT d c x h2 h1 X ok.toXOk) (ht p h3) (hf q h4)) fun D σ H => i_if
theorem snd_whl {T : Tab} {W k : Nat} (d : E) (b : Ss) (c : Ctx) (st : Stmt) (h : chkS T (.whl d b) c st = true) (X : Cx) (ok : XOkS T W k c X)
    (hb : ∀ l, chkSs T b c l = true → PSs X l (tSs X.K (callD T.defs W k) W b)) : PS X st (tS X.K (callD T.defs W k) W (.whl d b)) := by
    cases st <;> first | (cases h; done) | skip
    rename_i x p q pos
    cases q with
    | cons _ _ => cases h
    | nil =>
      obtain ⟨h1, h⟩ := and_split (show (tstOk d && (chkE T d c x && chkSs T b c p)) = true from h)
      obtain ⟨h2, h3⟩ := and_split h
      exact PS.imp (ps_while ok.passes (sndT d c x h2 h1 X ok.toXOk) (hb p h3)) fun D σ H => i_whl
theorem it_fold {T : Tab} {it : It} {c : Ctx} {tg x : Expr} {env : PySem.Env} (h1 : chkIt T it c tg x = true) (v : Value) : foldedSetIterable x env v = pure v := by
  cases it <;> first | exact fold_of (chk_plain h1) _ _ | (cases x <;> first | rfl | cases h1)
theorem snd_for {T : Tab} {W k : Nat} (g : G) (it : It) (b : Ss) (c : Ctx) (st : Stmt) (h : chkS T (.for_ g it b) c st = true) (X : Cx) (ok : XOkS T W k c X)
    (hb : ∀ l, chkSs T b c l = true → PSs X l (tSs X.K (callD T.defs W k) W b)) : PS X st (tS X.K (callD T.defs W k) W (.for_ g it b)) := by
    cases st <;> first | (cases h; done) | skip
    rename_i tg x p q pos
    cases q with
    | cons _ _ => cases h
    | nil =>
      obtain ⟨h1, h⟩ := and_split (show (chkIt T it c tg x && (chkG g c tg && chkSs T b c p)) = true from h)
      obtain ⟨h2, h3⟩ := and_split h
      exact PS.imp (ps_for ok.passes ok.calm (sndIt it c tg x h1 X ok.toXOk) (sndG g c tg h2 X ok.toXOk) (hb p h3) (fun v => it_fold h1 v)) fun D σ H => i_for
end PC
end
section
namespace PC
open PySem PySem.Spec PyProof.Rows L2
theorem snd_nil {T : Tab} {W k : Nat} (c : Ctx) (l : List Stmt) (h : chkSs T .nil c l = true) (X : Cx) (ok : XOkS T W k c X) : PSs X l (tSs X.K (callD T.defs W k) W .nil) := by
    cases l with
    | cons _ _ => cases h
    | nil =>
      refine PSs.imp pss_nil fun D σ H ⟨ρ, S, F, α, o, he, w, ev, q⟩ => ?_
      cases ev
      exact q σ H F α Ext.refl w he
theorem snd_cons {T : Tab} {W k : Nat} (s : S) (r : Ss) (c : Ctx) (l : List Stmt) (h : chkSs T (.cons s r) c l = true) (X : Cx) (ok : XOkS T W k c X)
    (hs : ∀ t, chkS T s c t = true → PS X t (tS X.K (callD T.defs W k) W s)) (hr : ∀ l, chkSs T r c l = true → PSs X l (tSs X.K (callD T.defs W k) W r)) : PSs X l (tSs X.K (callD T.defs W k) W (.cons s r)) := by
    cases l with
    | nil => cases h
    | cons x xs =>
      obtain ⟨h1, h2⟩ := and_split (show (chkS T s c x && chkSs T r c xs) = true from h)
      exact PSs.imp (pss_cons (hs x h1) (hr xs h2)) fun D σ H => i_seq
mutual
theorem sndS {T : Tab} {W k : Nat} : ∀ (s : S) (c : Ctx) (t : Stmt), chkS T s c t = true → ∀ (X : Cx), XOkS T W k c X → PS X t (tS X.K (callD T.defs W k) W s)
  | .asg g e, c, t, h, X, ok => snd_asg g e c t h X ok
  | .thaw i e, c, t, h, X, ok => snd_thaw i e c t h X ok
  | .par is es, c, t, h, X, ok => snd_par is es c t h X ok
  | .aug i o e, c, t, h, X, ok => snd_aug i o e c t h X ok
  | .seti a b e, c, t, h, X, ok => snd_seti a b e c t h X ok
  | .augi a b o e, c, t, h, X, ok => snd_augi a b o e c t h X ok
  | .if_ d t f, c, st, h, X, ok => snd_if d t f c st h X ok (fun l hl => sndSs t c l hl X ok) (fun l hl => sndSs f c l hl X ok)
  | .whl d b, c, st, h, X, ok => snd_whl d b c st h X ok (fun l hl => sndSs b c l hl X ok)
  | .for_ g it b, c, st, h, X, ok => snd_for g it b c st h X ok (fun l hl => sndSs b c l hl X ok)
  | .ret e, c, t, h, X, ok => snd_ret e c t h X ok
  | .app a e, c, t, h, X, ok => snd_app a e c t h X ok
  | .ext a e, c, t, h, X, ok => snd_ext a e c t h X ok
  | .pop a, c, t, h, X, ok => snd_pop a c t h X ok
  | .pass, c, t, h, X, ok => snd_pass  c t h X ok
  | .dead, c, t, h, X, ok => snd_dead  c t h X ok
theorem sndSs {T : Tab} {W k : Nat} : ∀ (s : Ss) (c : Ctx) (t : List Stmt), chkSs T s c t = true → ∀ (X : Cx), XOkS T W k c X → PSs X t (tSs X.K (callD T.defs W k) W s)
  | .nil, c, l, h, X, ok => snd_nil c l h X ok
  | .cons s r, c, l, h, X, ok => snd_cons s r c l h X ok (fun t ht => sndS s c t ht X ok) (fun l hl => sndSs r c l hl X ok)
end
end PC
end
section
/-! PcFn: every def keeps its promise; the law. -/
namespace PC
open PySem PySem.Spec PyProof.Rows L2
theorem EnvOk.start {K : PySem.W.Frag} {F : Hp} {α : List Addr} {N : List Str} : ∀ {vs : List V} {rs : List R}, RepRs K F α vs rs → EnvOk K F α (L2.start N vs) (PC.start N.length rs) := by
  intro vs rs h
  have hl := h.length
  refine ⟨by simp [L2.start, PC.start, hl], fun i r e => ?_⟩
  unfold PC.start at e
  unfold L2.start
  by_cases hi : i < rs.length
  · rw [List.getElem?_append_left (by simpa using hi)] at e
    rw [List.getElem?_append_left (by simpa [hl] using hi)]
    rw [List.getElem?_map] at e ⊢
    have e' : rs[i]? = some r := by
      cases q : rs[i]? with
      | none => rw [q] at e; cases e
      | some x => rw [q] at e; exact congrArg _ (Option.some.inj (Option.some.inj e))
    obtain ⟨v, h1, h2⟩ := h.get e'
    exact ⟨v, by rw [h1] <;> rfl, h2⟩
  · rw [List.getElem?_append_right (by simpa using hi)] at e
    obtain ⟨h1, h2⟩ := List.getElem?_eq_some_iff.mp e
    rw [List.getElem_replicate] at h2
    cases h2
theorem sndSsA {T : Tab} {W k : Nat} : ∀ (s : Ss) (c : Ctx) (l : List Stmt), chkSs T s c l = true → ∀ (X : Cx), XOkS T W k c X → ∀ {tl : List Stmt} {u : TS}, PSs X tl u → PSs X (l ++ tl) (tSeq (tSs X.K (callD T.defs W k) W s) u)
  | .nil, c, l, h, X, ok, tl, u, hu => by
    cases l with
    | cons _ _ => cases h
    | nil =>
      refine PSs.imp hu fun D σ H ⟨ρ, S, F, α, o, he, w, ev, q⟩ => ?_
      cases ev
      exact q σ H F α Ext.refl w he
  | .cons s r, c, l, h, X, ok, tl, u, hu => by
    cases l with
    | nil => cases h
    | cons x xs =>
      obtain ⟨h1, h2⟩ := and_split (show (chkS T s c x && chkSs T r c xs) = true from h)
      exact PSs.imp (pss_cons (sndS s c x h1 X ok) (sndSsA r c xs h2 X ok hu)) fun D σ H => i_seq
def ctxOf (d : Def) (sc : Scope) : Ctx := ⟨d.names, sc, fun _ => true⟩
def chkFin (T : Tab) (d : Def) (sc : Scope) (body : List Stmt) : Bool := match d.fin with
  | none => chkSs T d.body (ctxOf d sc) body
  | some e => chkSs T d.body (ctxOf d sc) body.dropLast && (fresh T e && (match body.getLast? with
    | some (.Return (some t) _) => !isComp t && chkE T e (ctxOf d sc) t
    | _ => false))
section
variable {P : Program} {w : World} {K : PySem.W.Frag} {mg : Str → Option Value} {base : Heap} {T : Tab} {W : Nat}
/-- the names that the text takes from the module -/
structure Mods (K : PySem.W.Frag) (mg : Str → Option Value) (T : Tab) : Prop where
  blt : ∀ x ∈ bnames, mg x = none
  glob : ∀ x v, (x, v) ∈ T.globs → ∃ u w, mg x = some u ∧ RelV w u ∧ ∀ F, Rep K F w v
structure Funs (P : Program) (w : World) (K : PySem.W.Frag) (mg : Str → Option Value) (base : Heap) (T : Tab) (W k : Nat) : Prop where
  funs : ∀ (f : Nat) (d : Def), T.defs[f]? = some d → ∃ fa fd ps, FnOk P w K mg base CX0 k fa fd ps (spF K T W k f) ∧ mg d.name = some (.ref fa) ∧ PySem.W.keepIn K (.ref fa) = true ∧ Binds K fd ps []
  news : ∀ (f : Nat) (d : Def), T.defs[f]? = some d → d.fin.isSome = true → ∃ fa fd ps, FnOk P w K mg base CX0 k fa fd ps (spN K T W k f) ∧ mg d.name = some (.ref fa) ∧ PySem.W.keepIn K (.ref fa) = true ∧ Binds K fd ps []
/-- how a def stands -/
structure Ent (K : PySem.W.Frag) (mg : Str → Option Value) (T : Tab) (d : Def) (x qual : Str) (params : Arguments) (body : List Stmt) (scope : Scope) (fa : Addr) (fd : FuncData) (ps : List Str) : Prop where
  fn : FunD K x qual params body scope [] [] fa fd
  sc : FnScope d.names ps scope
  np : ps.length = d.np
  chk : chkFin T d scope body = true
  bind : Binds K fd ps []
  mg : mg d.name = some (.ref fa)
theorem take_pre {α β : List Addr} {S : Store} (h : α <+: β) (l : α.length = S.length) : β.take S.length = α := by
  obtain ⟨t, rfl⟩ := h
  rw [← l, List.take_left']
  rfl
theorem notin_pre {α β : List Addr} (h : α <+: β) (nd : β.Nodup) {i : Nat} {a : Addr} (hi : β[i]? = some a) (hl : α.length ≤ i) : a ∉ α := fun hm => by
  obtain ⟨j, hj⟩ := List.mem_iff_getElem?.mp hm
  have hj' := pre_get h hj
  have hjl : j < α.length := (List.getElem?_eq_some_iff.mp hj).1
  obtain ⟨q1, e1⟩ := List.getElem?_eq_some_iff.mp hi
  obtain ⟨q2, e2⟩ := List.getElem?_eq_some_iff.mp hj'
  have := (List.getElem_inj nd).mp (e1.trans e2.symm)
  omega
theorem xoks (M : Mods K mg T) (Fs : Funs P w K mg base T W k) {d : Def} {ps : List Str} {scope : Scope} (S : FnScope d.names ps scope) (qual : Str) (f : Addr) (cdv : Value) (A : Around) (outer : List PySem.Env) (s : Shared) (H : Hp) (E : XK)
    (hr : Room k (A.deeper (envOfC qual scope s.heap.objs.size f cdv))) : XOkS T W k (ctxOf d scope) (cxOf CX0 P w K mg base d.names qual scope f cdv A outer s H E).nox :=
  ⟨⟨rfl, rfl, S.nd, rfl, rfl, hr, M.blt, M.glob, Fs.funs, Fs.news⟩, S.kind, rfl⟩
theorem len_of {f : Nat} {d : Def} {k : Nat} {rs : List R} {S : Store} {o : R × Store} (hd : T.defs[f]? = some d) (h : callD T.defs W (k + 1) f rs S = some o) :
    rs.length = d.np ∧ (match d.fin with
      | none => back S.length (exSs (callD T.defs W k) W d.body (start d.names.length rs) S)
      | some e => backN S.length (callD T.defs W k) e (exSs (callD T.defs W k) W d.body (start d.names.length rs) S)) = some o := by
  simp only [callD, hd] at h
  split at h
  · rename_i hl
    exact ⟨hl, h⟩
  · cases h
theorem ok_none {k f : Nat} {d : Def} {x qual : Str} {params : Arguments} {body : List Stmt} {scope : Scope} {fa : Addr} {fd : FuncData} {ps : List Str} (M : Mods K mg T) (Fs : Funs P w K mg base T W k) (hd : T.defs[f]? = some d) (E : Ent K mg T d x qual params body scope fa fd ps) (hf : d.fin = none) :
    FnOk P w K mg base CX0 (k + 1) fa fd ps (spF K T W (k + 1) f) := by
  have hc : chkSs T d.body (ctxOf d scope) body = true := by
    have := E.chk
    unfold chkFin at this
    rw [hf] at this
    exact this
  refine E.fn.ok E.sc (fun vs H Q X h => ?_) (fun cdv A outer s H vs Q X hr h => ⟨_, PSs.nox (sndSs d.body _ body hc _ (xoks M Fs E.sc qual fa cdv A outer s H X hr)), ?_⟩)
  · obtain ⟨rs, S, F, α, r, S', r1, w1, ev, q⟩ := h
    rw [r1.length, (len_of hd ev).1, E.np]
  · obtain ⟨rs, S, F, α, r, S', r1, w1, ev, q⟩ := h
    have h2 := (len_of hd ev).2
    rw [hf] at h2
    simp only at h2
    cases ho : exSs (callD T.defs W k) W d.body (start d.names.length rs) S with
    | none => rw [ho] at h2; cases h2
    | some o =>
      rw [ho] at h2
      refine ⟨_, S, F, α, o, EnvOk.start r1, w1, ho, ?_⟩
      cases o with
      | nx ρ s1 =>
        cases h2
        intro σ' H' F' α' x w' _
        have wd := w'.drop S.length
        rw [take_pre x.pre w1.len] at wd
        exact q .non H' F' x.ex wd .non
      | rt r0 s1 =>
        intro v H' F' α' x w' rv
        have wd := w'.drop S.length
        rw [take_pre x.pre w1.len] at wd
        cases r0 with
        | d y =>
          cases h2
          exact q v H' F' x.ex wd rv
        | scr ns => cases h2
        | loc i =>
          simp only [back] at h2
          split at h2
          · cases h2
          · rename_i hi
            split at h2
            · rename_i xs hx
              cases h2
              obtain ⟨a, rfl, ha⟩ := rv
              obtain ⟨us, hH, hr'⟩ := w'.at_ ha hx
              have hn : a ∉ α := notin_pre x.pre w'.nd ha (by rw [w1.len]; omega)
              obtain ⟨w2, x2⟩ := wd.freeze (w'.out a (List.mem_of_getElem? ha)) hn hH
              exact q _ H' _ (x.ex.trans x2.ex) w2 (.lst upd_same (Reps.mono x2.ex _ hr'))
            · cases h2
theorem ok_some {k f : Nat} {d : Def} {x qual : Str} {params : Arguments} {body : List Stmt} {scope : Scope} {fa : Addr} {fd : FuncData} {ps : List Str} {e : E} (M : Mods K mg T) (Fs : Funs P w K mg base T W k) (hd : T.defs[f]? = some d) (E : Ent K mg T d x qual params body scope fa fd ps) (hf : d.fin = some e) :
    FnOk P w K mg base CX0 (k + 1) fa fd ps (spN K T W (k + 1) f) := by
  have hc := E.chk
  unfold chkFin at hc
  rw [hf] at hc
  obtain ⟨h1, h2⟩ := and_split hc
  obtain ⟨h2, h3⟩ := and_split h2
  obtain ⟨t, pos, hl, hcomp, h4⟩ : ∃ t pos, body.getLast? = some (.Return (some t) pos) ∧ isComp t = false ∧ chkE T e (ctxOf d scope) t = true := by
    split at h3
    · rename_i t pos hl
      obtain ⟨k1, k2⟩ := and_split h3
      exact ⟨t, pos, hl, by rw [Bool.not_eq_true'] at k1; exact k1, k2⟩
    · cases h3
  have hb : body = body.dropLast ++ [.Return (some t) pos] := by
    obtain ⟨l, rfl⟩ := List.getLast?_eq_some_iff.mp hl
    simp
  refine E.fn.ok E.sc (fun vs H Q X h => ?_) (fun cdv A outer s H vs Q X hr h => ⟨tSeq (tSs K (callD T.defs W k) W d.body) (tRet (tN K (callD T.defs W k) e)), PSs.nox ?_, ?_⟩)
  · obtain ⟨rs, S, F, α, r, S', r1, w1, ev, q⟩ := h
    rw [r1.length, (len_of hd ev).1, E.np]
  · have xo := xoks M Fs E.sc qual fa cdv A outer s H X hr
    rw [hb]
    exact sndSsA d.body _ _ h1 _ xo (pss_one (ps_ret (sndN e h2 _ t hcomp h4 _ xo.toXOk)))
  · obtain ⟨rs, S, F, α, ds, S', r1, w1, ev, q⟩ := h
    have h5 := (len_of hd ev).2
    rw [hf] at h5
    simp only at h5
    cases ho : exSs (callD T.defs W k) W d.body (start d.names.length rs) S with
    | none => rw [ho] at h5; cases h5
    | some o =>
      rw [ho] at h5
      refine ⟨_, S, F, α, o, EnvOk.start r1, w1, ho, ?_⟩
      cases o with
      | rt r0 s1 => cases h5
      | nx ρ s1 =>
        simp only [backN] at h5
        split at h5
        · rename_i ys s2 h6
          cases h5
          intro σ' H' F' α' x w' he
          refine ⟨ρ, s1, F', α', _, s2, he, w', h6, fun p H2 F2 α2 ws x2 w2 hF ha hp hr' => ?_⟩
          have wd := w2.drop S.length
          have pr := x.pre.trans x2.pre
          rw [take_pre pr w1.len] at wd
          exact q p H2 F2 ws (x.ex.trans x2.ex) wd hF (fun hm => ha (pr.subset hm)) hp hr'
        · cases h5
theorem fn_of_new {k f : Nat} {fa : Addr} {fd : FuncData} {ps : List Str} (hN : ∀ rs S r S', callD T.defs W k f rs S = some (r, S') → ∃ ds, r = .d (.list ds)) (F : FnOk P w K mg base CX0 k fa fd ps (spN K T W k f)) : FnOk P w K mg base CX0 k fa fd ps (spF K T W k f) :=
  F.imp fun vs H Q X ⟨rs, S, Fr, α, r, S', r1, w1, ev, q⟩ => by
    obtain ⟨ds, rfl⟩ := hN _ _ _ _ ev
    refine ⟨rs, S, Fr, α, ds, S', r1, w1, ev, fun p H' F' ws x w' hF ha hp hr => ?_⟩
    obtain ⟨w2, x2⟩ := w'.freeze hF ha hp
    exact q _ H' _ (x.trans x2.ex) w2 (.lst upd_same (Reps.mono x2.ex _ hr))
theorem no_zero {f : Nat} {vs : List V} {H : Hp} {Q : VK} {X : XK} (h : spF K T W 0 f vs H Q X) : False := by
  obtain ⟨rs, S, Fr, α, r, S', r1, w1, ev, q⟩ := h
  cases ev
theorem no_zeroN {f : Nat} {vs : List V} {H : Hp} {Q : VK} {X : XK} (h : spN K T W 0 f vs H Q X) : False := by
  obtain ⟨rs, S, Fr, α, r, S', r1, w1, ev, q⟩ := h
  cases ev
theorem ok_zero {f : Nat} {fa : Addr} {fd : FuncData} {ps : List Str} : FnOk P w K mg base CX0 0 fa fd ps (spF K T W 0 f) :=
  ⟨fun vs H Q X h => (no_zero h).elim, fun A outer s H args us vs Q X _ _ _ _ h => (no_zero h).elim⟩
theorem ok_zeroN {f : Nat} {fa : Addr} {fd : FuncData} {ps : List Str} : FnOk P w K mg base CX0 0 fa fd ps (spN K T W 0 f) :=
  ⟨fun vs H Q X h => (no_zeroN h).elim, fun A outer s H args us vs Q X _ _ _ _ h => (no_zeroN h).elim⟩
theorem funs_ok (M : Mods K mg T) (hE : ∀ (f : Nat) (d : Def), T.defs[f]? = some d → ∃ x qual params body scope fa fd ps, Ent K mg T d x qual params body scope fa fd ps) : ∀ k, Funs P w K mg base T W k
  | 0 => ⟨fun f d hd => by
      obtain ⟨x, qual, params, body, scope, fa, fd, ps, E⟩ := hE f d hd
      exact ⟨fa, fd, ps, ok_zero, E.mg, E.fn.kp, E.bind⟩, fun f d hd _ => by
      obtain ⟨x, qual, params, body, scope, fa, fd, ps, E⟩ := hE f d hd
      exact ⟨fa, fd, ps, ok_zeroN, E.mg, E.fn.kp, E.bind⟩⟩
  | k + 1 => by
    have ih := funs_ok M hE k
    refine ⟨fun f d hd => ?_, fun f d hd hs => ?_⟩
    · obtain ⟨x, qual, params, body, scope, fa, fd, ps, E⟩ := hE f d hd
      refine ⟨fa, fd, ps, ?_, E.mg, E.fn.kp, E.bind⟩
      cases hf : d.fin with
      | none => exact ok_none M ih hd E hf
      | some e =>
        refine fn_of_new (fun rs S r S' ev => ?_) (ok_some M ih hd E hf)
        have h5 := (len_of hd ev).2
        rw [hf] at h5
        simp only [backN] at h5
        split at h5
        · split at h5
          · cases h5
            exact ⟨_, rfl⟩
          · cases h5
        · cases h5
    · obtain ⟨x, qual, params, body, scope, fa, fd, ps, E⟩ := hE f d hd
      refine ⟨fa, fd, ps, ?_, E.mg, E.fn.kp, E.bind⟩
      cases hf : d.fin with
      | none => rw [hf] at hs; cases hs
      | some e => exact ok_some M ih hd E hf
end
end PC
end
section
/-! PcHead: from the law's row to the evaluator. -/
namespace PC
open PySem PySem.Spec PyProof.Rows L2
/-- global constants -/
def dvOf : D → Option He.Dv
  | .int i => some (.int i)
  | _ => none
def dvsOf : List D → Option (List He.Dv)
  | [] => some []
  | d :: ds => match dvOf d, dvsOf ds with
    | some x, some xs => some (x :: xs)
    | _, _ => none
def globB (K : PySem.W.Frag) : Str × D → Bool
  | (x, .tuple ds) => (He.Fa.glo x).ok K && (match dvsOf ds with
    | some vs => He.tupB K x vs
    | none => false)
  | (x, .str z) => (He.Fa.str x z).ok K
  | _ => false
theorem dvs_rep {K : PySem.W.Frag} : ∀ {ds : List D} {vs : List He.Dv}, dvsOf ds = some vs → ∀ F, Reps K F (vs.map (He.Dv.v K)) ds
  | [], vs, h, F => by cases h; exact .nil
  | d :: ds, vs, h, F => by
    unfold dvsOf at h
    cases q : dvsOf ds with
    | none => rw [q] at h; cases hd : dvOf d <;> rw [hd] at h <;> cases h
    | some xs =>
      rw [q] at h
      cases d <;> first | (cases h; done) | skip
      cases h
      exact .cons (.int _) (dvs_rep q F)
theorem globB_ok {K : PySem.W.Frag} {h : Heap} {mg : Str → Option Value} (X : K.In h) (G : h.Ns mainGlobals mg) {x : Str} {v : D} (c : globB K (x, v) = true) : ∃ u w, mg x = some u ∧ RelV w u ∧ ∀ F, Rep K F w v := by
  cases v <;> first | (cases c; done) | skip
  · rename_i z
    obtain ⟨t, e⟩ := He.str_ok X G (x := x) (z := z) c
    exact ⟨_, .str z, e, ⟨t, rfl⟩, fun F => .str _⟩
  · rename_i ds
    obtain ⟨c1, c2⟩ := and_split (show ((He.Fa.glo x).ok K && (match dvsOf ds with
      | some vs => He.tupB K x vs
      | none => false)) = true from c)
    cases q : dvsOf ds with
    | none => rw [q] at c2; cases c2
    | some vs =>
      rw [q] at c2
      exact ⟨_, .ref (He.ga K x), He.glo_ok X G c1, rfl, fun F => .tup (He.tupB_ok c2 F) (dvs_rep q F)⟩
/-! ### the hook -/
abbrev AlG : Type := He.AlD × Bool
def obsG (n : Nat) (fa : List He.Fa) (fn : List He.DefD) (gs : List (Str × D)) (g : Addr → Option Obj) : AlG := (He.obsDG n fa fn g, gs.all fun p => globB (He.frG g (He.asD g n)) p)
structure SaysG (fa : List He.Fa) (fn : List He.DefD) (gs : List (Str × D)) (K : PySem.W.Frag) : Prop where
  d : He.SaysD fa fn K
  g : (gs.all fun p => globB K p) = true
def hookG (n : Nat) (fa : List He.Fa) (fn : List He.DefD) (gs : List (Str × D)) : PySem.W.Hook where
  α := AlG
  obs := fun s => obsG n fa fn gs s.heap.get?
  val := fun _ => (He.valD fn, true)
  says := fun _ h => ∃ K : PySem.W.Frag, K.In h ∧ SaysG fa fn gs K
  of := fun _ _ e => ⟨_, He.frG_in, congrArg (fun z : AlG => z.1) e, congrArg (fun z : AlG => z.2) e⟩
  keeps := fun _ _ _ ⟨K, hK, c⟩ k => ⟨K, PySem.W.Frag.In.keeps hK k, c⟩
theorem obsG_eq {n : Nat} {fa : List He.Fa} {fn : List He.DefD} {gs : List (Str × D)} {g : Addr → Option Obj} {s : Shared} (h : ∀ a, g a = s.heap.get? a) : obsG n fa fn gs g = (hookG n fa fn gs).obs s := by
  have e : g = s.heap.get? := funext h
  rw [e] <;> rfl
/-! ### the defs -/
def mkD (top : Nat → Stmt) (p : Str × Nat) : He.DefD := ⟨(p.1, none), p.1, p.1, defArgs (top p.2), defBody (top p.2), defScope (top p.2), [], []⟩
def psOf (st : Stmt) : List Str := (defArgs st).args.map (·.arg)
def fnScB (N ps : List Str) (sc : Scope) : Bool := decide (sc.kind = .function) && (decide (sc.isCoroutine = false) && (decide (sc.isGenerator = false) && (decide N.Nodup && (decide (N.take ps.length = ps) &&
  (ps.all (fun x => decide (sc.names.lookup x = some .local) || decide (sc.names.lookup x = some .cell)) && sc.names.all fun y => decide (y.2 ≠ .free))))))
theorem fnScB_ok {N ps : List Str} {sc : Scope} (h : fnScB N ps sc = true) : FnScope N ps sc := by
  obtain ⟨h1, h⟩ := and_split h
  obtain ⟨h2, h⟩ := and_split h
  obtain ⟨h3, h⟩ := and_split h
  obtain ⟨h4, h⟩ := and_split h
  obtain ⟨h5, h⟩ := and_split h
  obtain ⟨h6, h7⟩ := and_split h
  refine ⟨of_decide_eq_true h1, of_decide_eq_true h2, of_decide_eq_true h3, of_decide_eq_true h4, of_decide_eq_true h5, fun x hx => ?_, fun y hy => of_decide_eq_true (List.all_eq_true.mp h7 y hy)⟩
  have := List.all_eq_true.mp h6 x hx
  rw [Bool.or_eq_true] at this
  exact this.imp of_decide_eq_true of_decide_eq_true
def entB (T : Tab) (d : Def) (st : Stmt) : Bool := fnScB d.names (psOf st) (defScope st) && (decide ((psOf st).length = d.np) && chkFin T d (defScope st) (defBody st))
def allB (T : Tab) (top : Nat → Stmt) : List Def → List (Str × Nat) → Bool
  | [], [] => true
  | d :: ds, p :: ps => (decide (d.name = p.1) && entB T d (top p.2)) && allB T top ds ps
  | _, _ => false
theorem allB_at {T : Tab} {top : Nat → Stmt} : ∀ {ds : List Def} {ps : List (Str × Nat)} {f : Nat} {d : Def}, allB T top ds ps = true → ds[f]? = some d → ∃ p, ps[f]? = some p ∧ d.name = p.1 ∧ entB T d (top p.2) = true
  | [], ps, f, d, h, e => by simp at e
  | d0 :: ds, [], f, d, h, e => by cases h
  | d0 :: ds, p :: ps, f, d, h, e => by
    obtain ⟨h1, h2⟩ := and_split (show ((decide (d0.name = p.1) && entB T d0 (top p.2)) && allB T top ds ps) = true from h)
    obtain ⟨h3, h4⟩ := and_split h1
    cases f with
    | zero =>
      have e' : d0 = d := by simpa using e
      subst e'
      exact ⟨p, rfl, of_decide_eq_true h3, h4⟩
    | succ f =>
      obtain ⟨q, k1, k2⟩ := allB_at (f := f) (d := d) h2 (by simpa using e)
      exact ⟨q, by simpa using k1, k2⟩
/-- its parameters take what is given -/
def BindP (st : Stmt) : Prop := ∀ (x qual : Str) (kV doc pm : Value) (an : Option Addr) (cdv ct : Value) (us : List Value), us.length = (psOf st).length → bindArgs (PySem.W.fnOf x qual (defArgs st) (defBody st) (defScope st) .none kV doc pm an cdv ct) ⟨us, []⟩ = pure ((psOf st).zip us)
def BindAll (top : Nat → Stmt) : List (Str × Nat) → Prop
  | [] => True
  | p :: ps => BindP (top p.2) ∧ BindAll top ps
theorem BindAll.at_ {top : Nat → Stmt} : ∀ {ps : List (Str × Nat)} {f : Nat} {p : Str × Nat}, BindAll top ps → ps[f]? = some p → BindP (top p.2)
  | [], f, p, h, e => by simp at e
  | q :: ps, f, p, h, e => by
    cases f with
    | zero =>
      have e' : q = p := by simpa using e
      subst e'
      exact h.1
    | succ f => exact BindAll.at_ (f := f) h.2 (by simpa using e)
def faOf (nm : List (Str × Nat)) : List He.Fa := nm.map (fun p => He.Fa.glo p.1) ++ bnames.map He.Fa.free
/-- what the head says, as the evaluator's soundness wants it -/
theorem mods_of {K : PySem.W.Frag} {h : Heap} {mg : Str → Option Value} {T : Tab} {nm : List (Str × Nat)} {fn : List He.DefD} (X : K.In h) (G : h.Ns mainGlobals mg) (c : SaysG (faOf nm) fn T.globs K) : Mods K mg T := by
  refine ⟨fun x hx => ?_, fun x v hx => globB_ok X G (List.all_eq_true.mp c.g _ hx)⟩
  obtain ⟨i, hi, e⟩ := List.mem_iff_getElem.mp hx
  have : (faOf nm)[nm.length + i]? = some (He.Fa.free x) := by
    unfold faOf
    rw [List.getElem?_append_right (by simp), List.length_map, Nat.add_sub_cancel_left, List.getElem?_map, List.getElem?_eq_getElem hi, e]
    rfl
  exact He.free_ok X G (c.d.fact _ this)
theorem ents_of {K : PySem.W.Frag} {h : Heap} {mg : Str → Option Value} {T : Tab} {nm : List (Str × Nat)} {top : Nat → Stmt} (X : K.In h) (G : h.Ns mainGlobals mg) (c : SaysG (faOf nm) (nm.map (mkD top)) T.globs K) (hA : allB T top T.defs nm = true) (hB : BindAll top nm) :
    ∀ (f : Nat) (d : Def), T.defs[f]? = some d → ∃ p, nm[f]? = some p ∧ d.name = p.1 ∧ ∃ fd, Ent K mg T d p.1 p.1 (defArgs (top p.2)) (defBody (top p.2)) (defScope (top p.2)) (He.ga K p.1) fd (psOf (top p.2)) := by
  intro f d hd
  obtain ⟨p, hp, hn, he⟩ := allB_at hA hd
  refine ⟨p, hp, hn, ?_⟩
  obtain ⟨e1, e2⟩ := and_split (show (fnScB d.names (psOf (top p.2)) (defScope (top p.2)) && (decide ((psOf (top p.2)).length = d.np) && chkFin T d (defScope (top p.2)) (defBody (top p.2)))) = true from he)
  obtain ⟨e2, e3⟩ := and_split e2
  obtain ⟨fd, F⟩ := c.d.def_ f (d := mkD top p) (by rw [List.getElem?_map, hp]; rfl)
  have F' : FunD K p.1 p.1 (defArgs (top p.2)) (defBody (top p.2)) (defScope (top p.2)) [] [] (He.ga K p.1) fd := F
  have hg : (He.Fa.glo p.1).ok K = true := c.d.fact f (f := .glo p.1) (by
    unfold faOf
    have hl : f < nm.length := (List.getElem?_eq_some_iff.mp hp).1
    rw [List.getElem?_append_left (by simpa using hl), List.getElem?_map, hp]
    rfl)
  exact ⟨fd, F', fnScB_ok e1, of_decide_eq_true e2, e3, F'.bindsN fun kV doc pm an cdv ct us hl => hB.at_ hp p.1 p.1 kV doc pm an cdv ct us hl, by rw [hn]; exact He.glo_ok X G hg⟩
/-- the law -/
theorem law_of {P : Program} {w : World} {K : PySem.W.Frag} {h : Heap} {mg : Str → Option Value} {T : Tab} {W k f i : Nat} {nm : List (Str × Nat)} {top : Nat → Stmt} {fa : Addr} (X : K.In h) (G : h.Ns mainGlobals mg) (c : SaysG (faOf nm) (nm.map (mkD top)) T.globs K) (hA : allB T top T.defs nm = true) (hB : BindAll top nm)
    {d : Def} (hd : T.defs[f]? = some d) (hf : nm[f]? = some (("law" : Str), i)) (hps : psOf (top i) = [("script" : Str)]) (hmg : mg ("law" : Str) = some (.ref fa)) :
    ∃ fd : FuncData, (∀ (s : Shared) (v : Value), BindsTo s fd ⟨[v], []⟩ [("script", v)]) ∧ ∀ base : Heap, K.In base → base.Ns mainGlobals mg → FnOk P w K mg base CX0 k fa fd ["script"] (spF K T W k f) := by
  obtain ⟨p, hp, hn, fd, E⟩ := ents_of X G c hA hB f d hd
  rw [hf] at hp
  cases hp
  have e := hmg.symm.trans (hn ▸ E.mg)
  cases e
  have E' := E
  have hb := hB.at_ hf
  refine ⟨fd, fun s v => ?_, fun base Xb Gb => ?_⟩
  · have := E.fn.bindsA (ps := psOf (top i)) (fun kV doc pm an cdv ct us hl => hb "law" "law" kV doc pm an cdv ct us hl) s [v] (by rw [hps]; rfl)
    rw [hps] at this
    exact this
  · have M : Mods K mg T := mods_of Xb Gb c
    have hE : ∀ (f : Nat) (d : Def), T.defs[f]? = some d → ∃ x qual params body scope fa fd ps, Ent K mg T d x qual params body scope fa fd ps := fun f d hd => by
      obtain ⟨p, _, _, fd, E⟩ := ents_of Xb Gb c hA hB f d hd
      exact ⟨_, _, _, _, _, _, fd, _, E⟩
    cases k with
    | zero => exact ok_zero
    | succ k =>
      have Fs : Funs P w K mg base T W k := funs_ok M hE k
      rw [← hps]
      cases hfin : d.fin with
      | none => exact ok_none M Fs hd E hfin
      | some e =>
        refine fn_of_new (fun rs S r S' ev => ?_) (ok_some M Fs hd E hfin)
        have h5 := (len_of hd ev).2
        rw [hfin] at h5
        simp only [backN] at h5
        split at h5
        · split at h5
          · cases h5
            exact ⟨_, rfl⟩
          · cases h5
        · cases h5
/-- .. from the evaluator's answer -/
theorem sp_of {K : PySem.W.Frag} {T : Tab} {W k f : Nat} {H : Hp} {a : Addr} {ns : List Int} (hO : Only H) (hS : SqL K H a (ns.map V.int)) {S' : Store} (h : callD T.defs W k f [.scr ns] [] = some (.d (.bool true), S')) : spF K T W k f [.ref a] H (fun v _ => v = .bl true) fun _ _ _ => False := by
  refine ⟨[.scr ns], [], H, [], _, S', .cons ⟨a, rfl, hS⟩ .nil, ⟨Evl.Ex.refl H, rfl, .nil, fun a ha => absurd ha (by simp), fun n a c h1 _ => by simp at h1⟩, h, fun v H' F' _ _ r => rep_bool (α := []) r⟩
end PC
end
section
/-! PcSim: plain facts for stepping the evaluator. -/
namespace PC

theorem ev_var (C : Call) (i : Nat) (ρ : Env) (s : Store) : evE C (E.var i) ρ s = (match ρ[i]? with
    | some (some r) => some (r, s)
    | _ => none) := Eq.trans rfl rfl
theorem ev_glob (C : Call) (_x : PySem.Str) (v : D) (ρ : Env) (s : Store) : evE C (E.glob _x v) ρ s = (some (.d v, s)) := Eq.trans rfl rfl
theorem ev_int (C : Call) (i : Int) (ρ : Env) (s : Store) : evE C (E.int i) ρ s = (some (.d (.int i), s)) := Eq.trans rfl rfl
theorem ev_bl (C : Call) (b : Bool) (ρ : Env) (s : Store) : evE C (E.bl b) ρ s = (some (.d (.bool b), s)) := Eq.trans rfl rfl
theorem ev_non (C : Call)  (ρ : Env) (s : Store) : evE C (E.non) ρ s = (some (.d .none, s)) := Eq.trans rfl rfl
theorem ev_str (C : Call) (x : PySem.Str) (ρ : Env) (s : Store) : evE C (E.str x) ρ s = (some (.d (.str x), s)) := Eq.trans rfl rfl
theorem ev_bin (C : Call) (o : Bop) (a : E) (b : E) (ρ : Env) (s : Store) : evE C (E.bin o a b) ρ s = (match evE C a ρ s with
    | none => none
    | some (ra, s1) => match evE C b ρ s1 with
      | none => none
      | some (rb, s2) => match viewD ra s2, viewD rb s2 with
        | some x, some y => (match binD o x y with
          | some z => some (.d z, s2)
          | none => none)
        | _, _ => none) := Eq.trans rfl rfl
theorem ev_neg (C : Call) (a : E) (ρ : Env) (s : Store) : evE C (E.neg a) ρ s = (match evE C a ρ s with
    | some (.d (.int i), s1) => some (.d (.int (-i)), s1)
    | _ => none) := Eq.trans rfl rfl
theorem ev_not (C : Call) (a : E) (ρ : Env) (s : Store) : evE C (E.not a) ρ s = (match evE C a ρ s with
    | some (.d (.bool b), s1) => some (.d (.bool (!b)), s1)
    | _ => none) := Eq.trans rfl rfl
theorem ev_and (C : Call) (a : E) (b : E) (ρ : Env) (s : Store) : evE C (E.and a b) ρ s = (match evE C a ρ s with
    | some (.d (.bool true), s1) => evE C b ρ s1
    | some (.d (.bool false), s1) => some (.d (.bool false), s1)
    | _ => none) := Eq.trans rfl rfl
theorem ev_or (C : Call) (a : E) (b : E) (ρ : Env) (s : Store) : evE C (E.or a b) ρ s = (match evE C a ρ s with
    | some (.d (.bool true), s1) => some (.d (.bool true), s1)
    | some (.d (.bool false), s1) => evE C b ρ s1
    | _ => none) := Eq.trans rfl rfl
theorem ev_cmp (C : Call) (o : Cop) (a : E) (b : E) (ρ : Env) (s : Store) : evE C (E.cmp o a b) ρ s = (match evE C a ρ s with
    | none => none
    | some (ra, s1) => match evE C b ρ s1 with
      | none => none
      | some (rb, s2) => match viewD ra s2, viewD rb s2 with
        | some x, some y => (match cmpD o x y with
          | some z => some (.d (.bool z), s2)
          | none => none)
        | _, _ => none) := Eq.trans rfl rfl
theorem ev_chain (C : Call) (o : Cop) (p : Cop) (a : E) (b : E) (c : E) (ρ : Env) (s : Store) : evE C (E.chain o p a b c) ρ s = (match evE C a ρ s with
    | none => none
    | some (ra, s1) => match evE C b ρ s1 with
      | none => none
      | some (rb, s2) => match viewD ra s2, viewD rb s2 with
        | some x, some y => (match cmpD o x y with
          | some true => (match evE C c ρ s2 with
            | none => none
            | some (rc, s3) => match viewD rb s3, viewD rc s3 with
              | some y', some z => (match cmpD p y' z with
                | some t => some (.d (.bool t), s3)
                | none => none)
              | _, _ => none)
          | some false => some (.d (.bool false), s2)
          | none => none)
        | _, _ => none) := Eq.trans rfl rfl
theorem ev_ite (C : Call) (c : E) (a : E) (b : E) (ρ : Env) (s : Store) : evE C (E.ite c a b) ρ s = (match evE C c ρ s with
    | some (.d (.bool true), s1) => evE C a ρ s1
    | some (.d (.bool false), s1) => evE C b ρ s1
    | _ => none) := Eq.trans rfl rfl
theorem ev_ix (C : Call) (a : E) (b : E) (ρ : Env) (s : Store) : evE C (E.ix a b) ρ s = (match evE C a ρ s with
    | none => none
    | some (ra, s1) => match evE C b ρ s1 with
      | none => none
      | some (rb, s2) => match viewD ra s2, viewD rb s2 with
        | some x, some y => (match ixD x y with
          | some z => some (.d z, s2)
          | none => none)
        | _, _ => none) := Eq.trans rfl rfl
theorem ev_slo (C : Call) (a : E) (b : E) (ρ : Env) (s : Store) : evE C (E.slo a b) ρ s = (match evE C a ρ s with
    | none => none
    | some (ra, s1) => match evE C b ρ s1 with
      | some (.d (.int i), s2) => (match viewS ra s2 with
        | some x => (match slD x (some i) none with
          | some z => some (.d z, s2)
          | none => none)
        | none => none)
      | _ => none) := Eq.trans rfl rfl
theorem ev_shi (C : Call) (a : E) (b : E) (ρ : Env) (s : Store) : evE C (E.shi a b) ρ s = (match evE C a ρ s with
    | none => none
    | some (ra, s1) => match evE C b ρ s1 with
      | some (.d (.int i), s2) => (match viewS ra s2 with
        | some x => (match slD x none (some i) with
          | some z => some (.d z, s2)
          | none => none)
        | none => none)
      | _ => none) := Eq.trans rfl rfl
theorem ev_rev (C : Call) (a : E) (ρ : Env) (s : Store) : evE C (E.rev a) ρ s = (match evE C a ρ s with
    | none => none
    | some (ra, s1) => match viewD ra s1 with
      | some x => (match revD x with
        | some z => some (.d z, s1)
        | none => none)
      | none => none) := Eq.trans rfl rfl
theorem ev_tup (C : Call) (es : Es) (ρ : Env) (s : Store) : evE C (E.tup es) ρ s = (match evEs C es ρ s with
    | some (rs, s1) => (match pures rs with
      | some xs => if szOk xs.length = true then some (.d (.tuple xs), s1) else none
      | none => none)
    | none => none) := Eq.trans rfl rfl
theorem ev_lst (C : Call) (es : Es) (ρ : Env) (s : Store) : evE C (E.lst es) ρ s = (match evEs C es ρ s with
    | some (rs, s1) => (match pures rs with
      | some xs => if szOk xs.length = true then some (.d (.list xs), s1) else none
      | none => none)
    | none => none) := Eq.trans rfl rfl
theorem ev_b1 (C : Call) (f : B1) (a : E) (ρ : Env) (s : Store) : evE C (E.b1 f a) ρ s = (match evE C a ρ s with
    | none => none
    | some (ra, s1) => match viewS ra s1 with
      | some x => (match b1D f x with
        | some z => some (.d z, s1)
        | none => none)
      | none => none) := Eq.trans rfl rfl
theorem ev_b2 (C : Call) (f : B2) (a : E) (b : E) (ρ : Env) (s : Store) : evE C (E.b2 f a b) ρ s = (match evE C a ρ s with
    | none => none
    | some (ra, s1) => match evE C b ρ s1 with
      | none => none
      | some (rb, s2) => match viewD ra s2, viewD rb s2 with
        | some x, some y => (match b2D f x y with
          | some z => some (.d z, s2)
          | none => none)
        | _, _ => none) := Eq.trans rfl rfl
theorem ev_isi (C : Call) (a : E) (t : Ty) (ρ : Env) (s : Store) : evE C (E.isi a t) ρ s = (match evE C a ρ s with
    | none => none
    | some (ra, s1) => match viewD ra s1 with
      | some x => (match isD x t with
        | some z => some (.d (.bool z), s1)
        | none => none)
      | none => none) := Eq.trans rfl rfl
theorem ev_call (C : Call) (f : Nat) (es : Es) (ρ : Env) (s : Store) : evE C (E.call f es) ρ s = (match evEs C es ρ s with
    | some (rs, s1) => C f rs s1
    | none => none) := Eq.trans rfl rfl
theorem evs_nil (C : Call)  (ρ : Env) (s : Store) : evEs C (Es.nil) ρ s = (some ([], s)) := Eq.trans rfl rfl
theorem evs_cons (C : Call) (e : E) (r : Es) (ρ : Env) (s : Store) : evEs C (Es.cons e r) ρ s = (match evE C e ρ s with
    | none => none
    | some (v, s1) => match evEs C r ρ s1 with
      | none => none
      | some (vs, s2) => some (v :: vs, s2)) := Eq.trans rfl rfl
theorem evi_rng1 (C : Call) (a : E) (ρ : Env) (s : Store) : evIt C (It.rng1 a) ρ s = (match evE C a ρ s with
    | some (.d (.int j), s1) => if rngOk j = true then some (.rng 0 1 j.toNat, s1) else none
    | _ => none) := Eq.trans rfl rfl
theorem evi_rng2 (C : Call) (a : E) (b : E) (ρ : Env) (s : Store) : evIt C (It.rng2 a b) ρ s = (match evE C a ρ s with
    | some (.d (.int i), s1) => (match evE C b ρ s1 with
      | some (.d (.int j), s2) => if (rngOk i && rngOk j) = true then some (.rng i 1 (j - i).toNat, s2) else none
      | _ => none)
    | _ => none) := Eq.trans rfl rfl
theorem evi_rng3 (C : Call) (a : E) (b : E) (c : E) (ρ : Env) (s : Store) : evIt C (It.rng3 a b c) ρ s = (match evE C a ρ s with
    | some (.d (.int i), s1) => (match evE C b ρ s1 with
      | some (.d (.int j), s2) => (match evE C c ρ s2 with
        | some (.d (.int k), s3) => if (rngOk i && rngOk j && decide (k = -1)) = true then some (.rng i (-1) (i - j).toNat, s3) else none
        | _ => none)
      | _ => none)
    | _ => none) := Eq.trans rfl rfl
theorem evi_seq (C : Call) (a : E) (ρ : Env) (s : Store) : evIt C (It.seq a) ρ s = (match evE C a ρ s with
    | none => none
    | some (ra, s1) => match viewS ra s1 with
      | some x => (match seqOf x with
        | some xs => some (.seq ra xs.length, s1)
        | none => none)
      | none => none) := Eq.trans rfl rfl
theorem evi_zip (C : Call) (a : E) (b : E) (ρ : Env) (s : Store) : evIt C (It.zip a b) ρ s = (match evE C a ρ s with
    | none => none
    | some (ra, s1) => match evE C b ρ s1 with
      | none => none
      | some (rb, s2) => match listOf ra s2, listOf rb s2 with
        | some xs, some ys => some (.zip ra rb (min xs.length ys.length), s2)
        | _, _ => none) := Eq.trans rfl rfl
theorem ex_asg (C : Call) (W : Nat) (g : G) (e : E) (ρ : Env) (s : Store) : exS C W (S.asg g e) ρ s = (match evE C e ρ s with
    | none => none
    | some (r, s1) => (match asgG g r ρ with
      | some ρ' => some (.nx ρ' s1)
      | none => none)) := Eq.trans rfl rfl
theorem ex_thaw (C : Call) (W : Nat) (i : Nat) (e : E) (ρ : Env) (s : Store) : exS C W (S.thaw i e) ρ s = (match evE C e ρ s with
    | some (.d (.list xs), s1) => some (.nx (ρ.set i (some (.loc s1.length))) (s1 ++ [.lst xs]))
    | _ => none) := Eq.trans rfl rfl
theorem ex_par (C : Call) (W : Nat) (is : List Nat) (es : Es) (ρ : Env) (s : Store) : exS C W (S.par is es) ρ s = (match evEs C es ρ s with
    | none => none
    | some (rs, s1) => (match sets ρ is rs with
      | some ρ' => some (.nx ρ' s1)
      | none => none)) := Eq.trans rfl rfl
theorem ex_aug (C : Call) (W : Nat) (i : Nat) (o : Bop) (e : E) (ρ : Env) (s : Store) : exS C W (S.aug i o e) ρ s = (match ρ[i]? with
    | some (some r) => (match evE C e ρ s with
      | none => none
      | some (re, s1) => match r, re with
        | .d (.int x), .d (.int y) => (match binD o (.int x) (.int y) with
          | some z => some (.nx (ρ.set i (some (.d z))) s1)
          | none => none)
        | _, _ => none)
    | _ => none) := Eq.trans rfl rfl
theorem ex_seti (C : Call) (W : Nat) (a : E) (b : E) (e : E) (ρ : Env) (s : Store) : exS C W (S.seti a b e) ρ s = (match evE C e ρ s with
    | some (.d x, s1) => (match evE C a ρ s1 with
      | some (.loc n, s2) => (match evE C b ρ s2 with
        | some (.d (.int k), s3) => (match cellAt s3 n with
          | some xs => (match L2.ixN xs.length k with
            | some j => some (.nx ρ (setCell s3 n (xs.set j x)))
            | none => none)
          | none => none)
        | _ => none)
      | _ => none)
    | _ => none) := Eq.trans rfl rfl
theorem ex_augi (C : Call) (W : Nat) (a : E) (b : E) (o : Bop) (e : E) (ρ : Env) (s : Store) : exS C W (S.augi a b o e) ρ s = (match evE C a ρ s with
    | some (.loc n, s1) => (match evE C b ρ s1 with
      | some (.d (.int k), s2) => (match cellAt s2 n with
        | some xs => (match L2.atI xs k with
          | some (.int x) => (match evE C e ρ s2 with
            | some (.d (.int y), s3) => (match binD o (.int x) (.int y) with
              | some z => (match cellAt s3 n with
                | some ys => (match L2.ixN ys.length k with
                  | some j => some (.nx ρ (setCell s3 n (ys.set j z)))
                  | none => none)
                | none => none)
              | none => none)
            | _ => none)
          | _ => none)
        | none => none)
      | _ => none)
    | _ => none) := Eq.trans rfl rfl
theorem ex_if_ (C : Call) (W : Nat) (c : E) (t : Ss) (f : Ss) (ρ : Env) (s : Store) : exS C W (S.if_ c t f) ρ s = (match evE C c ρ s with
    | some (.d (.bool true), s1) => exSs C W t ρ s1
    | some (.d (.bool false), s1) => exSs C W f ρ s1
    | _ => none) := Eq.trans rfl rfl
theorem ex_ret (C : Call) (W : Nat) (e : E) (ρ : Env) (s : Store) : exS C W (S.ret e) ρ s = (match evE C e ρ s with
    | none => none
    | some (r, s1) => some (.rt r s1)) := Eq.trans rfl rfl
theorem ex_app (C : Call) (W : Nat) (a : E) (e : E) (ρ : Env) (s : Store) : exS C W (S.app a e) ρ s = (match evE C a ρ s with
    | some (.loc n, s1) => (match evE C e ρ s1 with
      | some (.d x, s2) => (match cellAt s2 n with
        | some xs => if szOk xs.length = true then some (.nx ρ (setCell s2 n (xs ++ [x]))) else none
        | none => none)
      | _ => none)
    | _ => none) := Eq.trans rfl rfl
theorem ex_ext (C : Call) (W : Nat) (a : E) (e : E) (ρ : Env) (s : Store) : exS C W (S.ext a e) ρ s = (match evE C a ρ s with
    | some (.loc n, s1) => (match evE C e ρ s1 with
      | some (.d (.list ys), s2) => (match cellAt s2 n with
        | some xs => if szOk (xs.length + ys.length) = true then some (.nx ρ (setCell s2 n (xs ++ ys))) else none
        | none => none)
      | _ => none)
    | _ => none) := Eq.trans rfl rfl
theorem ex_pop (C : Call) (W : Nat) (a : E) (ρ : Env) (s : Store) : exS C W (S.pop a) ρ s = (match evE C a ρ s with
    | some (.loc n, s1) => (match cellAt s1 n with
        | some xs => (match xs[xs.length - 1]? with
          | some _ => some (.nx ρ (setCell s1 n xs.dropLast))
          | none => none)
        | none => none)
    | _ => none) := Eq.trans rfl rfl
theorem ex_pass (C : Call) (W : Nat)  (ρ : Env) (s : Store) : exS C W (S.pass) ρ s = (some (.nx ρ s)) := Eq.trans rfl rfl

theorem exs_nil (C : Call) (W : Nat) (ρ : Env) (s : Store) : exSs C W .nil ρ s = some (.nx ρ s) := Eq.trans rfl rfl
theorem exs_cons (C : Call) (W : Nat) (a : S) (r : Ss) (ρ : Env) (s : Store) : exSs C W (.cons a r) ρ s = (match exS C W a ρ s with
    | some (.nx ρ' s') => exSs C W r ρ' s'
    | o => o) := Eq.trans rfl rfl
def stepF (C : Call) (W : Nat) (g : G) (b : Ss) (x : D) (ρ : Env) (s : Store) : Option Out := match asgG g (.d x) ρ with
        | none => none
        | some ρ' => exSs C W b ρ' s
theorem ex_for_ (C : Call) (W : Nat) (g : G) (it : It) (b : Ss) (ρ : Env) (s : Store) : exS C W (.for_ g it b) ρ s = (match evIt C it ρ s with
    | none => none
    | some (J, s1) => forN J (stepF C W g b) J.n 0 ρ s1) := Eq.trans rfl rfl
def testW (C : Call) (c : E) (ρ : Env) (s : Store) : Option (Bool × Store) := match evE C c ρ s with
      | some (.d (.bool t), s1) => some (t, s1)
      | _ => none
def bodyW (C : Call) (W : Nat) (b : Ss) (ρ : Env) (s : Store) : Option Out := exSs C W b ρ s
theorem ex_whl (C : Call) (W : Nat) (c : E) (b : Ss) (ρ : Env) (s : Store) : exS C W (.whl c b) ρ s = whlN (testW C c) (bodyW C W b) W ρ s := Eq.trans rfl rfl
def stepC (C : Call) (g : G) (vs : List Nat) (hc : Bool) (c e : E) (ρ : Env) (x : D) (s2 : Store) : Option (Option D × Store) := match asgG g (.d x) (wipeE ρ vs) with
        | none => none
        | some ρ2 => match (if hc = true then evE C c ρ2 s2 else some (.d (.bool true), s2)) with
          | some (.d (.bool true), s3) => (match evE C e ρ2 s3 with
            | some (.d y, s4) => some (some y, s4)
            | _ => none)
          | some (.d (.bool false), s3) => some (none, s3)
          | _ => none
theorem ev_comp (C : Call) (g : G) (vs : List Nat) (it : It) (hc : Bool) (c e : E) (ρ : Env) (s : Store) : evE C (.comp g vs it hc c e) ρ s = (match evIt C it ρ s with
    | none => none
    | some (J, s1) => match compN J s1.length (stepC C g vs hc c e ρ) J.n 0 (s1 ++ [.lst []]) with
      | some s5 => (match cellAt s5 s1.length with
        | some xs => some (.d (.list xs), s5.take s1.length)
        | none => none)
      | none => none) := Eq.trans rfl rfl
theorem binI_add (i j : Int) : binI .add i j = some (i + j) := Eq.trans rfl rfl
theorem binI_sub (i j : Int) : binI .sub i j = some (i - j) := Eq.trans rfl rfl
theorem binI_mulL {i j : Int} (h : smI i = true) : binI .mul i j = some (i * j) := by simp [binI, h]
theorem binI_mulR {i j : Int} (h : smI j = true) : binI .mul i j = some (i * j) := by simp [binI, h]
theorem binI_div {i j : Int} (h : 0 < j) (h2 : j < 1073741824) : binI .div i j = some (i / j) := by simp [binI, h, h2]
theorem binI_mod {i j : Int} (h : 0 < j) : binI .mod i j = some (i % j) := by simp [binI, h]
theorem bin_int (o : Bop) (i j : Int) : binD o (.int i) (.int j) = (match binI o i j with | some z => some (.int z) | none => none) := Eq.trans rfl rfl
theorem cmp_int (o : Cop) (i j : Int) : cmpD o (.int i) (.int j) = cmpI o i j := Eq.trans rfl rfl
theorem cmpI_eq (i j : Int) : cmpI .eq i j = some (decide (i = j)) := Eq.trans rfl rfl
theorem cmpI_ne (i j : Int) : cmpI .ne i j = some (!decide (i = j)) := Eq.trans rfl rfl
theorem cmpI_lt (i j : Int) : cmpI .lt i j = some (decide (i < j)) := Eq.trans rfl rfl
theorem cmpI_le (i j : Int) : cmpI .le i j = some (decide (i ≤ j)) := Eq.trans rfl rfl
theorem cmpI_gt (i j : Int) : cmpI .gt i j = some (decide (j < i)) := Eq.trans rfl rfl
theorem cmpI_ge (i j : Int) : cmpI .ge i j = some (decide (j ≤ i)) := Eq.trans rfl rfl
theorem view_d (x : D) (s : Store) : viewD (.d x) s = some x := Eq.trans rfl rfl
theorem viewS_d (x : D) (s : Store) : viewS (.d x) s = some x := Eq.trans rfl rfl
theorem viewS_scr (ns : List Int) (s : Store) : viewS (.scr ns) s = some (.list (ns.map PySem.PyData.int)) := Eq.trans rfl rfl
theorem view_loc {n : Nat} {s : Store} {xs : List D} (h : s[n]? = some (.lst xs)) : viewD (.loc n) s = some (.list xs) := by simp [viewD, h]
theorem viewS_loc {n : Nat} {s : Store} {xs : List D} (h : s[n]? = some (.lst xs)) : viewS (.loc n) s = some (.list xs) := by simp [viewS, viewD, h]
theorem cell_at {n : Nat} {s : Store} {xs : List D} (h : s[n]? = some (.lst xs)) : cellAt s n = some xs := by simp [cellAt, h]
theorem b1_len_list (xs : List D) : b1D .len (.list xs) = some (.int xs.length) := Eq.trans rfl rfl
theorem b1_len_tuple (xs : List D) : b1D .len (.tuple xs) = some (.int xs.length) := Eq.trans rfl rfl
theorem b1_int_int (i : Int) : b1D .int (.int i) = some (.int i) := Eq.trans rfl rfl
theorem b1_tuple_list (xs : List D) : b1D .tuple (.list xs) = some (.tuple xs) := Eq.trans rfl rfl
theorem b1_list_list (xs : List D) : b1D .list (.list xs) = some (.list xs) := Eq.trans rfl rfl
theorem b1_list_tuple (xs : List D) : b1D .list (.tuple xs) = some (.list xs) := Eq.trans rfl rfl
theorem ix_list (xs : List D) (i : Int) : ixD (.list xs) (.int i) = L2.atI xs i := Eq.trans rfl rfl
theorem ix_tuple (xs : List D) (i : Int) : ixD (.tuple xs) (.int i) = L2.atI xs i := Eq.trans rfl rfl
theorem asg_name (i : Nat) (r : R) (ρ : Env) : asgG (.name i) r ρ = some (ρ.set i (some r)) := Eq.trans rfl rfl
theorem asg_tupT (gs : Gs) (xs : List D) (ρ : Env) : asgG (.tup gs) (.d (.tuple xs)) ρ = asgGs gs xs ρ := Eq.trans rfl rfl
theorem asg_tupL (gs : Gs) (xs : List D) (ρ : Env) : asgG (.tup gs) (.d (.list xs)) ρ = asgGs gs xs ρ := Eq.trans rfl rfl
theorem asgs_nil (ρ : Env) : asgGs .nil [] ρ = some ρ := Eq.trans rfl rfl
theorem asgs_cons (g : G) (gs : Gs) (x : D) (xs : List D) (ρ : Env) : asgGs (.cons g gs) (x :: xs) ρ = (match asgG g (.d x) ρ with
    | some ρ' => asgGs gs xs ρ'
    | none => none) := Eq.trans rfl rfl
theorem back_rt (n : Nat) (x : D) (s : Store) : back n (some (.rt (.d x) s)) = some (.d x, s.take n) := Eq.trans rfl rfl
theorem back_nx (n : Nat) (ρ : Env) (s : Store) : back n (some (.nx ρ s)) = some (.d .none, s.take n) := Eq.trans rfl rfl
theorem st_F (C : Call) (W : Nat) (g : G) (b : Ss) (x : D) (ρ : Env) (s : Store) : stepF C W g b x ρ s = (match asgG g (.d x) ρ with
        | none => none
        | some ρ' => exSs C W b ρ' s) := Eq.trans rfl rfl
theorem te_W (C : Call) (c : E) (ρ : Env) (s : Store) : testW C c ρ s = (match evE C c ρ s with
      | some (.d (.bool t), s1) => some (t, s1)
      | _ => none) := Eq.trans rfl rfl
theorem bd_W (C : Call) (W : Nat) (b : Ss) (ρ : Env) (s : Store) : bodyW C W b ρ s = exSs C W b ρ s := Eq.trans rfl rfl
theorem st_C0 (C : Call) (g : G) (vs : List Nat) (c e : E) (ρ : Env) (x : D) (s2 : Store) : stepC C g vs false c e ρ x s2 = (match asgG g (.d x) (wipeE ρ vs) with
        | none => none
        | some ρ2 => (match evE C e ρ2 s2 with
            | some (.d y, s4) => some (some y, s4)
            | _ => none)) := Eq.trans rfl rfl
theorem st_C1 (C : Call) (g : G) (vs : List Nat) (c e : E) (ρ : Env) (x : D) (s2 : Store) : stepC C g vs true c e ρ x s2 = (match asgG g (.d x) (wipeE ρ vs) with
        | none => none
        | some ρ2 => match evE C c ρ2 s2 with
          | some (.d (.bool true), s3) => (match evE C e ρ2 s3 with
            | some (.d y, s4) => some (some y, s4)
            | _ => none)
          | some (.d (.bool false), s3) => some (none, s3)
          | _ => none) := Eq.trans rfl rfl
theorem wipe_nil (ρ : Env) : wipeE ρ [] = ρ := Eq.trans rfl rfl
theorem wipe_cons (ρ : Env) (v : Nat) (vs : List Nat) : wipeE ρ (v :: vs) = (wipeE ρ vs).set v none := Eq.trans rfl rfl
theorem sets_nil (ρ : Env) : sets ρ [] [] = some ρ := Eq.trans rfl rfl
theorem sets_cons (ρ : Env) (i : Nat) (is : List Nat) (r : R) (rs : List R) : sets ρ (i :: is) (r :: rs) = sets (ρ.set i (some r)) is rs := Eq.trans rfl rfl
theorem pures_nil : pures [] = some [] := Eq.trans rfl rfl
theorem pures_cons (x : D) (rs : List R) : pures (.d x :: rs) = (match pures rs with
    | some xs => some (x :: xs)
    | none => none) := by cases h : pures rs <;> simp [pures, pure?, h]
theorem rng_n (lo st : Int) (n : Nat) : (Items.rng lo st n).n = n := Eq.trans rfl rfl
theorem seq_n (r : R) (n : Nat) : (Items.seq r n).n = n := Eq.trans rfl rfl
theorem rng_get (lo st : Int) (n i : Nat) (s : Store) : (Items.rng lo st n).get i s = some (.int (lo + i * st)) := Eq.trans rfl rfl
theorem seq_list (xs : List D) : seqOf (.list xs) = some xs := Eq.trans rfl rfl
theorem seq_tuple (xs : List D) : seqOf (.tuple xs) = some xs := Eq.trans rfl rfl
theorem seq_getT (xs : List D) (n i : Nat) (s : Store) : (Items.seq (.d (.tuple xs)) n).get i s = xs[i]? := Eq.trans rfl rfl
theorem seq_getL (xs : List D) (n i : Nat) (s : Store) : (Items.seq (.d (.list xs)) n).get i s = xs[i]? := Eq.trans rfl rfl
theorem seq_getS (ns : List Int) (n i : Nat) (s : Store) : (Items.seq (.scr ns) n).get i s = (ns.map PySem.PyData.int)[i]? := Eq.trans rfl rfl
theorem rng_fin (lo st : Int) (n : Nat) (s : Store) : (Items.rng lo st n).fin s = true := Eq.trans rfl rfl
theorem start_eq (N : Nat) (rs : List R) : start N rs = rs.map some ++ List.replicate (N - rs.length) none := Eq.trans rfl rfl

end PC
end
section
/-! PcLaw: loops and comprehensions of the evaluator, in plain terms. -/
namespace PC
def iL (l : List Int) : List D := l.map PySem.PyData.int
theorem iL_nil : iL [] = [] := rfl
theorem iL_len (l : List Int) : (iL l).length = l.length := by simp [iL]
theorem iL_app (a b : List Int) : iL (a ++ b) = iL a ++ iL b := by simp [iL]
theorem iL_snoc (a : List Int) (b : Int) : iL (a ++ [b]) = iL a ++ [.int b] := by simp [iL]
theorem iL_one (b : Int) : iL [b] = [.int b] := rfl
theorem iL_cons (b : Int) (l : List Int) : iL (b :: l) = .int b :: iL l := rfl
theorem iL_get (l : List Int) (i : Nat) : (iL l)[i]? = l[i]?.map PySem.PyData.int := by simp [iL]
theorem iL_set (l : List Int) (i : Nat) (x : Int) : (iL l).set i (.int x) = iL (l.set i x) := by simp [iL, List.map_set]
abbrev lI (l : List Int) : D := .list (iL l)
abbrev tI (l : List Int) : D := .tuple (iL l)
theorem at_last (s : Store) (xs : List D) : cellAt (s ++ [.lst xs]) s.length = some xs := by simp [cellAt]
theorem set_last (s : Store) (xs ys : List D) : setCell (s ++ [.lst xs]) s.length ys = s ++ [.lst ys] := by simp [setCell]
/-! ### steps, by what their parts give -/
section
variable {C : Call} {W : Nat} {ρ ρ' : Env} {s s1 s2 s3 : Store}
theorem call1 {f : Nat} {a : E} {va : R} (h1 : evE C a ρ s = some (va, s1)) : evE C (.call f (.cons a .nil)) ρ s = C f [va] s1 := by
  rw [ev_call, evs_cons, h1]; rfl
theorem call2 {f : Nat} {a b : E} {va vb : R} (h1 : evE C a ρ s = some (va, s1)) (h2 : evE C b ρ s1 = some (vb, s2)) : evE C (.call f (.cons a (.cons b .nil))) ρ s = C f [va, vb] s2 := by
  rw [ev_call, evs_cons, h1]
  simp only []
  rw [evs_cons, h2]; rfl
theorem call3 {f : Nat} {a b c : E} {va vb vc : R} (h1 : evE C a ρ s = some (va, s1)) (h2 : evE C b ρ s1 = some (vb, s2)) (h3 : evE C c ρ s2 = some (vc, s3)) : evE C (.call f (.cons a (.cons b (.cons c .nil)))) ρ s = C f [va, vb, vc] s3 := by
  rw [ev_call, evs_cons, h1]
  simp only []
  rw [evs_cons, h2]
  simp only []
  rw [evs_cons, h3]; rfl
theorem ret_of {e : E} {r : R} (h : evE C e ρ s = some (r, s1)) : exS C W (.ret e) ρ s = some (.rt r s1) := by rw [ex_ret, h]
theorem asg_of {g : G} {e : E} {r : R} (h : evE C e ρ s = some (r, s1)) (h2 : asgG g r ρ = some ρ') : exS C W (.asg g e) ρ s = some (.nx ρ' s1) := by rw [ex_asg, h]; simp only []; rw [h2]
theorem thaw_of {i : Nat} {e : E} {xs : List D} (h : evE C e ρ s = some (.d (.list xs), s1)) : exS C W (.thaw i e) ρ s = some (.nx (ρ.set i (some (.loc s1.length))) (s1 ++ [.lst xs])) := by rw [ex_thaw, h]
theorem nx_of {a : S} {r : Ss} (h : exS C W a ρ s = some (.nx ρ' s1)) : exSs C W (.cons a r) ρ s = exSs C W r ρ' s1 := by rw [exs_cons, h]
theorem rt_of {a : S} {r : Ss} {v : R} (h : exS C W a ρ s = some (.rt v s1)) : exSs C W (.cons a r) ρ s = some (.rt v s1) := by rw [exs_cons, h]
theorem if_t {c : E} {t f : Ss} (h : evE C c ρ s = some (.d (.bool true), s1)) : exS C W (.if_ c t f) ρ s = exSs C W t ρ s1 := by rw [ex_if_, h]
theorem if_f {c : E} {t f : Ss} (h : evE C c ρ s = some (.d (.bool false), s1)) : exS C W (.if_ c t f) ρ s = exSs C W f ρ s1 := by rw [ex_if_, h]
theorem whl_of {c : E} {b : Ss} {o : Option Out} (h : whlN (testW C c) (bodyW C W b) W ρ s = o) : exS C W (.whl c b) ρ s = o := by rw [ex_whl, h]
theorem for_of {g : G} {it : It} {b : Ss} {J : Items} {o : Option Out} (h : evIt C it ρ s = some (J, s1)) (h2 : forN J (stepF C W g b) J.n 0 ρ s1 = o) : exS C W (.for_ g it b) ρ s = o := by rw [ex_for_, h]; exact h2
theorem b1_of {f : B1} {a : E} {r : R} {x z : D} (h : evE C a ρ s = some (r, s1)) (h2 : viewS r s1 = some x) (h3 : b1D f x = some z) : evE C (.b1 f a) ρ s = some (.d z, s1) := by rw [ev_b1, h]; simp only []; rw [h2]; simp only []; rw [h3]
theorem bin_of {o : Bop} {a b : E} {ra rb : R} {x y z : D} (h1 : evE C a ρ s = some (ra, s1)) (h2 : evE C b ρ s1 = some (rb, s2)) (h3 : viewD ra s2 = some x) (h4 : viewD rb s2 = some y) (h5 : binD o x y = some z) : evE C (.bin o a b) ρ s = some (.d z, s2) := by
  rw [ev_bin, h1]; simp only []; rw [h2]; simp only []; rw [h3, h4]; simp only []; rw [h5]
theorem cmp_of {o : Cop} {a b : E} {ra rb : R} {x y : D} {z : Bool} (h1 : evE C a ρ s = some (ra, s1)) (h2 : evE C b ρ s1 = some (rb, s2)) (h3 : viewD ra s2 = some x) (h4 : viewD rb s2 = some y) (h5 : cmpD o x y = some z) : evE C (.cmp o a b) ρ s = some (.d (.bool z), s2) := by
  rw [ev_cmp, h1]; simp only []; rw [h2]; simp only []; rw [h3, h4]; simp only []; rw [h5]
theorem ix_of {a b : E} {ra rb : R} {x y z : D} (h1 : evE C a ρ s = some (ra, s1)) (h2 : evE C b ρ s1 = some (rb, s2)) (h3 : viewD ra s2 = some x) (h4 : viewD rb s2 = some y) (h5 : ixD x y = some z) : evE C (.ix a b) ρ s = some (.d z, s2) := by
  rw [ev_ix, h1]; simp only []; rw [h2]; simp only []; rw [h3, h4]; simp only []; rw [h5]
theorem back_of {n : Nat} {x : D} {o : Option Out} (h : o = some (.rt (.d x) s)) : back n o = some (.d x, s.take n) := by rw [h]; rfl
end
/-- a comprehension whose turns leave the store as it is -/
theorem compN_pure (J : Items) (step : D → Store → Option (Option D × Store)) (items : List D) (f : D → Option D) (s : Store) (hn : J.n = items.length) (hz : items.length ≤ 1000000)
    (hget : ∀ i acc, i < items.length → J.get i (s ++ [.lst acc]) = items[i]?) (hfin : ∀ acc, J.fin (s ++ [.lst acc]) = true) (hstep : ∀ x ∈ items, ∀ acc, step x (s ++ [.lst acc]) = some (f x, s ++ [.lst acc])) :
    compN J s.length step J.n 0 (s ++ [.lst []]) = some (s ++ [.lst (items.filterMap f)]) := by
  have key : ∀ m i acc, i + m = items.length → acc.length ≤ i → compN J s.length step m i (s ++ [.lst acc]) = some (s ++ [.lst (acc ++ (items.drop i).filterMap f)]) := by
    intro m
    induction m with
    | zero =>
      intro i acc hi _
      have : items.drop i = [] := List.drop_eq_nil_of_le (by omega)
      simp [compN, hfin, this]
    | succ m ih =>
      intro i acc hi ha
      have hlt : i < items.length := by omega
      have hx : items[i]? = some items[i] := List.getElem?_eq_getElem hlt
      have hd : items.drop i = items[i] :: items.drop (i + 1) := List.drop_eq_getElem_cons hlt
      have hs := hstep items[i] (List.getElem_mem hlt) acc
      have hsz : szOk acc.length = true := Nat.ble_eq.mpr (by omega)
      unfold compN
      rw [hget i acc hlt, hx]
      simp only []
      rw [hs]
      cases hf : f items[i] with
      | none =>
        simp only []
        rw [ih (i + 1) acc (by omega) (by omega), hd, List.filterMap_cons, hf]
      | some y =>
        simp only [at_last, set_last]
        rw [if_pos hsz, ih (i + 1) (acc ++ [y]) (by omega) (by simp; omega), hd, List.filterMap_cons, hf, List.append_assoc]
        rfl
  rw [hn]
  simpa using key items.length 0 [] (by omega) (by simp)
/-- .. as the expression's value -/
theorem ev_compP {C : Call} {g : G} {vs : List Nat} {it : It} {hc : Bool} {c e : E} {ρ : Env} {s s1 : Store} {J : Items} (items : List D) (f : D → Option D) (hit : evIt C it ρ s = some (J, s1)) (hn : J.n = items.length) (hz : items.length ≤ 1000000)
    (hget : ∀ i acc, i < items.length → J.get i (s1 ++ [.lst acc]) = items[i]?) (hfin : ∀ acc, J.fin (s1 ++ [.lst acc]) = true) (hstep : ∀ x ∈ items, ∀ acc, stepC C g vs hc c e ρ x (s1 ++ [.lst acc]) = some (f x, s1 ++ [.lst acc])) :
    evE C (.comp g vs it hc c e) ρ s = some (.d (.list (items.filterMap f)), s1) := by
  rw [ev_comp, hit]
  simp only []
  rw [compN_pure J _ items f s1 hn hz hget hfin hstep]
  simp [at_last]
/-- over whole numbers, each turn gives one -/
theorem ev_compI {C : Call} {g : G} {vs : List Nat} {it : It} {hc : Bool} {c e : E} {ρ : Env} {s s1 : Store} {J : Items} (l : List Int) (f : Int → Int) (hit : evIt C it ρ s = some (J, s1)) (hn : J.n = l.length) (hz : l.length ≤ 1000000)
    (hget : ∀ i acc, i < l.length → J.get i (s1 ++ [.lst acc]) = (iL l)[i]?) (hfin : ∀ acc, J.fin (s1 ++ [.lst acc]) = true) (hstep : ∀ x ∈ l, ∀ acc, stepC C g vs hc c e ρ (.int x) (s1 ++ [.lst acc]) = some (some (.int (f x)), s1 ++ [.lst acc])) :
    evE C (.comp g vs it hc c e) ρ s = some (.d (lI (l.map f)), s1) := by
  have h := ev_compP (C := C) (g := g) (vs := vs) (it := it) (hc := hc) (c := c) (e := e) (ρ := ρ) (s := s) (s1 := s1) (J := J) (iL l) (fun x => match x with | .int i => some (.int (f i)) | _ => none) hit (by rw [iL_len]; exact hn) (by rw [iL_len]; exact hz) (by rw [iL_len]; exact hget) hfin (by
    intro x hx acc
    obtain ⟨i, hi, rfl⟩ := List.mem_map.mp (show x ∈ l.map PySem.PyData.int from hx)
    exact hstep i hi acc)
  rw [h]
  simp [iL, List.filterMap_map, Function.comp_def]
/-- .. some of them are kept -/
theorem ev_compF {C : Call} {g : G} {vs : List Nat} {it : It} {hc : Bool} {c e : E} {ρ : Env} {s s1 : Store} {J : Items} (l : List Int) (f : Int → Option D) (hit : evIt C it ρ s = some (J, s1)) (hn : J.n = l.length) (hz : l.length ≤ 1000000)
    (hget : ∀ i acc, i < l.length → J.get i (s1 ++ [.lst acc]) = (iL l)[i]?) (hfin : ∀ acc, J.fin (s1 ++ [.lst acc]) = true) (hstep : ∀ x ∈ l, ∀ acc, stepC C g vs hc c e ρ (.int x) (s1 ++ [.lst acc]) = some (f x, s1 ++ [.lst acc])) :
    evE C (.comp g vs it hc c e) ρ s = some (.d (.list (l.filterMap f)), s1) := by
  have h := ev_compP (C := C) (g := g) (vs := vs) (it := it) (hc := hc) (c := c) (e := e) (ρ := ρ) (s := s) (s1 := s1) (J := J) (iL l) (fun x => match x with | .int i => f i | _ => none) hit (by rw [iL_len]; exact hn) (by rw [iL_len]; exact hz) (by rw [iL_len]; exact hget) hfin (by
    intro x hx acc
    obtain ⟨i, hi, rfl⟩ := List.mem_map.mp (show x ∈ l.map PySem.PyData.int from hx)
    exact hstep i hi acc)
  rw [h]
  simp [iL, List.filterMap_map, Function.comp_def]
/-- the numbers of range(n) -/
abbrev rg (n : Nat) : List Int := List.map (fun i : Nat => (i : Int)) (List.range n)
theorem rg_get (n i : Nat) (S : Store) (h : i < n) : (Items.rng 0 1 n).get i S = (iL (rg n))[i]? := by
  rw [rng_get]
  simp [iL, rg, h]
/-- for, by a word of the state -/
theorem forN_inv (J : Items) (step : D → Env → Store → Option Out) (items : List D) (hn : J.n = items.length) (P : Nat → Env → Store → Prop) {ρ : Env} {s : Store} (h0 : P 0 ρ s)
    (hget : ∀ i ρ s, P i ρ s → i < items.length → J.get i s = items[i]?) (hfin : ∀ ρ s, P items.length ρ s → J.fin s = true)
    (hstep : ∀ i x ρ s, items[i]? = some x → P i ρ s → ∃ ρ' s', step x ρ s = some (.nx ρ' s') ∧ P (i + 1) ρ' s') :
    ∃ ρ' s', forN J step J.n 0 ρ s = some (.nx ρ' s') ∧ P items.length ρ' s' := by
  have key : ∀ m i ρ s, i + m = items.length → P i ρ s → ∃ ρ' s', forN J step m i ρ s = some (.nx ρ' s') ∧ P items.length ρ' s' := by
    intro m
    induction m with
    | zero =>
      intro i ρ s hi hp
      have e : i = items.length := by omega
      subst e
      exact ⟨ρ, s, by simp [forN, hfin ρ s hp], hp⟩
    | succ m ih =>
      intro i ρ s hi hp
      have hlt : i < items.length := by omega
      have hx : items[i]? = some items[i] := List.getElem?_eq_getElem hlt
      obtain ⟨ρ1, s1, h1, hp1⟩ := hstep i items[i] ρ s hx hp
      obtain ⟨ρ2, s2, h2, hp2⟩ := ih (i + 1) ρ1 s1 (by omega) hp1
      refine ⟨ρ2, s2, ?_, hp2⟩
      unfold forN
      rw [hget i ρ s hp hlt, hx]
      simp only []
      rw [h1]
      exact h2
  rw [hn]
  exact key items.length 0 ρ s (by omega) h0
/-- while, by a word and a measure -/
theorem whlN_inv (test : Env → Store → Option (Bool × Store)) (body : Env → Store → Option Out) (P : Nat → Env → Store → Prop) (Q : Env → Store → Prop)
    (hs : ∀ m ρ s, P m ρ s → (∃ s1, test ρ s = some (false, s1) ∧ Q ρ s1) ∨ (∃ s1 ρ' s' m', test ρ s = some (true, s1) ∧ body ρ s1 = some (.nx ρ' s') ∧ m' < m ∧ P m' ρ' s')) :
    ∀ W m ρ s, m < W → P m ρ s → ∃ ρ' s', whlN test body W ρ s = some (.nx ρ' s') ∧ Q ρ' s' := by
  intro W
  induction W with
  | zero => intro m ρ s h; omega
  | succ W ih =>
    intro m ρ s hm hp
    rcases hs m ρ s hp with ⟨s1, h1, hq⟩ | ⟨s1, ρ', s', m', h1, h2, hm', hp'⟩
    · exact ⟨ρ, s1, by simp [whlN, h1], hq⟩
    · obtain ⟨ρ2, s2, h3, hq⟩ := ih m' ρ' s' (by omega) hp'
      exact ⟨ρ2, s2, by simp [whlN, h1, h2, h3], hq⟩
end PC
end
section
namespace PC
/-! lists of whole numbers without zeros at their end -/
def strip : List Int → List Int
  | [] => []
  | a :: l => match strip l with
    | [] => if a = 0 then [] else [a]
    | b :: r => a :: b :: r
theorem strip_snoc0 : ∀ l : List Int, strip (l ++ [0]) = strip l
  | [] => by simp [strip]
  | a :: l => by simp [strip, strip_snoc0 l]
theorem strip_snoc {a : Int} (h : a ≠ 0) : ∀ l : List Int, strip (l ++ [a]) = l ++ [a]
  | [] => by simp [strip, h]
  | b :: l => by
    simp only [List.cons_append, strip, strip_snoc h l]
    cases l <;> rfl
def trim (p : Int) (l : List Int) : List Int := strip (l.map fun n => n % p)
theorem view_last (S : Store) (xs : List D) : viewD (.loc S.length) (S ++ [.lst xs]) = some (.list xs) := by simp [viewD]
theorem viewS_last (S : Store) (xs : List D) : viewS (.loc S.length) (S ++ [.lst xs]) = some (.list xs) := by simp [viewS, viewD]
theorem atI_last {α : Type} (xs : List α) (x : α) : L2.atI (xs ++ [x]) (-1) = some x := by
  have h1 : ¬ (0 : Int) ≤ -1 := by omega
  have h2 : -(((xs ++ [x]).length : Nat) : Int) ≤ -1 := by simp; omega
  have h3 : (-1 + (((xs ++ [x]).length : Nat) : Int)).toNat = xs.length := by simp; omega
  simp only [L2.atI, L2.ixN, h1, h2, h3, if_true, if_false, Option.bind_some]
  simp
theorem atI_nat {α : Type} {xs : List α} {i : Nat} {x : α} (h : xs[i]? = some x) : L2.atI xs (i : Int) = some x := by
  have hl : i < xs.length := (List.getElem?_eq_some_iff.mp h).1
  have h1 : (0 : Int) ≤ i := by omega
  have h2 : (i : Int) < (xs.length : Nat) := by omega
  simp only [L2.atI, L2.ixN, h1, h2, if_true, Option.bind_some, Int.toNat_natCast, h]
theorem ixN_nat {n i : Nat} (h : i < n) : L2.ixN n (i : Int) = some i := by
  have h1 : (0 : Int) ≤ i := by omega
  have h2 : (i : Int) < (n : Nat) := by omega
  simp only [L2.ixN, h1, h2, if_true, Int.toNat_natCast]
theorem take_app (S T : Store) : (S ++ T).take S.length = S := by simp
theorem seq_get {r : R} {n i : Nat} {s : Store} {d : D} {xs : List D} (h : viewS r s = some d) (h2 : seqOf d = some xs) : (Items.seq r n).get i s = xs[i]? := by simp [Items.get, h, h2]
theorem seq_fin {r : R} {n : Nat} {s : Store} {d : D} {xs : List D} (h : viewS r s = some d) (h2 : seqOf d = some xs) (hn : xs.length ≤ n) : (Items.seq r n).fin s = true := by simp [Items.fin, h, h2, Nat.ble_eq, hn]
end PC
end
section
/-! PcMath: polynomials of a prime, by their coefficients. -/
namespace PC.PM
abbrev F := Nat → Int
def co (l : List Int) : F := fun n => l.getD n 0
def sh (k : Nat) (f : F) : F := fun n => if k ≤ n then f (n - k) else 0
theorem sh0 (f : F) (n : Nat) : sh 0 f n = f n := by simp [sh]
theorem sh_sh (j k : Nat) (f : F) (n : Nat) : sh j (sh k f) n = sh (j + k) f n := by
  unfold sh
  by_cases h1 : j ≤ n
  · by_cases h2 : k ≤ n - j
    · rw [if_pos h1, if_pos h2, if_pos (by omega), Nat.sub_sub]
    · rw [if_pos h1, if_neg h2, if_neg (by omega)]
  · rw [if_neg h1, if_neg (by omega)]
theorem sh_add (k : Nat) (f g : F) (n : Nat) : sh k (fun i => f i + g i) n = sh k f n + sh k g n := by
  unfold sh; split <;> simp
theorem sh_mul (k : Nat) (c : Int) (f : F) (n : Nat) : sh k (fun i => c * f i) n = c * sh k f n := by
  unfold sh; split <;> simp
theorem dvd_lin {p a b c : Int} (h1 : p ∣ a) (h2 : p ∣ b) (e : c = a + b) : p ∣ c := e ▸ Int.dvd_add h1 h2
theorem dvd_sh {p : Int} {f : F} (h : ∀ n, p ∣ f n) (k n : Nat) : p ∣ sh k f n := by
  unfold sh; split
  · exact h _
  · exact Int.dvd_zero _
/-- what is made of G by adding multiples of its members, moved -/
inductive Id (p : Int) (G : F → Prop) : F → Prop
  | zero {f : F} : (∀ n, p ∣ f n) → Id p G f
  | step {f f' g : F} (c : Int) (k : Nat) : G g → Id p G f → (∀ n, p ∣ f' n - (f n + c * sh k g n)) → Id p G f'
section
variable {p : Int} {G G' : F → Prop} {f g h : F}
theorem Id.congr (i : Id p G f) (e : ∀ n, p ∣ g n - f n) : Id p G g := by
  cases i with
  | zero h => exact .zero fun n => dvd_lin (e n) (h n) (by omega)
  | step c k hg h1 h2 => exact .step c k hg h1 fun n => dvd_lin (e n) (h2 n) (by omega)
theorem Id.gen (hg : G g) : Id p G g := .step (f := fun _ => 0) 1 0 hg (.zero fun _ => Int.dvd_zero _) fun n => by rw [sh0]; exact ⟨0, by omega⟩
theorem Id.add (i : Id p G f) (j : Id p G g) : Id p G (fun n => f n + g n) := by
  induction j with
  | zero h => exact i.congr fun n => dvd_lin (h n) (Int.dvd_zero p) (by omega)
  | step c k hg _ h2 ih => exact .step c k hg ih fun n => dvd_lin (h2 n) (Int.dvd_zero p) (by omega)
theorem Id.mv (i : Id p G f) (c : Int) (k : Nat) : Id p G (fun n => c * sh k f n) := by
  induction i with
  | zero h => exact .zero fun n => Int.dvd_mul_of_dvd_right (dvd_sh h k n)
  | @step f f' g c' k' hg _ h2 ih =>
    refine .step (c * c') (k + k') hg ih fun n => ?_
    have e : c * sh k f' n - (c * sh k f n + c * c' * sh (k + k') g n) = c * sh k (fun n => f' n - (f n + c' * sh k' g n)) n := by
      rw [← sh_sh]
      unfold sh
      split
      · grind
      · grind
    rw [e]
    exact Int.dvd_mul_of_dvd_right (dvd_sh h2 k n)
theorem Id.mono (i : Id p G f) (hG : ∀ g, G g → Id p G' g) : Id p G' f := by
  induction i with
  | zero h => exact .zero h
  | step c k hg _ h2 ih => exact (ih.add ((hG _ hg).mv c k)).congr fun n => h2 n
theorem Id.sub (i : Id p G f) (j : Id p G g) : Id p G (fun n => f n - g n) := (i.add (j.mv (-1) 0)).congr fun n => ⟨0, by rw [sh0]; omega⟩
end
/-! ### one maker -/
def act : List Int → F → F
  | [], _ => fun _ => 0
  | a :: q, g => fun n => a * g n + sh 1 (act q g) n
theorem act_cons (a : Int) (q : List Int) (g : F) (n : Nat) : act (a :: q) g n = a * g n + sh 1 (act q g) n := rfl
def addAt : List Int → Int → Nat → List Int
  | [], c, 0 => [c]
  | [], c, k + 1 => 0 :: addAt [] c k
  | a :: q, c, 0 => (a + c) :: q
  | a :: q, c, k + 1 => a :: addAt q c k
theorem act_addAt (g : F) : ∀ (q : List Int) (c : Int) (k n : Nat), act (addAt q c k) g n = act q g n + c * sh k g n
  | [], c, 0, n => by simp [addAt, act, sh]
  | [], c, k + 1, n => by
    have ih := fun m => act_addAt g [] c k m
    simp only [addAt, act_cons]
    have : sh 1 (act (addAt [] c k) g) n = c * sh (k + 1) g n := by
      have e : act (addAt [] c k) g = fun m => c * sh k g m := funext fun m => by rw [ih m]; simp [act]
      rw [e, sh_mul, sh_sh, Nat.add_comm]
    rw [this]
    simp [act]
  | a :: q, c, 0, n => by simp [addAt, act_cons, sh0]; grind
  | a :: q, c, k + 1, n => by
    have e : act (addAt q c k) g = fun m => act q g m + c * sh k g m := funext fun m => act_addAt g q c k m
    simp only [addAt, act_cons]
    rw [e, sh_add, sh_mul, sh_sh, Nat.add_comm 1 k]
    omega
section
variable {p : Int} {f g : F} {d : Nat}
theorem Id.one (i : Id p (fun x => x = g) f) : ∃ q, ∀ n, p ∣ f n - act q g n := by
  induction i with
  | zero h => exact ⟨[], fun n => by simpa [act] using h n⟩
  | @step f f' g' c k hg _ h2 ih =>
    subst hg
    obtain ⟨q, hq⟩ := ih
    exact ⟨addAt q c k, fun n => dvd_lin (h2 n) (hq n) (by rw [act_addAt]; omega)⟩
theorem act_hi (hd : ∀ n, d < n → p ∣ g n) : ∀ (q : List Int) (n : Nat), q.length + d ≤ n → p ∣ act q g n
  | [], n, _ => Int.dvd_zero _
  | a :: q, n, h => by
    have h' : q.length + 1 + d ≤ n := h
    rw [act_cons]
    refine dvd_lin (Int.dvd_mul_of_dvd_right (hd n (by omega))) ?_ rfl
    unfold sh
    rw [if_pos (by omega)]
    exact act_hi hd q (n - 1) (by omega)
theorem act_snoc (c : Int) (g : F) : ∀ (q : List Int) (n : Nat), act (q ++ [c]) g n = act q g n + c * sh q.length g n
  | [], n => by simp [act, sh]
  | a :: q, n => by
    have e : act (q ++ [c]) g = fun m => act q g m + c * sh q.length g m := funext fun m => act_snoc c g q m
    rw [List.cons_append, act_cons, act_cons, e, sh_add, sh_mul, sh_sh, List.length_cons, Nat.add_comm 1 q.length]
    omega
theorem uniqA {u : Int} (hu : p ∣ u * g d - 1) (hd : ∀ n, d < n → p ∣ g n) : ∀ (m : Nat) (q : List Int) (f : F), q.length = m → (∀ n, p ∣ f n - act q g n) → (∀ n, d ≤ n → p ∣ f n) → ∀ n, p ∣ f n := by
  intro m
  induction m with
  | zero =>
    intro q f hm hq _ n
    have : q = [] := List.eq_nil_of_length_eq_zero hm
    subst this
    simpa [act] using hq n
  | succ m ih =>
    intro q f hm hq hf
    rcases List.eq_nil_or_concat q with rfl | ⟨q', c, rfl⟩
    · cases hm
    rw [List.concat_eq_append] at hm hq
    have hm' : q'.length = m := by simpa using hm
    have h1 := hq (q'.length + d)
    have h2 := hf (q'.length + d) (by omega)
    have h3 := act_hi hd q' (q'.length + d) (Nat.le_refl _)
    rw [act_snoc] at h1
    have h4 : sh q'.length g (q'.length + d) = g d := by unfold sh; rw [if_pos (by omega)]; congr 1; omega
    rw [h4] at h1
    have h5 : p ∣ c * g d := by
      have := Int.dvd_sub (Int.dvd_sub h2 h1) h3
      exact dvd_lin this (Int.dvd_zero p) (by omega)
    have h6 : p ∣ c := by
      obtain ⟨s, hs⟩ := hu
      obtain ⟨t, ht⟩ := h5
      exact ⟨u * t - c * s, by grind⟩
    refine ih q' f hm' (fun n => ?_) hf
    have := hq n
    rw [act_snoc] at this
    exact dvd_lin this (Int.dvd_mul_of_dvd_left (c := sh q'.length g n) h6) (by omega)
/-- a multiple of less degree is nothing -/
theorem uniq {u : Int} (hu : p ∣ u * g d - 1) (hd : ∀ n, d < n → p ∣ g n) (i : Id p (fun x => x = g) f) (hf : ∀ n, d ≤ n → p ∣ f n) : ∀ n, p ∣ f n := by
  obtain ⟨q, hq⟩ := i.one
  exact uniqA hu hd q.length q f rfl hq hf
end
/-! ### normal lists -/
def Nf (p : Int) (l : List Int) : Prop := (∀ x ∈ l, 0 ≤ x ∧ x < p) ∧ strip l = l
theorem strip_le : ∀ l : List Int, (strip l).length ≤ l.length
  | [] => Nat.le_refl _
  | a :: l => by
    have := strip_le l
    unfold strip
    cases h : strip l with
    | nil => simp only []; split <;> simp
    | cons b r => rw [h] at this; simp at this ⊢; omega
theorem strip_co : ∀ (l : List Int) (n : Nat), co (strip l) n = co l n
  | [], n => rfl
  | a :: l, n => by
    have ih := strip_co l
    unfold strip
    cases h : strip l with
    | nil =>
      rw [h] at ih
      have h0 : ∀ m, co l m = 0 := fun m => by rw [← ih m]; simp [co]
      simp only []
      split
      · rename_i ha
        subst ha
        cases n with
        | zero => simp [co]
        | succ m => have := h0 m; simp [co] at this ⊢; exact this.symm
      · cases n with
        | zero => simp [co]
        | succ m => have := h0 m; simp [co] at this ⊢; exact this.symm
    | cons b r =>
      rw [h] at ih
      cases n with
      | zero => simp [co]
      | succ m => have := ih m; simp [co] at this ⊢; exact this
theorem strip_mem : ∀ (l : List Int) (x : Int), x ∈ strip l → x ∈ l
  | [], x, h => h
  | a :: l, x, h => by
    have ih := strip_mem l x
    unfold strip at h
    cases h1 : strip l with
    | nil =>
      rw [h1] at h
      simp only [] at h
      split at h
      · cases h
      · exact List.mem_cons.mpr (.inl (List.mem_singleton.mp h))
    | cons b r =>
      rw [h1] at h ih
      rcases List.mem_cons.mp h with e | e
      · exact List.mem_cons.mpr (.inl e)
      · exact List.mem_cons_of_mem _ (ih e)
theorem strip_strip : ∀ l : List Int, strip (strip l) = strip l
  | [] => rfl
  | a :: l => by
    have ih := strip_strip l
    cases h : strip l with
    | nil =>
      have e : strip (a :: l) = if a = 0 then [] else [a] := by simp [strip, h]
      rw [e]
      by_cases ha : a = 0
      · simp [ha, strip]
      · simp [ha, strip]
    | cons b r =>
      have e : strip (a :: l) = a :: b :: r := by simp [strip, h]
      rw [h] at ih
      rw [e]
      show (match strip (b :: r) with
        | [] => if a = 0 then [] else [a]
        | b :: r => a :: b :: r) = _
      rw [ih]
theorem Nf.trim {p : Int} (hp : 0 < p) (l : List Int) : Nf p (trim p l) := by
  refine ⟨fun x hx => ?_, strip_strip _⟩
  obtain ⟨y, _, rfl⟩ := List.mem_map.mp (strip_mem _ x hx)
  exact ⟨Int.emod_nonneg _ (by omega), Int.emod_lt_of_pos _ hp⟩
theorem trim_co (p : Int) (l : List Int) (n : Nat) : co (trim p l) n = co l n % p := by
  unfold PC.trim
  rw [strip_co]
  simp only [co, List.getD_eq_getElem?_getD, List.getElem?_map]
  cases l[n]? <;> simp
theorem trim_le (p : Int) (l : List Int) : (trim p l).length ≤ l.length := by
  have := strip_le (l.map fun n => n % p)
  simpa [PC.trim] using this
theorem co_len {l : List Int} {n : Nat} (h : l.length ≤ n) : co l n = 0 := by
  simp only [co, List.getD_eq_getElem?_getD, List.getElem?_eq_none h]; rfl
theorem co_lt {l : List Int} {n : Nat} (h : n < l.length) : l[n]? = some (co l n) := by
  simp only [co, List.getD_eq_getElem?_getD, List.getElem?_eq_getElem h]; rfl
theorem Nf.bd {p : Int} {l : List Int} (hp : 0 < p) (h : Nf p l) (n : Nat) : 0 ≤ co l n ∧ co l n < p := by
  by_cases hn : n < l.length
  · exact h.1 _ (List.mem_of_getElem? (co_lt hn))
  · rw [co_len (by omega)]; exact ⟨Int.le_refl _, hp⟩
theorem Nf.last {p : Int} {l : List Int} (h : Nf p l) (hl : l ≠ []) : co l (l.length - 1) ≠ 0 := by
  rcases List.eq_nil_or_concat l with rfl | ⟨d, a, rfl⟩
  · exact absurd rfl hl
  rw [List.concat_eq_append] at h ⊢
  have e : co (d ++ [a]) ((d ++ [a]).length - 1) = a := by simp [co]
  rw [e]
  rintro rfl
  have h2 := h.2
  rw [strip_snoc0] at h2
  have := strip_le d
  rw [h2] at this
  simp at this
  omega
theorem eq_of_dvd {p a b : Int} (ha : 0 ≤ a ∧ a < p) (hb : 0 ≤ b ∧ b < p) (h : p ∣ a - b) : a = b := by
  obtain ⟨t, ht⟩ := h
  have h1 : -p < p * t := by omega
  have h2 : p * t < p := by omega
  have hp : 0 < p := by omega
  have h3 : -1 < t := by
    apply Int.lt_of_mul_lt_mul_left (a := p) _ (by omega)
    omega
  have h4 : t < 1 := by
    apply Int.lt_of_mul_lt_mul_left (a := p) _ (by omega)
    omega
  have : t = 0 := by omega
  subst this
  omega
theorem Nf.ext {p : Int} (hp : 0 < p) {l m : List Int} (hl : Nf p l) (hm : Nf p m) (h : ∀ n, p ∣ co l n - co m n) : l = m := by
  have e : ∀ n, co l n = co m n := fun n => eq_of_dvd (hl.bd hp n) (hm.bd hp n) (h n)
  have le : ∀ {a b : List Int}, Nf p b → (∀ n, co a n = co b n) → b.length ≤ a.length := fun {a b} hb e => by
    apply Nat.le_of_not_lt
    intro hlt
    have hb' : b ≠ [] := by rintro rfl; simp at hlt
    have := hb.last hb'
    rw [← e, co_len (by omega)] at this
    exact this rfl
  have hlen : l.length = m.length := Nat.le_antisymm (le hl fun n => (e n).symm) (le hm e)
  apply List.ext_getElem? 
  intro i
  by_cases hi : i < l.length
  · rw [co_lt hi, co_lt (by omega), e]
  · rw [List.getElem?_eq_none (by omega), List.getElem?_eq_none (by omega)]
theorem Nf.nil {p : Int} : Nf p [] := ⟨fun x h => absurd h (by simp), rfl⟩
theorem nil_of {p : Int} (hp : 0 < p) {l : List Int} (hl : Nf p l) (h : ∀ n, p ∣ co l n) : l = [] := hl.ext hp Nf.nil fun n => by simpa [co] using h n
end PC.PM
end
section
/-! PcMath2: values at a number; rests; shared parts. -/
namespace PC.PM
def hv (x : Int) : List Int → Int
  | [] => 0
  | a :: l => a + x * hv x l
def Tv (x : Int) : Nat → F → Int
  | 0, _ => 0
  | N + 1, f => f 0 + x * Tv x N (fun n => f (n + 1))
theorem Tv_add (x : Int) : ∀ (N : Nat) (f g : F), Tv x N (fun n => f n + g n) = Tv x N f + Tv x N g
  | 0, _, _ => rfl
  | N + 1, f, g => by
    show f 0 + g 0 + x * Tv x N (fun n => f (n + 1) + g (n + 1)) = _
    rw [Tv_add x N (fun n => f (n + 1)) (fun n => g (n + 1))]
    simp only [Tv]
    grind
theorem Tv_mul (x c : Int) : ∀ (N : Nat) (f : F), Tv x N (fun n => c * f n) = c * Tv x N f
  | 0, _ => by simp [Tv]
  | N + 1, f => by
    show c * f 0 + x * Tv x N (fun n => c * f (n + 1)) = _
    rw [Tv_mul x c N (fun n => f (n + 1))]
    simp only [Tv]
    grind
theorem Tv_dvd {p : Int} (x : Int) : ∀ (N : Nat) (f : F), (∀ n, p ∣ f n) → p ∣ Tv x N f
  | 0, _, _ => Int.dvd_zero _
  | N + 1, f, h => Int.dvd_add (h 0) (Int.dvd_mul_of_dvd_right (Tv_dvd x N _ fun n => h (n + 1)))
theorem Tv_sh (x : Int) (g : F) : ∀ (k N : Nat), Tv x (N + k) (sh k g) = x ^ k * Tv x N g
  | 0, N => by
    have : sh 0 g = g := funext fun n => sh0 g n
    rw [this]; simp
  | k + 1, N => by
    show sh (k + 1) g 0 + x * Tv x (N + k) (fun n => sh (k + 1) g (n + 1)) = _
    have e : (fun n => sh (k + 1) g (n + 1)) = sh k g := funext fun n => by unfold sh; by_cases h : k ≤ n <;> simp [h]
    rw [e, Tv_sh x g k N]
    have : sh (k + 1) g 0 = 0 := by simp [sh]
    rw [this, Int.pow_succ]
    grind
theorem Tv_co (x : Int) : ∀ (l : List Int) (N : Nat), l.length ≤ N → Tv x N (co l) = hv x l
  | [], N, _ => by
    have : ∀ N, Tv x N (co []) = 0 := by
      intro N
      induction N with
      | zero => rfl
      | succ N ih =>
        show co [] 0 + x * Tv x N (fun n => co [] (n + 1)) = 0
        have e : (fun n => co [] (n + 1)) = co [] := funext fun n => by simp [co]
        rw [e, ih]
        simp [co]
    exact this N
  | a :: l, N, h => by
    cases N with
    | zero => simp at h
    | succ N =>
      show co (a :: l) 0 + x * Tv x N (fun n => co (a :: l) (n + 1)) = _
      have e : (fun n => co (a :: l) (n + 1)) = co l := funext fun n => by simp [co]
      rw [e, Tv_co x l N (by simpa using h)]
      rfl
theorem Tv_act (x : Int) (b : List Int) : ∀ (a : List Int) (N : Nat), a.length + b.length ≤ N → Tv x N (act a (co b)) = hv x a * hv x b
  | [], N, _ => by
    have e : act [] (co b) = fun n => 0 * co b n := funext fun n => by simp [act]
    rw [e, Tv_mul]
    simp [hv]
  | a :: q, N, h => by
    have h' : q.length + 1 + b.length ≤ N := by simpa using h
    obtain ⟨N, rfl⟩ : ∃ M, N = M + 1 := ⟨N - 1, by omega⟩
    have e : act (a :: q) (co b) = fun n => a * co b n + sh 1 (act q (co b)) n := rfl
    rw [e, Tv_add x (N + 1) (fun n => a * co b n), Tv_mul, Tv_co x b (N + 1) (by omega), Tv_sh x _ 1 N, Tv_act x b q N (by omega)]
    simp only [hv]
    grind
theorem Tv_sub (x : Int) (N : Nat) (f g : F) : Tv x N (fun n => f n - g n) = Tv x N f - Tv x N g := by
  have e : (fun n => f n - g n) = fun n => f n + (-1) * g n := funext fun n => by omega
  rw [e, Tv_add x N f, Tv_mul]
  omega
def Root (p x : Int) (f : F) : Prop := ∃ N0, ∀ N, N0 ≤ N → p ∣ Tv x N f
section
variable {p x : Int} {G : F → Prop}
theorem Root.id (hG : ∀ g, G g → Root p x g) {f : F} (i : Id p G f) : Root p x f := by
  induction i with
  | zero h => exact ⟨0, fun N _ => Tv_dvd x N _ h⟩
  | @step f f' g c k hg _ h2 ih =>
    obtain ⟨N1, h1⟩ := ih
    obtain ⟨N2, h3⟩ := hG _ hg
    refine ⟨N1 + N2 + k, fun N hN => ?_⟩
    have a1 := h1 N (by omega)
    have a2 := h3 (N - k) (by omega)
    have a3 := Tv_dvd x N _ h2
    rw [Tv_sub, Tv_add x N f, Tv_mul] at a3
    have e : Tv x N (sh k g) = x ^ k * Tv x (N - k) g := by
      have := Tv_sh x g k (N - k)
      rwa [Nat.sub_add_cancel (by omega)] at this
    rw [e] at a3
    refine dvd_lin a3 (Int.dvd_add a1 (Int.dvd_mul_of_dvd_right (b := c) (Int.dvd_mul_of_dvd_right (b := x ^ k) a2))) (by omega)
theorem root_co (l : List Int) : Root p x (co l) ↔ p ∣ hv x l := by
  constructor
  · rintro ⟨N0, h⟩
    have := h (N0 + l.length) (by omega)
    rwa [Tv_co x l _ (by omega)] at this
  · intro h
    exact ⟨l.length, fun N hN => by rw [Tv_co x l N hN]; exact h⟩
theorem hv_prod {a b c : List Int} (h : ∀ n, p ∣ co c n - act a (co b) n) : p ∣ hv x c - hv x a * hv x b := by
  have := Tv_dvd x (a.length + b.length + c.length) _ h
  rwa [Tv_sub, Tv_co x c _ (by omega), Tv_act x b a _ (by omega)] at this
end
/-! ### multiples of a list -/
abbrev Mu (p : Int) (l : List Int) : F → Prop := Id p (fun g => g = co l)
/-- numbers that are not 0 have a mate -/
def Mates (p : Int) : Prop := ∀ a, 0 < a → a < p → ∃ u, p ∣ u * a - 1
section
variable {p : Int} {f : F} {g h r r' : List Int}
theorem Mu.self (l : List Int) : Mu p l (co l) := Id.gen rfl
theorem Mu.act (q l : List Int) : Mu p l (act q (co l)) := by
  induction q with
  | nil => exact .zero fun _ => Int.dvd_zero _
  | cons a q ih =>
    have h1 := ((Mu.self (p := p) l).mv a 0).add (ih.mv 1 1)
    exact h1.congr fun n => ⟨0, by rw [sh0, act_cons]; omega⟩
theorem lead (hp : 0 < p) (hm : Mates p) (hg : Nf p g) (hn : g ≠ []) : ∃ u, p ∣ u * co g (g.length - 1) - 1 := by
  have h1 := hg.bd hp (g.length - 1)
  have h2 := hg.last hn
  exact hm _ (by omega) h1.2
theorem Mu.small (hp : 0 < p) (hm : Mates p) (hg : Nf p g) (hn : g ≠ []) (i : Mu p g f) (hf : ∀ n, g.length - 1 ≤ n → p ∣ f n) : ∀ n, p ∣ f n := by
  obtain ⟨u, hu⟩ := lead hp hm hg hn
  have hl : 0 < g.length := List.length_pos_iff.mpr hn
  exact uniq (g := co g) (d := g.length - 1) hu (fun n h => by rw [co_len (by omega)]; exact Int.dvd_zero _) i hf
/-- a rest is told by its length -/
theorem rest_one (hp : 0 < p) (hm : Mates p) (hg : Nf p g) (hr : Nf p r) (hr' : Nf p r') (l1 : r.length < g.length) (l2 : r'.length < g.length) (i : Mu p g (fun n => f n - co r n)) (j : Mu p g (fun n => f n - co r' n)) : r = r' := by
  have hn : g ≠ [] := by rintro rfl; simp at l1
  have k : Mu p g (fun n => co r n - co r' n) := (j.sub i).congr fun n => ⟨0, by omega⟩
  exact hr.ext hp hr' (Mu.small hp hm hg hn k fun n hn => by rw [co_len (by omega), co_len (by omega)]; exact Int.dvd_zero _)
theorem Mu.len (hp : 0 < p) (hm : Mates p) (hg : Nf p g) (hh : Nf p h) (hn : h ≠ []) (hgn : g ≠ []) (i : Mu p g (co h)) : g.length ≤ h.length := by
  apply Nat.le_of_not_lt
  intro hlt
  exact hn (nil_of hp hh (Mu.small hp hm hg hgn i fun n hk => by rw [co_len (by omega)]; exact Int.dvd_zero _))
theorem Mu.nil (hp : 0 < p) (hh : Nf p h) (i : Mu p [] (co h)) : h = [] := by
  apply nil_of hp hh
  have : ∀ {f : F}, Mu p [] f → ∀ n, p ∣ f n := by
    intro f i
    induction i with
    | zero h => exact h
    | step c k hg _ h2 ih =>
      subst hg
      intro n
      have e : sh k (co []) n = 0 := by unfold sh; split <;> simp [co]
      have := h2 n
      rw [e] at this
      exact dvd_lin this (ih n) (by omega)
  exact this i
theorem Mu.trans (i : Mu p g (co h)) (j : Mu p h f) : Mu p g f := j.mono fun x hx => by subst hx; exact i
theorem monic_eq (hp : 0 < p) (hm : Mates p) (hg : Nf p g) (hh : Nf p h) (h1 : co g (g.length - 1) = 1) (h2 : co h (h.length - 1) = 1) (i : Mu p g (co h)) (j : Mu p h (co g)) : g = h := by
  have gn : g ≠ [] := by rintro rfl; simp [co] at h1
  have hn : h ≠ [] := by rintro rfl; simp [co] at h2
  have e : g.length = h.length := Nat.le_antisymm (Mu.len hp hm hg hh hn gn i) (Mu.len hp hm hh hg gn hn j)
  have k : Mu p g (fun n => co g n - co h n) := (Mu.self g).sub i
  refine hg.ext hp hh (Mu.small hp hm hg gn k fun n hk => ?_)
  by_cases hx : n = g.length - 1
  · subst hx
    rw [h1, e, h2]
    exact Int.dvd_zero _
  · rw [co_len (by omega), co_len (by omega)]
    exact Int.dvd_zero _
end
end PC.PM
end
section
namespace LAW
open PySem PySem.Spec PyProof.Rows L2 PC
def d0 : Def := ⟨"inverse_of", 2, ["number", "p", "found", "power"], (.cons (.asg (.name 2) (.int 1))
    (.cons (.asg (.name 3) (.bin .sub (.var 1) (.int 2)))
    (.cons (.aug 0 .mod (.var 1))
    (.cons (.whl (.cmp .gt (.var 3) (.int 0)) (.cons (.if_ (.cmp .eq (.bin .mod (.var 3) (.int 2)) (.int 1)) (.cons (.asg (.name 2) (.bin .mod (.bin .mul (.var 2) (.var 0)) (.var 1)))
    .nil) .nil)
    (.cons (.asg (.name 0) (.bin .mod (.bin .mul (.var 0) (.var 0)) (.var 1)))
    (.cons (.aug 3 .div (.int 2))
    .nil))))
    (.cons (.ret (.var 2))
    .nil))))), none⟩
def d1 : Def := ⟨"trimmed", 2, ["p", "numbers", "found", "number"], (.cons (.thaw 2 (.comp (.name 3) [3] (.seq (.var 1)) false (.bl true) (.bin .mod (.var 3) (.var 0))))
    (.cons (.whl (.and (.cmp .gt (.b1 .len (.var 2)) (.int 0)) (.cmp .eq (.ix (.var 2) (.neg (.int 1))) (.int 0))) (.cons (.pop (.var 2))
    .nil))
    (.cons (.ret (.b1 .tuple (.var 2)))
    .nil))), none⟩
def d2 : Def := ⟨"poly_sum", 3, ["p", "one", "two", "k"], (.cons (.if_ (.cmp .lt (.b1 .len (.var 1)) (.b1 .len (.var 2))) (.cons (.par [1, 2] (.cons (.var 2) (.cons (.var 1) .nil)))
    .nil) .nil)
    (.cons (.ret (.call 1 (.cons (.var 0) (.cons (.comp (.name 3) [3] (.rng1 (.b1 .len (.var 1))) false (.bl true) (.bin .add (.ix (.var 1) (.var 3)) (.ite (.cmp .lt (.var 3) (.b1 .len (.var 2))) (.ix (.var 2) (.var 3)) (.int 0)))) .nil))))
    .nil)), none⟩
def d3 : Def := ⟨"poly_times", 3, ["p", "one", "number", "item"], (.cons (.ret (.call 1 (.cons (.var 0) (.cons (.comp (.name 3) [3] (.seq (.var 1)) false (.bl true) (.bin .mul (.var 2) (.var 3))) .nil))))
    .nil), none⟩
def d4 : Def := ⟨"poly_product", 3, ["p", "one", "two", "found", "i", "j"], (.cons (.thaw 3 (.bin .mul (.lst (.cons (.int 0) .nil)) (.bin .add (.b1 .len (.var 1)) (.b1 .len (.var 2)))))
    (.cons (.for_ (.name 4) (.rng1 (.b1 .len (.var 1))) (.cons (.if_ (.cmp .ne (.ix (.var 1) (.var 4)) (.int 0)) (.cons (.for_ (.name 5) (.rng1 (.b1 .len (.var 2))) (.cons (.augi (.var 3) (.bin .add (.var 4) (.var 5)) .add (.bin .mul (.ix (.var 1) (.var 4)) (.ix (.var 2) (.var 5))))
    .nil))
    .nil) .nil)
    .nil))
    (.cons (.ret (.call 1 (.cons (.var 0) (.cons (.var 3) .nil))))
    .nil))), none⟩
def d5 : Def := ⟨"divided", 3, ["p", "one", "two", "rest", "top", "found", "k", "times", "j"], (.cons (.thaw 3 (.b1 .list (.var 1)))
    (.cons (.asg (.name 4) (.call 0 (.cons (.ix (.var 2) (.neg (.int 1))) (.cons (.var 0) .nil))))
    (.cons (.thaw 5 (.bin .mul (.lst (.cons (.int 0) .nil)) (.b2 .max (.int 0) (.bin .add (.bin .sub (.b1 .len (.var 1)) (.b1 .len (.var 2))) (.int 1)))))
    (.cons (.for_ (.name 6) (.rng3 (.bin .sub (.b1 .len (.var 5)) (.int 1)) (.neg (.int 1)) (.neg (.int 1))) (.cons (.asg (.name 7) (.bin .mod (.bin .mul (.ix (.var 3) (.bin .sub (.bin .add (.var 6) (.b1 .len (.var 2))) (.int 1))) (.var 4)) (.var 0)))
    (.cons (.seti (.var 5) (.var 6) (.var 7))
    (.cons (.if_ (.cmp .ne (.var 7) (.int 0)) (.cons (.for_ (.name 8) (.rng1 (.b1 .len (.var 2))) (.cons (.seti (.var 3) (.bin .add (.var 6) (.var 8)) (.bin .mod (.bin .sub (.ix (.var 3) (.bin .add (.var 6) (.var 8))) (.bin .mul (.var 7) (.ix (.var 2) (.var 8)))) (.var 0)))
    .nil))
    .nil) .nil)
    .nil))))
    (.cons (.ret (.tup (.cons (.call 1 (.cons (.var 0) (.cons (.var 5) .nil))) (.cons (.call 1 (.cons (.var 0) (.cons (.var 3) .nil))) .nil))))
    .nil))))), none⟩
def d6 : Def := ⟨"poly_rest", 3, ["p", "one", "two"], (.cons (.ret (.ix (.call 5 (.cons (.var 0) (.cons (.var 1) (.cons (.var 2) .nil)))) (.int 1)))
    .nil), none⟩
def d7 : Def := ⟨"poly_at", 3, ["p", "one", "x", "found", "number"], (.cons (.asg (.name 3) (.int 0))
    (.cons (.for_ (.name 4) (.seq (.rev (.var 1))) (.cons (.asg (.name 3) (.bin .mod (.bin .add (.bin .mul (.var 3) (.var 2)) (.var 4)) (.var 0)))
    .nil))
    (.cons (.ret (.var 3))
    .nil))), none⟩
def d8 : Def := ⟨"with_top_one", 2, ["p", "one"], (.cons (.ret (.ite (.cmp .gt (.b1 .len (.var 1)) (.int 0)) (.call 3 (.cons (.var 0) (.cons (.var 1) (.cons (.call 0 (.cons (.ix (.var 1) (.neg (.int 1))) (.cons (.var 0) .nil))) .nil)))) (.tup .nil)))
    .nil), none⟩
def d9 : Def := ⟨"shared_poly", 3, ["p", "one", "two"], (.cons (.whl (.cmp .gt (.b1 .len (.var 2)) (.int 0)) (.cons (.par [1, 2] (.cons (.var 2) (.cons (.call 6 (.cons (.var 0) (.cons (.var 1) (.cons (.var 2) .nil)))) .nil)))
    .nil))
    (.cons (.ret (.call 8 (.cons (.var 0) (.cons (.var 1) .nil))))
    .nil)), none⟩
def d10 : Def := ⟨"_law_same", 2, ["actual", "due", "k"], (.cons (.if_ (.or (.isi (.var 1) .tuple) (.isi (.var 1) .list)) (.cons (.if_ (.or (.cmp .ne (.isi (.var 1) .tuple) (.isi (.var 0) .tuple)) (.or (.cmp .ne (.isi (.var 1) .list) (.isi (.var 0) .list)) (.cmp .ne (.b1 .len (.var 0)) (.b1 .len (.var 1))))) (.cons (.ret (.bl false))
    .nil) .nil)
    (.cons (.ret (.cmp .eq (.b1 .len (.comp (.name 2) [2] (.rng1 (.b1 .len (.var 1))) true (.not (.call 10 (.cons (.ix (.var 0) (.var 2)) (.cons (.ix (.var 1) (.var 2)) .nil)))) (.var 2))) (.int 0)))
    .nil)) .nil)
    (.cons (.if_ (.cmp .isn (.var 1) .non) (.cons (.ret (.cmp .isn (.var 0) .non))
    .nil) .nil)
    (.cons (.if_ (.or (.isi (.var 1) .bool) (.isi (.var 0) .bool)) (.cons (.ret (.and (.isi (.var 1) .bool) (.and (.isi (.var 0) .bool) (.cmp .eq (.var 0) (.var 1)))))
    .nil) .nil)
    (.cons (.if_ (.isi (.var 1) .int) (.cons (.ret (.and (.isi (.var 0) .int) (.cmp .eq (.var 0) (.var 1))))
    .nil) .nil)
    (.cons (.ret (.and (.isi (.var 0) .str) (.cmp .eq (.var 0) (.var 1))))
    .nil))))), none⟩
def d11 : Def := ⟨"_law_pool", 1, ["script", "salt", "cell"], (.cons (.asg (.name 1) (.int 7))
    (.cons (.for_ (.name 2) (.seq (.shi (.var 0) (.int 63))) (.cons (.asg (.name 1) (.bin .mod (.b1 .int (.bin .add (.bin .mul (.var 1) (.int 31)) (.var 2))) (.int 1000003)))
    .nil))
    .nil)), some (.lst (.cons (.b1 .list (.var 0)) (.cons (.int 0) (.cons (.int 0) (.cons (.int 0) (.cons (.var 1) .nil))))))⟩
def d12 : Def := ⟨"_law_spread", 1, ["cell", "mixed", "total", "k"], (.cons (.asg (.name 1) (.bin .mod (.b1 .int (.var 0)) (.int 2147483647)))
    (.cons (.asg (.name 2) (.int 1))
    (.cons (.for_ (.name 3) (.rng1 (.int 4)) (.cons (.asg (.name 1) (.bin .mod (.b1 .int (.bin .add (.bin .add (.bin .mul (.var 1) (.int 48271)) (.int 12345)) (.var 3))) (.int 2147483647)))
    (.cons (.asg (.name 2) (.bin .add (.bin .mul (.var 2) (.int 2147483647)) (.var 1)))
    .nil)))
    (.cons (.ret (.var 2))
    .nil)))), none⟩
def d13 : Def := ⟨"_law_draw", 2, ["pool", "many", "value", "cell", "mixed"], (.cons (.if_ (.and (.cmp .le (.ix (.var 0) (.int 2)) (.int 0)) (.cmp .lt (.ix (.var 0) (.int 1)) (.b1 .len (.ix (.var 0) (.int 0))))) (.cons (.asg (.name 3) (.ix (.ix (.var 0) (.int 0)) (.ix (.var 0) (.int 1))))
    (.cons (.seti (.var 0) (.int 1) (.bin .add (.ix (.var 0) (.int 1)) (.int 1)))
    (.cons (.seti (.var 0) (.int 2) (.var 3))
    (.cons (.if_ (.cmp .lt (.var 3) (.int 1000000000000000000)) (.cons (.seti (.var 0) (.int 2) (.call 12 (.cons (.var 3) .nil)))
    .nil) .nil)
    .nil)))) .nil)
    (.cons (.seti (.var 0) (.int 3) (.bin .add (.ix (.var 0) (.int 3)) (.int 1)))
    (.cons (.if_ (.cmp .le (.ix (.var 0) (.int 2)) (.int 0)) (.cons (.asg (.name 4) (.bin .mod (.b1 .int (.bin .add (.bin .add (.bin .mul (.ix (.var 0) (.int 4)) (.int 48271)) (.bin .mul (.ix (.var 0) (.int 3)) (.int 69621))) (.int 1))) (.int 2147483647)))
    (.cons (.asg (.name 4) (.bin .mod (.b1 .int (.bin .add (.bin .mul (.var 4) (.int 16807)) (.ix (.var 0) (.int 3)))) (.int 2147483629)))
    (.cons (.ret (.bin .mod (.bin .div (.var 4) (.int 5)) (.var 1)))
    .nil))) .nil)
    (.cons (.asg (.name 2) (.bin .mod (.b1 .int (.ix (.var 0) (.int 2))) (.var 1)))
    (.cons (.seti (.var 0) (.int 2) (.bin .div (.ix (.var 0) (.int 2)) (.var 1)))
    (.cons (.ret (.var 2))
    .nil)))))), none⟩
def d14 : Def := ⟨"_law_pick", 2, ["pool", "items"], (.cons (.ret (.ix (.var 1) (.call 13 (.cons (.var 0) (.cons (.b1 .len (.var 1)) .nil)))))
    .nil), none⟩
def d15 : Def := ⟨"_law_prime", 2, ["pool", "most", "p"], (.cons (.ret (.call 14 (.cons (.var 0) (.cons (.comp (.name 2) [2] (.seq (.tup (.cons (.int 5) (.cons (.int 7) (.cons (.int 11) (.cons (.int 13) (.cons (.int 17) (.cons (.int 19) (.cons (.int 23) (.cons (.int 29) (.cons (.int 31) (.cons (.int 37) (.cons (.int 41) (.cons (.int 43) (.cons (.int 47) (.cons (.int 53) (.cons (.int 59) (.cons (.int 61) .nil)))))))))))))))))) true (.cmp .le (.var 2) (.var 1)) (.var 2)) .nil))))
    .nil), none⟩
def d16 : Def := ⟨"_law_poly_mod", 2, ["p", "numbers", "n"], (.cons (.asg (.name 1) (.comp (.name 2) [2] (.seq (.var 1)) false (.bl true) (.bin .mod (.b1 .int (.var 2)) (.var 0))))
    (.cons (.whl (.and (.cmp .gt (.b1 .len (.var 1)) (.int 0)) (.cmp .eq (.ix (.var 1) (.neg (.int 1))) (.int 0))) (.cons (.asg (.name 1) (.shi (.var 1) (.neg (.int 1))))
    .nil))
    (.cons (.ret (.b1 .tuple (.var 1)))
    .nil))), none⟩
def d17 : Def := ⟨"_law_poly_mul", 3, ["p", "one", "two", "found", "i", "j"], (.cons (.thaw 3 (.bin .mul (.lst (.cons (.int 0) .nil)) (.bin .add (.b1 .len (.var 1)) (.b1 .len (.var 2)))))
    (.cons (.for_ (.name 4) (.rng1 (.b1 .len (.var 1))) (.cons (.for_ (.name 5) (.rng1 (.b1 .len (.var 2))) (.cons (.seti (.var 3) (.bin .add (.var 4) (.var 5)) (.bin .add (.ix (.var 3) (.bin .add (.var 4) (.var 5))) (.bin .mul (.ix (.var 1) (.var 4)) (.ix (.var 2) (.var 5)))))
    .nil))
    .nil))
    (.cons (.ret (.call 16 (.cons (.var 0) (.cons (.var 3) .nil))))
    .nil))), none⟩
def d18 : Def := ⟨"_law_poly_value", 3, ["p", "one", "x", "found", "k"], (.cons (.asg (.name 3) (.int 0))
    (.cons (.for_ (.name 4) (.rng1 (.b1 .len (.var 1))) (.cons (.asg (.name 3) (.bin .add (.bin .mul (.var 3) (.var 2)) (.ix (.var 1) (.bin .sub (.bin .sub (.b1 .len (.var 1)) (.int 1)) (.var 4)))))
    .nil))
    (.cons (.ret (.bin .mod (.b1 .int (.var 3)) (.var 0)))
    .nil))), none⟩
def d19 : Def := ⟨"law", 1, ["script", "pool", "p", "many", "total", "product", "x", "shared", "both", "one", "two", "three", "rest", "left", "right", "j", "k", "n"], (.cons (.thaw 1 (.call 11 (.cons (.var 0) .nil)))
    (.cons (.asg (.name 2) (.call 15 (.cons (.var 1) (.cons (.int 61) .nil))))
    (.cons (.asg (.tup (.cons (.name 9) (.cons (.name 10) (.cons (.name 11) .nil)))) (.comp (.name 15) [15] (.rng1 (.int 3)) false (.bl true) (.call 16 (.cons (.var 2) (.cons (.comp (.name 16) [16] (.rng1 (.call 13 (.cons (.var 1) (.cons (.int 8) .nil)))) false (.bl true) (.call 13 (.cons (.var 1) (.cons (.var 2) .nil)))) .nil)))))
    (.cons (.asg (.name 3) (.b2 .max (.b1 .len (.var 9)) (.b1 .len (.var 10))))
    (.cons (.asg (.name 4) (.call 16 (.cons (.var 2) (.cons (.comp (.name 16) [16] (.rng1 (.var 3)) false (.bl true) (.bin .add (.ite (.cmp .lt (.var 16) (.b1 .len (.var 9))) (.ix (.var 9) (.var 16)) (.int 0)) (.ite (.cmp .lt (.var 16) (.b1 .len (.var 10))) (.ix (.var 10) (.var 16)) (.int 0)))) .nil))))
    (.cons (.asg (.name 5) (.call 17 (.cons (.var 2) (.cons (.var 9) (.cons (.var 10) .nil)))))
    (.cons (.if_ (.not (.call 10 (.cons (.lst (.cons (.call 2 (.cons (.var 2) (.cons (.var 9) (.cons (.var 10) .nil)))) (.cons (.call 4 (.cons (.var 2) (.cons (.var 9) (.cons (.var 10) .nil)))) .nil))) (.cons (.lst (.cons (.var 4) (.cons (.var 5) .nil))) .nil)))) (.cons (.ret (.bl false))
    .nil) .nil)
    (.cons (.asg (.name 6) (.call 13 (.cons (.var 1) (.cons (.var 2) .nil))))
    (.cons (.if_ (.not (.call 10 (.cons (.lst (.cons (.call 7 (.cons (.var 2) (.cons (.var 9) (.cons (.var 6) .nil)))) (.cons (.call 7 (.cons (.var 2) (.cons (.var 5) (.cons (.var 6) .nil)))) .nil))) (.cons (.lst (.cons (.call 18 (.cons (.var 2) (.cons (.var 9) (.cons (.var 6) .nil)))) (.cons (.bin .mod (.b1 .int (.bin .mul (.call 18 (.cons (.var 2) (.cons (.var 9) (.cons (.var 6) .nil)))) (.call 18 (.cons (.var 2) (.cons (.var 10) (.cons (.var 6) .nil)))))) (.var 2)) .nil))) .nil)))) (.cons (.ret (.bl false))
    .nil) .nil)
    (.cons (.if_ (.cmp .ne (.var 11) (.tup .nil)) (.cons (.asg (.name 12) (.call 6 (.cons (.var 2) (.cons (.var 9) (.cons (.var 11) .nil)))))
    (.cons (.if_ (.or (.cmp .ge (.b1 .len (.var 12)) (.b1 .len (.var 11))) (.cmp .ne (.call 6 (.cons (.var 2) (.cons (.call 2 (.cons (.var 2) (.cons (.var 9) (.cons (.b1 .tuple (.comp (.name 17) [17] (.seq (.var 12)) false (.bl true) (.bin .mod (.b1 .int (.bin .sub (.int 0) (.var 17))) (.var 2)))) .nil)))) (.cons (.var 11) .nil)))) (.tup .nil))) (.cons (.ret (.bl false))
    .nil) .nil)
    (.cons (.if_ (.or (.cmp .ne (.call 6 (.cons (.var 2) (.cons (.call 2 (.cons (.var 2) (.cons (.call 17 (.cons (.var 2) (.cons (.var 10) (.cons (.var 11) .nil)))) (.cons (.var 12) .nil)))) (.cons (.var 11) .nil)))) (.var 12)) (.cmp .ne (.call 6 (.cons (.var 2) (.cons (.var 12) (.cons (.var 11) .nil)))) (.var 12))) (.cons (.ret (.bl false))
    .nil) .nil)
    .nil))) .nil)
    (.cons (.par [13, 14] (.cons (.call 17 (.cons (.var 2) (.cons (.var 9) (.cons (.var 11) .nil)))) (.cons (.call 17 (.cons (.var 2) (.cons (.var 10) (.cons (.var 11) .nil)))) .nil)))
    (.cons (.asg (.name 7) (.call 9 (.cons (.var 2) (.cons (.var 13) (.cons (.var 14) .nil)))))
    (.cons (.if_ (.and (.cmp .eq (.var 13) (.tup .nil)) (.cmp .eq (.var 14) (.tup .nil))) (.cons (.ret (.cmp .eq (.var 7) (.tup .nil)))
    .nil) .nil)
    (.cons (.if_ (.or (.cmp .ne (.ix (.var 7) (.neg (.int 1))) (.int 1)) (.or (.cmp .ne (.call 6 (.cons (.var 2) (.cons (.var 13) (.cons (.var 7) .nil)))) (.tup .nil)) (.or (.cmp .ne (.call 6 (.cons (.var 2) (.cons (.var 14) (.cons (.var 7) .nil)))) (.tup .nil)) (.and (.cmp .ne (.var 11) (.tup .nil)) (.cmp .ne (.call 6 (.cons (.var 2) (.cons (.var 7) (.cons (.var 11) .nil)))) (.tup .nil)))))) (.cons (.ret (.bl false))
    .nil) .nil)
    (.cons (.asg (.name 8) (.comp (.name 16) [16] (.rng1 (.var 2)) true (.and (.cmp .eq (.call 18 (.cons (.var 2) (.cons (.var 13) (.cons (.var 16) .nil)))) (.int 0)) (.cmp .eq (.call 18 (.cons (.var 2) (.cons (.var 14) (.cons (.var 16) .nil)))) (.int 0))) (.var 16)))
    (.cons (.if_ (.cmp .ne (.comp (.name 16) [16] (.rng1 (.var 2)) true (.cmp .eq (.call 18 (.cons (.var 2) (.cons (.var 7) (.cons (.var 16) .nil)))) (.int 0)) (.var 16)) (.var 8)) (.cons (.ret (.bl false))
    .nil) .nil)
    (.cons (.ret (.and (.cmp .eq (.call 9 (.cons (.var 2) (.cons (.var 14) (.cons (.var 13) .nil)))) (.var 7)) (.cmp .eq (.call 9 (.cons (.var 2) (.cons (.var 7) (.cons (.var 13) .nil)))) (.var 7))))
    .nil))))))))))))))))), none⟩
def T : Tab := ⟨[d0, d1, d2, d3, d4, d5, d6, d7, d8, d9, d10, d11, d12, d13, d14, d15, d16, d17, d18, d19], []⟩
def C (k : Nat) : Call := callD T.defs 1000000 k
theorem c0 (k : Nat) (rs : List R) (S : Store) : C (k+1) 0 rs S = if rs.length = 2 then back S.length (exSs (C k) 1000000 d0.body (start d0.names.length rs) S) else none := rfl
theorem c1 (k : Nat) (rs : List R) (S : Store) : C (k+1) 1 rs S = if rs.length = 2 then back S.length (exSs (C k) 1000000 d1.body (start d1.names.length rs) S) else none := rfl
theorem c2 (k : Nat) (rs : List R) (S : Store) : C (k+1) 2 rs S = if rs.length = 3 then back S.length (exSs (C k) 1000000 d2.body (start d2.names.length rs) S) else none := rfl
theorem c3 (k : Nat) (rs : List R) (S : Store) : C (k+1) 3 rs S = if rs.length = 3 then back S.length (exSs (C k) 1000000 d3.body (start d3.names.length rs) S) else none := rfl
theorem c4 (k : Nat) (rs : List R) (S : Store) : C (k+1) 4 rs S = if rs.length = 3 then back S.length (exSs (C k) 1000000 d4.body (start d4.names.length rs) S) else none := rfl
theorem c5 (k : Nat) (rs : List R) (S : Store) : C (k+1) 5 rs S = if rs.length = 3 then back S.length (exSs (C k) 1000000 d5.body (start d5.names.length rs) S) else none := rfl
theorem c6 (k : Nat) (rs : List R) (S : Store) : C (k+1) 6 rs S = if rs.length = 3 then back S.length (exSs (C k) 1000000 d6.body (start d6.names.length rs) S) else none := rfl
theorem c7 (k : Nat) (rs : List R) (S : Store) : C (k+1) 7 rs S = if rs.length = 3 then back S.length (exSs (C k) 1000000 d7.body (start d7.names.length rs) S) else none := rfl
theorem c8 (k : Nat) (rs : List R) (S : Store) : C (k+1) 8 rs S = if rs.length = 2 then back S.length (exSs (C k) 1000000 d8.body (start d8.names.length rs) S) else none := rfl
theorem c9 (k : Nat) (rs : List R) (S : Store) : C (k+1) 9 rs S = if rs.length = 3 then back S.length (exSs (C k) 1000000 d9.body (start d9.names.length rs) S) else none := rfl
theorem c10 (k : Nat) (rs : List R) (S : Store) : C (k+1) 10 rs S = if rs.length = 2 then back S.length (exSs (C k) 1000000 d10.body (start d10.names.length rs) S) else none := rfl
theorem c11 (k : Nat) (rs : List R) (S : Store) : C (k+1) 11 rs S = if rs.length = 1 then backN S.length (C k) (d11.fin.getD .non) (exSs (C k) 1000000 d11.body (start d11.names.length rs) S) else none := rfl
theorem c12 (k : Nat) (rs : List R) (S : Store) : C (k+1) 12 rs S = if rs.length = 1 then back S.length (exSs (C k) 1000000 d12.body (start d12.names.length rs) S) else none := rfl
theorem c13 (k : Nat) (rs : List R) (S : Store) : C (k+1) 13 rs S = if rs.length = 2 then back S.length (exSs (C k) 1000000 d13.body (start d13.names.length rs) S) else none := rfl
theorem c14 (k : Nat) (rs : List R) (S : Store) : C (k+1) 14 rs S = if rs.length = 2 then back S.length (exSs (C k) 1000000 d14.body (start d14.names.length rs) S) else none := rfl
theorem c15 (k : Nat) (rs : List R) (S : Store) : C (k+1) 15 rs S = if rs.length = 2 then back S.length (exSs (C k) 1000000 d15.body (start d15.names.length rs) S) else none := rfl
theorem c16 (k : Nat) (rs : List R) (S : Store) : C (k+1) 16 rs S = if rs.length = 2 then back S.length (exSs (C k) 1000000 d16.body (start d16.names.length rs) S) else none := rfl
theorem c17 (k : Nat) (rs : List R) (S : Store) : C (k+1) 17 rs S = if rs.length = 3 then back S.length (exSs (C k) 1000000 d17.body (start d17.names.length rs) S) else none := rfl
theorem c18 (k : Nat) (rs : List R) (S : Store) : C (k+1) 18 rs S = if rs.length = 3 then back S.length (exSs (C k) 1000000 d18.body (start d18.names.length rs) S) else none := rfl
theorem c19 (k : Nat) (rs : List R) (S : Store) : C (k+1) 19 rs S = if rs.length = 1 then back S.length (exSs (C k) 1000000 d19.body (start d19.names.length rs) S) else none := rfl
end LAW
end
section
namespace LAW
open PC PC.PM
/-- a value that reads as this list, whatever is added behind the store -/
def Rd (r : R) (S : Store) (d : D) : Prop := ∀ T, viewS r (S ++ T) = some d
theorem Rd.d (d : D) (S : Store) : Rd (.d d) S d := fun _ => rfl
theorem Rd.loc {n : Nat} {S : Store} {xs : List D} (h : S[n]? = some (.lst xs)) : Rd (.loc n) S (.list xs) := fun T => by
  have hl : n < S.length := (List.getElem?_eq_some_iff.mp h).1
  exact viewS_loc (by rw [List.getElem?_append_left hl]; exact h)
theorem trimmed_ok (k : Nat) (p : Int) (hp : 0 < p) (l : List Int) (hl : l.length < 1000000) (r : R) (S : Store) (hr : Rd r S (lI l)) : C (k+1) 1 [.d (.int p), r] S = some (.d (tI (trim p l)), S) := by
  rw [c1]
  have e1 : evE (C k) (.comp (.name 3) [3] (.seq (.var 1)) false (.bl true) (.bin .mod (.var 3) (.var 0))) [some (.d (.int p)), some r, none, none] S = some (.d (lI (l.map fun n => n % p)), S) := by
    have h0 := hr []
    rw [List.append_nil] at h0
    refine ev_compI (J := .seq r l.length) l (fun n => n % p) ?_ rfl (by omega) (fun i acc hi => ?_) (fun acc => ?_) (fun x hx acc => ?_)
    · simp [ev_var, ev_glob, ev_int, ev_bl, ev_non, ev_str, ev_bin, ev_neg, ev_not, ev_and, ev_or, ev_cmp, ev_chain, ev_ite, ev_ix, ev_slo, ev_shi, ev_rev, ev_tup, ev_lst, ev_b1, ev_b2, ev_isi, ev_call, evs_nil, evs_cons, evi_rng1, evi_rng2, evi_rng3, evi_seq, evi_zip, ex_asg, ex_thaw, ex_par, ex_aug, ex_seti, ex_augi, ex_if_, ex_ret, ex_app, ex_ext, ex_pop, ex_pass, exs_nil, exs_cons, ex_for_, ex_whl, ev_comp, binI_add, binI_sub, binI_mulL, binI_mulR, binI_div, binI_mod, bin_int, cmp_int, cmpI_eq, cmpI_ne, cmpI_lt, cmpI_le, cmpI_gt, cmpI_ge, view_d, viewS_d, viewS_scr, b1_len_list, b1_len_tuple, b1_int_int, b1_tuple_list, b1_list_list, b1_list_tuple, ix_list, ix_tuple, asg_name, asg_tupT, asg_tupL, asgs_nil, asgs_cons, back_rt, back_nx, st_F, te_W, bd_W, st_C0, st_C1, wipe_nil, wipe_cons, sets_nil, sets_cons, pures_nil, pures_cons, rng_n, seq_n, rng_get, seq_list, seq_tuple, seq_getT, seq_getL, seq_getS, rng_fin, start_eq, iL_len, iL_snoc, iL_nil, h0]
    · exact seq_get (hr _) rfl
    · exact seq_fin (hr _) rfl (Nat.le_of_eq (iL_len l))
    · simp [ev_var, ev_glob, ev_int, ev_bl, ev_non, ev_str, ev_bin, ev_neg, ev_not, ev_and, ev_or, ev_cmp, ev_chain, ev_ite, ev_ix, ev_slo, ev_shi, ev_rev, ev_tup, ev_lst, ev_b1, ev_b2, ev_isi, ev_call, evs_nil, evs_cons, evi_rng1, evi_rng2, evi_rng3, evi_seq, evi_zip, ex_asg, ex_thaw, ex_par, ex_aug, ex_seti, ex_augi, ex_if_, ex_ret, ex_app, ex_ext, ex_pop, ex_pass, exs_nil, exs_cons, ex_for_, ex_whl, ev_comp, binI_add, binI_sub, binI_mulL, binI_mulR, binI_div, binI_mod, bin_int, cmp_int, cmpI_eq, cmpI_ne, cmpI_lt, cmpI_le, cmpI_gt, cmpI_ge, view_d, viewS_d, viewS_scr, b1_len_list, b1_len_tuple, b1_int_int, b1_tuple_list, b1_list_list, b1_list_tuple, ix_list, ix_tuple, asg_name, asg_tupT, asg_tupL, asgs_nil, asgs_cons, back_rt, back_nx, st_F, te_W, bd_W, st_C0, st_C1, wipe_nil, wipe_cons, sets_nil, sets_cons, pures_nil, pures_cons, rng_n, seq_n, rng_get, seq_list, seq_tuple, seq_getT, seq_getL, seq_getS, rng_fin, start_eq, iL_len, iL_snoc, iL_nil, hp]
  have e2 : ∃ ρ' s', whlN (testW (C k) (.and (.cmp .gt (.b1 .len (.var 2)) (.int 0)) (.cmp .eq (.ix (.var 2) (.neg (.int 1))) (.int 0)))) (bodyW (C k) 1000000 (.cons (.pop (.var 2)) .nil)) 1000000 [some (.d (.int p)), some r, some (.loc S.length), none] (S ++ [.lst (iL (l.map fun n => n % p))]) = some (.nx ρ' s') ∧
      ρ' = [some (.d (.int p)), some r, some (.loc S.length), none] ∧ s' = S ++ [.lst (iL (trim p l))] := by
    refine whlN_inv _ _ (fun m ρ s => ρ = [some (.d (.int p)), some r, some (.loc S.length), none] ∧ ∃ c : List Int, s = S ++ [.lst (iL c)] ∧ strip c = trim p l ∧ m = c.length) (fun ρ s => ρ = [some (.d (.int p)), some r, some (.loc S.length), none] ∧ s = S ++ [.lst (iL (trim p l))]) ?_ 1000000 l.length _ _ (by omega) ⟨rfl, _, rfl, rfl, by simp⟩
    rintro m ρ s ⟨rfl, c, rfl, hc, rfl⟩
    rcases List.eq_nil_or_concat c with rfl | ⟨d, a, rfl⟩
    · have hc' : trim p l = [] := hc.symm
      refine .inl ⟨S ++ [.lst []], ?_, rfl, by rw [hc']; rfl⟩
      simp [ev_var, ev_glob, ev_int, ev_bl, ev_non, ev_str, ev_bin, ev_neg, ev_not, ev_and, ev_or, ev_cmp, ev_chain, ev_ite, ev_ix, ev_slo, ev_shi, ev_rev, ev_tup, ev_lst, ev_b1, ev_b2, ev_isi, ev_call, evs_nil, evs_cons, evi_rng1, evi_rng2, evi_rng3, evi_seq, evi_zip, ex_asg, ex_thaw, ex_par, ex_aug, ex_seti, ex_augi, ex_if_, ex_ret, ex_app, ex_ext, ex_pop, ex_pass, exs_nil, exs_cons, ex_for_, ex_whl, ev_comp, binI_add, binI_sub, binI_mulL, binI_mulR, binI_div, binI_mod, bin_int, cmp_int, cmpI_eq, cmpI_ne, cmpI_lt, cmpI_le, cmpI_gt, cmpI_ge, view_d, viewS_d, viewS_scr, b1_len_list, b1_len_tuple, b1_int_int, b1_tuple_list, b1_list_list, b1_list_tuple, ix_list, ix_tuple, asg_name, asg_tupT, asg_tupL, asgs_nil, asgs_cons, back_rt, back_nx, st_F, te_W, bd_W, st_C0, st_C1, wipe_nil, wipe_cons, sets_nil, sets_cons, pures_nil, pures_cons, rng_n, seq_n, rng_get, seq_list, seq_tuple, seq_getT, seq_getL, seq_getS, rng_fin, start_eq, iL_len, iL_snoc, iL_nil, viewS_last, view_last]
    · rw [List.concat_eq_append] at hc ⊢
      by_cases ha : a = 0
      · subst ha
        refine .inr ⟨S ++ [.lst (iL (d ++ [0]))], _, _, d.length, ?_, ?_, by simp, rfl, d, rfl, by rw [← hc, strip_snoc0], rfl⟩
        · simp [ev_var, ev_glob, ev_int, ev_bl, ev_non, ev_str, ev_bin, ev_neg, ev_not, ev_and, ev_or, ev_cmp, ev_chain, ev_ite, ev_ix, ev_slo, ev_shi, ev_rev, ev_tup, ev_lst, ev_b1, ev_b2, ev_isi, ev_call, evs_nil, evs_cons, evi_rng1, evi_rng2, evi_rng3, evi_seq, evi_zip, ex_asg, ex_thaw, ex_par, ex_aug, ex_seti, ex_augi, ex_if_, ex_ret, ex_app, ex_ext, ex_pop, ex_pass, exs_nil, exs_cons, ex_for_, ex_whl, ev_comp, binI_add, binI_sub, binI_mulL, binI_mulR, binI_div, binI_mod, bin_int, cmp_int, cmpI_eq, cmpI_ne, cmpI_lt, cmpI_le, cmpI_gt, cmpI_ge, view_d, viewS_d, viewS_scr, b1_len_list, b1_len_tuple, b1_int_int, b1_tuple_list, b1_list_list, b1_list_tuple, ix_list, ix_tuple, asg_name, asg_tupT, asg_tupL, asgs_nil, asgs_cons, back_rt, back_nx, st_F, te_W, bd_W, st_C0, st_C1, wipe_nil, wipe_cons, sets_nil, sets_cons, pures_nil, pures_cons, rng_n, seq_n, rng_get, seq_list, seq_tuple, seq_getT, seq_getL, seq_getS, rng_fin, start_eq, iL_len, iL_snoc, iL_nil, viewS_last, view_last, atI_last]
        · simp [ev_var, ev_glob, ev_int, ev_bl, ev_non, ev_str, ev_bin, ev_neg, ev_not, ev_and, ev_or, ev_cmp, ev_chain, ev_ite, ev_ix, ev_slo, ev_shi, ev_rev, ev_tup, ev_lst, ev_b1, ev_b2, ev_isi, ev_call, evs_nil, evs_cons, evi_rng1, evi_rng2, evi_rng3, evi_seq, evi_zip, ex_asg, ex_thaw, ex_par, ex_aug, ex_seti, ex_augi, ex_if_, ex_ret, ex_app, ex_ext, ex_pop, ex_pass, exs_nil, exs_cons, ex_for_, ex_whl, ev_comp, binI_add, binI_sub, binI_mulL, binI_mulR, binI_div, binI_mod, bin_int, cmp_int, cmpI_eq, cmpI_ne, cmpI_lt, cmpI_le, cmpI_gt, cmpI_ge, view_d, viewS_d, viewS_scr, b1_len_list, b1_len_tuple, b1_int_int, b1_tuple_list, b1_list_list, b1_list_tuple, ix_list, ix_tuple, asg_name, asg_tupT, asg_tupL, asgs_nil, asgs_cons, back_rt, back_nx, st_F, te_W, bd_W, st_C0, st_C1, wipe_nil, wipe_cons, sets_nil, sets_cons, pures_nil, pures_cons, rng_n, seq_n, rng_get, seq_list, seq_tuple, seq_getT, seq_getL, seq_getS, rng_fin, start_eq, iL_len, iL_snoc, iL_nil, at_last, set_last]
      · refine .inl ⟨S ++ [.lst (iL (d ++ [a]))], ?_, rfl, by rw [← hc, strip_snoc ha]⟩
        simp [ev_var, ev_glob, ev_int, ev_bl, ev_non, ev_str, ev_bin, ev_neg, ev_not, ev_and, ev_or, ev_cmp, ev_chain, ev_ite, ev_ix, ev_slo, ev_shi, ev_rev, ev_tup, ev_lst, ev_b1, ev_b2, ev_isi, ev_call, evs_nil, evs_cons, evi_rng1, evi_rng2, evi_rng3, evi_seq, evi_zip, ex_asg, ex_thaw, ex_par, ex_aug, ex_seti, ex_augi, ex_if_, ex_ret, ex_app, ex_ext, ex_pop, ex_pass, exs_nil, exs_cons, ex_for_, ex_whl, ev_comp, binI_add, binI_sub, binI_mulL, binI_mulR, binI_div, binI_mod, bin_int, cmp_int, cmpI_eq, cmpI_ne, cmpI_lt, cmpI_le, cmpI_gt, cmpI_ge, view_d, viewS_d, viewS_scr, b1_len_list, b1_len_tuple, b1_int_int, b1_tuple_list, b1_list_list, b1_list_tuple, ix_list, ix_tuple, asg_name, asg_tupT, asg_tupL, asgs_nil, asgs_cons, back_rt, back_nx, st_F, te_W, bd_W, st_C0, st_C1, wipe_nil, wipe_cons, sets_nil, sets_cons, pures_nil, pures_cons, rng_n, seq_n, rng_get, seq_list, seq_tuple, seq_getT, seq_getL, seq_getS, rng_fin, start_eq, iL_len, iL_snoc, iL_nil, viewS_last, view_last, atI_last, ha]
  obtain ⟨ρ', s', e2, rfl, rfl⟩ := e2
  simp [d1, ev_var, ev_glob, ev_int, ev_bl, ev_non, ev_str, ev_bin, ev_neg, ev_not, ev_and, ev_or, ev_cmp, ev_chain, ev_ite, ev_ix, ev_slo, ev_shi, ev_rev, ev_tup, ev_lst, ev_b1, ev_b2, ev_isi, ev_call, evs_nil, evs_cons, evi_rng1, evi_rng2, evi_rng3, evi_seq, evi_zip, ex_asg, ex_thaw, ex_par, ex_aug, ex_seti, ex_augi, ex_if_, ex_ret, ex_app, ex_ext, ex_pop, ex_pass, exs_nil, exs_cons, ex_for_, ex_whl, ev_comp, binI_add, binI_sub, binI_mulL, binI_mulR, binI_div, binI_mod, bin_int, cmp_int, cmpI_eq, cmpI_ne, cmpI_lt, cmpI_le, cmpI_gt, cmpI_ge, view_d, viewS_d, viewS_scr, b1_len_list, b1_len_tuple, b1_int_int, b1_tuple_list, b1_list_list, b1_list_tuple, ix_list, ix_tuple, asg_name, asg_tupT, asg_tupL, asgs_nil, asgs_cons, back_rt, back_nx, st_F, te_W, bd_W, st_C0, st_C1, wipe_nil, wipe_cons, sets_nil, sets_cons, pures_nil, pures_cons, rng_n, seq_n, rng_get, seq_list, seq_tuple, seq_getT, seq_getL, seq_getS, rng_fin, start_eq, iL_len, iL_snoc, iL_nil, e1, e2, viewS_last]

/-! ### the mate of a number -/
def mir : Nat → Int → Int → Int → Int → Int
  | 0, _, _, found, _ => found
  | m + 1, p, number, found, power => if 0 < power then mir m p (number * number % p) (if power % 2 = 1 then found * number % p else found) (power / 2) else found
theorem smI_of {x : Int} (h0 : 0 ≤ x) (h1 : x < 1000000) : smI x = true := by
  unfold smI
  exact decide_eq_true (by omega)
theorem inv_ok (k : Nat) (p n : Int) (hp : 4 < p) (hp2 : p < 100) (S : Store) : C (k+1) 0 [.d (.int n), .d (.int p)] S = some (.d (.int (mir 7 p (n % p) 1 (p - 2))), S) := by
  rw [c0]
  have hp0 : 0 < p := by omega
  have e2 : ∃ ρ' s', whlN (testW (C k) (.cmp .gt (.var 3) (.int 0))) (bodyW (C k) 1000000 (.cons (.if_ (.cmp .eq (.bin .mod (.var 3) (.int 2)) (.int 1)) (.cons (.asg (.name 2) (.bin .mod (.bin .mul (.var 2) (.var 0)) (.var 1))) .nil) .nil) (.cons (.asg (.name 0) (.bin .mod (.bin .mul (.var 0) (.var 0)) (.var 1))) (.cons (.aug 3 .div (.int 2)) .nil)))) 1000000 [some (.d (.int (n % p))), some (.d (.int p)), some (.d (.int 1)), some (.d (.int (p - 2)))] S = some (.nx ρ' s') ∧
      ∃ x y, ρ' = [x, y, some (.d (.int (mir 7 p (n % p) 1 (p - 2)))), some (.d (.int 0))] ∧ s' = S := by
    refine whlN_inv _ _ (fun m ρ s => s = S ∧ m ≤ 7 ∧ ∃ x f w : Int, ρ = [some (.d (.int x)), some (.d (.int p)), some (.d (.int f)), some (.d (.int w))] ∧ 0 ≤ x ∧ x < p ∧ mir m p x f w = mir 7 p (n % p) 1 (p - 2) ∧ 0 ≤ w ∧ w < 2 ^ m) (fun ρ s => ∃ x y, ρ = [x, y, some (.d (.int (mir 7 p (n % p) 1 (p - 2)))), some (.d (.int 0))] ∧ s = S) ?_ 1000000 7 _ _ (by omega) ⟨rfl, by omega, _, _, _, rfl, Int.emod_nonneg _ (by omega), Int.emod_lt_of_pos _ hp0, rfl, by omega, by show p - 2 < 128; omega⟩
    rintro m ρ s ⟨rfl, hm, x, f, w, rfl, hx0, hx1, hv, hw0, hw1⟩
    have hx : smI x = true := smI_of hx0 (by omega)
    by_cases h : 0 < w
    · cases m with
      | zero => exact absurd hw1 (by simp; omega)
      | succ m =>
        have hw2 : w / 2 < 2 ^ m := by
          have : w < 2 ^ m * 2 := by rw [← Int.pow_succ]; exact hw1
          omega
        by_cases h2 : w % 2 = 1
        · refine .inr ⟨s, _, _, m, ?_, ?_, Nat.lt_succ_self m, rfl, by omega, x * x % p, f * x % p, w / 2, rfl, Int.emod_nonneg _ (by omega), Int.emod_lt_of_pos _ hp0, ?_, by omega, hw2⟩
          · simp [ev_var, ev_glob, ev_int, ev_bl, ev_non, ev_str, ev_bin, ev_neg, ev_not, ev_and, ev_or, ev_cmp, ev_chain, ev_ite, ev_ix, ev_slo, ev_shi, ev_rev, ev_tup, ev_lst, ev_b1, ev_b2, ev_isi, ev_call, evs_nil, evs_cons, evi_rng1, evi_rng2, evi_rng3, evi_seq, evi_zip, ex_asg, ex_thaw, ex_par, ex_aug, ex_seti, ex_augi, ex_if_, ex_ret, ex_app, ex_ext, ex_pop, ex_pass, exs_nil, exs_cons, ex_for_, ex_whl, ev_comp, binI_add, binI_sub, binI_mulL, binI_mulR, binI_div, binI_mod, bin_int, cmp_int, cmpI_eq, cmpI_ne, cmpI_lt, cmpI_le, cmpI_gt, cmpI_ge, view_d, viewS_d, viewS_scr, b1_len_list, b1_len_tuple, b1_int_int, b1_tuple_list, b1_list_list, b1_list_tuple, ix_list, ix_tuple, asg_name, asg_tupT, asg_tupL, asgs_nil, asgs_cons, back_rt, back_nx, st_F, te_W, bd_W, st_C0, st_C1, wipe_nil, wipe_cons, sets_nil, sets_cons, pures_nil, pures_cons, rng_n, seq_n, rng_get, seq_list, seq_tuple, seq_getT, seq_getL, seq_getS, rng_fin, start_eq, iL_len, iL_snoc, iL_nil, h]
          · simp [ev_var, ev_glob, ev_int, ev_bl, ev_non, ev_str, ev_bin, ev_neg, ev_not, ev_and, ev_or, ev_cmp, ev_chain, ev_ite, ev_ix, ev_slo, ev_shi, ev_rev, ev_tup, ev_lst, ev_b1, ev_b2, ev_isi, ev_call, evs_nil, evs_cons, evi_rng1, evi_rng2, evi_rng3, evi_seq, evi_zip, ex_asg, ex_thaw, ex_par, ex_aug, ex_seti, ex_augi, ex_if_, ex_ret, ex_app, ex_ext, ex_pop, ex_pass, exs_nil, exs_cons, ex_for_, ex_whl, ev_comp, binI_add, binI_sub, binI_mulL, binI_mulR, binI_div, binI_mod, bin_int, cmp_int, cmpI_eq, cmpI_ne, cmpI_lt, cmpI_le, cmpI_gt, cmpI_ge, view_d, viewS_d, viewS_scr, b1_len_list, b1_len_tuple, b1_int_int, b1_tuple_list, b1_list_list, b1_list_tuple, ix_list, ix_tuple, asg_name, asg_tupT, asg_tupL, asgs_nil, asgs_cons, back_rt, back_nx, st_F, te_W, bd_W, st_C0, st_C1, wipe_nil, wipe_cons, sets_nil, sets_cons, pures_nil, pures_cons, rng_n, seq_n, rng_get, seq_list, seq_tuple, seq_getT, seq_getL, seq_getS, rng_fin, start_eq, iL_len, iL_snoc, iL_nil, h2, hx, hp0]
          · rw [← hv]
            simp [mir, h, h2]
        · refine .inr ⟨s, _, _, m, ?_, ?_, Nat.lt_succ_self m, rfl, by omega, x * x % p, f, w / 2, rfl, Int.emod_nonneg _ (by omega), Int.emod_lt_of_pos _ hp0, ?_, by omega, hw2⟩
          · simp [ev_var, ev_glob, ev_int, ev_bl, ev_non, ev_str, ev_bin, ev_neg, ev_not, ev_and, ev_or, ev_cmp, ev_chain, ev_ite, ev_ix, ev_slo, ev_shi, ev_rev, ev_tup, ev_lst, ev_b1, ev_b2, ev_isi, ev_call, evs_nil, evs_cons, evi_rng1, evi_rng2, evi_rng3, evi_seq, evi_zip, ex_asg, ex_thaw, ex_par, ex_aug, ex_seti, ex_augi, ex_if_, ex_ret, ex_app, ex_ext, ex_pop, ex_pass, exs_nil, exs_cons, ex_for_, ex_whl, ev_comp, binI_add, binI_sub, binI_mulL, binI_mulR, binI_div, binI_mod, bin_int, cmp_int, cmpI_eq, cmpI_ne, cmpI_lt, cmpI_le, cmpI_gt, cmpI_ge, view_d, viewS_d, viewS_scr, b1_len_list, b1_len_tuple, b1_int_int, b1_tuple_list, b1_list_list, b1_list_tuple, ix_list, ix_tuple, asg_name, asg_tupT, asg_tupL, asgs_nil, asgs_cons, back_rt, back_nx, st_F, te_W, bd_W, st_C0, st_C1, wipe_nil, wipe_cons, sets_nil, sets_cons, pures_nil, pures_cons, rng_n, seq_n, rng_get, seq_list, seq_tuple, seq_getT, seq_getL, seq_getS, rng_fin, start_eq, iL_len, iL_snoc, iL_nil, h]
          · simp [ev_var, ev_glob, ev_int, ev_bl, ev_non, ev_str, ev_bin, ev_neg, ev_not, ev_and, ev_or, ev_cmp, ev_chain, ev_ite, ev_ix, ev_slo, ev_shi, ev_rev, ev_tup, ev_lst, ev_b1, ev_b2, ev_isi, ev_call, evs_nil, evs_cons, evi_rng1, evi_rng2, evi_rng3, evi_seq, evi_zip, ex_asg, ex_thaw, ex_par, ex_aug, ex_seti, ex_augi, ex_if_, ex_ret, ex_app, ex_ext, ex_pop, ex_pass, exs_nil, exs_cons, ex_for_, ex_whl, ev_comp, binI_add, binI_sub, binI_mulL, binI_mulR, binI_div, binI_mod, bin_int, cmp_int, cmpI_eq, cmpI_ne, cmpI_lt, cmpI_le, cmpI_gt, cmpI_ge, view_d, viewS_d, viewS_scr, b1_len_list, b1_len_tuple, b1_int_int, b1_tuple_list, b1_list_list, b1_list_tuple, ix_list, ix_tuple, asg_name, asg_tupT, asg_tupL, asgs_nil, asgs_cons, back_rt, back_nx, st_F, te_W, bd_W, st_C0, st_C1, wipe_nil, wipe_cons, sets_nil, sets_cons, pures_nil, pures_cons, rng_n, seq_n, rng_get, seq_list, seq_tuple, seq_getT, seq_getL, seq_getS, rng_fin, start_eq, iL_len, iL_snoc, iL_nil, h2, hx, hp0]
          · rw [← hv]
            simp [mir, h, h2]
    · refine .inl ⟨s, ?_, some (.d (.int x)), some (.d (.int p)), ?_, rfl⟩
      · simp [ev_var, ev_glob, ev_int, ev_bl, ev_non, ev_str, ev_bin, ev_neg, ev_not, ev_and, ev_or, ev_cmp, ev_chain, ev_ite, ev_ix, ev_slo, ev_shi, ev_rev, ev_tup, ev_lst, ev_b1, ev_b2, ev_isi, ev_call, evs_nil, evs_cons, evi_rng1, evi_rng2, evi_rng3, evi_seq, evi_zip, ex_asg, ex_thaw, ex_par, ex_aug, ex_seti, ex_augi, ex_if_, ex_ret, ex_app, ex_ext, ex_pop, ex_pass, exs_nil, exs_cons, ex_for_, ex_whl, ev_comp, binI_add, binI_sub, binI_mulL, binI_mulR, binI_div, binI_mod, bin_int, cmp_int, cmpI_eq, cmpI_ne, cmpI_lt, cmpI_le, cmpI_gt, cmpI_ge, view_d, viewS_d, viewS_scr, b1_len_list, b1_len_tuple, b1_int_int, b1_tuple_list, b1_list_list, b1_list_tuple, ix_list, ix_tuple, asg_name, asg_tupT, asg_tupL, asgs_nil, asgs_cons, back_rt, back_nx, st_F, te_W, bd_W, st_C0, st_C1, wipe_nil, wipe_cons, sets_nil, sets_cons, pures_nil, pures_cons, rng_n, seq_n, rng_get, seq_list, seq_tuple, seq_getT, seq_getL, seq_getS, rng_fin, start_eq, iL_len, iL_snoc, iL_nil, h]
      · have hw : w = 0 := by omega
        subst hw
        have : mir m p x f 0 = f := by cases m <;> simp [mir]
        rw [← hv, this]
  obtain ⟨ρ', s', e2, x, y, rfl, rfl⟩ := e2
  simp [d0, ev_var, ev_glob, ev_int, ev_bl, ev_non, ev_str, ev_bin, ev_neg, ev_not, ev_and, ev_or, ev_cmp, ev_chain, ev_ite, ev_ix, ev_slo, ev_shi, ev_rev, ev_tup, ev_lst, ev_b1, ev_b2, ev_isi, ev_call, evs_nil, evs_cons, evi_rng1, evi_rng2, evi_rng3, evi_seq, evi_zip, ex_asg, ex_thaw, ex_par, ex_aug, ex_seti, ex_augi, ex_if_, ex_ret, ex_app, ex_ext, ex_pop, ex_pass, exs_nil, exs_cons, ex_for_, ex_whl, ev_comp, binI_add, binI_sub, binI_mulL, binI_mulR, binI_div, binI_mod, bin_int, cmp_int, cmpI_eq, cmpI_ne, cmpI_lt, cmpI_le, cmpI_gt, cmpI_ge, view_d, viewS_d, viewS_scr, b1_len_list, b1_len_tuple, b1_int_int, b1_tuple_list, b1_list_list, b1_list_tuple, ix_list, ix_tuple, asg_name, asg_tupT, asg_tupL, asgs_nil, asgs_cons, back_rt, back_nx, st_F, te_W, bd_W, st_C0, st_C1, wipe_nil, wipe_cons, sets_nil, sets_cons, pures_nil, pures_cons, rng_n, seq_n, rng_get, seq_list, seq_tuple, seq_getT, seq_getL, seq_getS, rng_fin, start_eq, iL_len, iL_snoc, iL_nil, hp0, e2]
def primes : List Int := [5, 7, 11, 13, 17, 19, 23, 29, 31, 37, 41, 43, 47, 53, 59, 61]
theorem mates_all : (primes.all fun p => (List.range 61).all fun n => !(decide (0 < n) && decide ((n : Int) < p)) || (decide (mir 7 p ((n : Int) % p) 1 (p - 2) * n % p = 1) && smI (mir 7 p ((n : Int) % p) 1 (p - 2)))) = true := by decide +kernel
theorem pr_bd : ∀ p ∈ primes, 4 < p ∧ p < 62 := by decide
theorem mate_of {p : Int} (hp : p ∈ primes) {a : Int} (h0 : 0 < a) (h1 : a < p) : p ∣ mir 7 p (a % p) 1 (p - 2) * a - 1 ∧ smI (mir 7 p (a % p) 1 (p - 2)) = true := by
  have hb := pr_bd p hp
  have h := List.all_eq_true.mp (List.all_eq_true.mp mates_all p hp) a.toNat (List.mem_range.mpr (by omega))
  have ea : ((a.toNat : Nat) : Int) = a := by omega
  rw [ea] at h
  have hc : (!(decide (0 < a.toNat) && decide (a < p))) = false := by
    have z1 : 0 < a.toNat := by omega
    simp [z1, h1]
  rw [hc, Bool.false_or] at h
  rw [Bool.and_eq_true] at h
  refine ⟨?_, h.2⟩
  have h3 := of_decide_eq_true h.1
  generalize mir 7 p (a % p) 1 (p - 2) * a = z at h3 ⊢
  exact ⟨z / p, by have := Int.mul_ediv_add_emod z p; omega⟩
theorem mates {p : Int} (hp : p ∈ primes) : Mates p := fun a h0 h1 => ⟨_, (mate_of hp h0 h1).1⟩
end LAW
end
section
namespace LAW
open PC PC.PM
theorem atI_iL {a : List Int} {i : Nat} (h : i < a.length) : L2.atI (iL a) (i : Int) = some (.int (co a i)) := atI_nat (by rw [iL_get, co_lt h]; rfl)
theorem co_rg (n : Nat) (f : Int → Int) (k : Nat) : co ((rg n).map f) k = if k < n then f k else 0 := by
  simp only [co, rg, List.getD_eq_getElem?_getD, List.map_map, List.getElem?_map]
  by_cases h : k < n
  · rw [List.getElem?_range h, if_pos h]; rfl
  · rw [List.getElem?_eq_none (by simpa using h), if_neg h]; rfl
theorem rg_len (n : Nat) : (rg n).length = n := by simp [rg]
theorem rg_mem {n : Nat} {x : Int} (h : x ∈ rg n) : ∃ i : Nat, i < n ∧ x = i := by
  obtain ⟨i, hi, rfl⟩ := List.mem_map.mp h
  exact ⟨i, List.mem_range.mp hi, rfl⟩
theorem rngOk_nat {n : Nat} (h : n < 1000000) : rngOk (n : Int) = true := by
  unfold rngOk
  rw [Bool.and_eq_true]
  exact ⟨decide_eq_true (by omega), decide_eq_true (by omega)⟩
/-! ### sums -/
def HTrim (Cl : Call) : Prop := ∀ (p : Int) (l : List Int) (r : R) (S : Store), 0 < p → l.length < 1000000 → Rd r S (lI l) → Cl 1 [.d (.int p), r] S = some (.d (tI (trim p l)), S)
theorem hTrim (k : Nat) : HTrim (C (k+1)) := fun p l r S hp hl hr => trimmed_ok k p hp l hl r S hr
theorem sum_core {Cl : Call} (hT : HTrim Cl) (p : Int) (hp : 0 < p) (a b : List Int) (ha : a.length < 1000000) (hab : b.length ≤ a.length) (S : Store) (x : Option R) :
    evE Cl (.call 1 (.cons (.var 0) (.cons (.comp (.name 3) [3] (.rng1 (.b1 .len (.var 1))) false (.bl true) (.bin .add (.ix (.var 1) (.var 3)) (.ite (.cmp .lt (.var 3) (.b1 .len (.var 2))) (.ix (.var 2) (.var 3)) (.int 0)))) .nil))) [some (.d (.int p)), some (.d (tI a)), some (.d (tI b)), x] S =
      some (.d (tI (trim p ((rg a.length).map fun i => co a i.toNat + co b i.toNat))), S) := by
  have e1 : evE Cl (.comp (.name 3) [3] (.rng1 (.b1 .len (.var 1))) false (.bl true) (.bin .add (.ix (.var 1) (.var 3)) (.ite (.cmp .lt (.var 3) (.b1 .len (.var 2))) (.ix (.var 2) (.var 3)) (.int 0)))) [some (.d (.int p)), some (.d (tI a)), some (.d (tI b)), x] S = some (.d (lI ((rg a.length).map fun i => co a i.toNat + co b i.toNat)), S) := by
    refine ev_compI (J := .rng 0 1 a.length) (rg a.length) (fun i => co a i.toNat + co b i.toNat) ?_ (rg_len _).symm (by rw [rg_len]; omega) (fun i acc hi => rg_get _ _ _ (by rwa [rg_len] at hi)) (fun acc => rfl) (fun y hy acc => ?_)
    · have := rngOk_nat ha
      simp [ev_var, ev_glob, ev_int, ev_bl, ev_non, ev_str, ev_bin, ev_neg, ev_not, ev_and, ev_or, ev_cmp, ev_chain, ev_ite, ev_ix, ev_slo, ev_shi, ev_rev, ev_tup, ev_lst, ev_b1, ev_b2, ev_isi, ev_call, evs_nil, evs_cons, evi_rng1, evi_rng2, evi_rng3, evi_seq, evi_zip, ex_asg, ex_thaw, ex_par, ex_aug, ex_seti, ex_augi, ex_if_, ex_ret, ex_app, ex_ext, ex_pop, ex_pass, exs_nil, exs_cons, ex_for_, ex_whl, ev_comp, binI_add, binI_sub, binI_mulL, binI_mulR, binI_div, binI_mod, bin_int, cmp_int, cmpI_eq, cmpI_ne, cmpI_lt, cmpI_le, cmpI_gt, cmpI_ge, view_d, viewS_d, viewS_scr, b1_len_list, b1_len_tuple, b1_int_int, b1_tuple_list, b1_list_list, b1_list_tuple, ix_list, ix_tuple, asg_name, asg_tupT, asg_tupL, asgs_nil, asgs_cons, back_rt, back_nx, st_F, te_W, bd_W, st_C0, st_C1, wipe_nil, wipe_cons, sets_nil, sets_cons, pures_nil, pures_cons, rng_n, seq_n, rng_get, seq_list, seq_tuple, seq_getT, seq_getL, seq_getS, rng_fin, start_eq, iL_len, iL_snoc, iL_nil, this]
    · obtain ⟨i, hi, rfl⟩ := rg_mem hy
      by_cases h : (i : Int) < b.length
      · simp [ev_var, ev_glob, ev_int, ev_bl, ev_non, ev_str, ev_bin, ev_neg, ev_not, ev_and, ev_or, ev_cmp, ev_chain, ev_ite, ev_ix, ev_slo, ev_shi, ev_rev, ev_tup, ev_lst, ev_b1, ev_b2, ev_isi, ev_call, evs_nil, evs_cons, evi_rng1, evi_rng2, evi_rng3, evi_seq, evi_zip, ex_asg, ex_thaw, ex_par, ex_aug, ex_seti, ex_augi, ex_if_, ex_ret, ex_app, ex_ext, ex_pop, ex_pass, exs_nil, exs_cons, ex_for_, ex_whl, ev_comp, binI_add, binI_sub, binI_mulL, binI_mulR, binI_div, binI_mod, bin_int, cmp_int, cmpI_eq, cmpI_ne, cmpI_lt, cmpI_le, cmpI_gt, cmpI_ge, view_d, viewS_d, viewS_scr, b1_len_list, b1_len_tuple, b1_int_int, b1_tuple_list, b1_list_list, b1_list_tuple, ix_list, ix_tuple, asg_name, asg_tupT, asg_tupL, asgs_nil, asgs_cons, back_rt, back_nx, st_F, te_W, bd_W, st_C0, st_C1, wipe_nil, wipe_cons, sets_nil, sets_cons, pures_nil, pures_cons, rng_n, seq_n, rng_get, seq_list, seq_tuple, seq_getT, seq_getL, seq_getS, rng_fin, start_eq, iL_len, iL_snoc, iL_nil, atI_iL hi, atI_iL (a := b) (i := i) (by omega), h]
      · simp [ev_var, ev_glob, ev_int, ev_bl, ev_non, ev_str, ev_bin, ev_neg, ev_not, ev_and, ev_or, ev_cmp, ev_chain, ev_ite, ev_ix, ev_slo, ev_shi, ev_rev, ev_tup, ev_lst, ev_b1, ev_b2, ev_isi, ev_call, evs_nil, evs_cons, evi_rng1, evi_rng2, evi_rng3, evi_seq, evi_zip, ex_asg, ex_thaw, ex_par, ex_aug, ex_seti, ex_augi, ex_if_, ex_ret, ex_app, ex_ext, ex_pop, ex_pass, exs_nil, exs_cons, ex_for_, ex_whl, ev_comp, binI_add, binI_sub, binI_mulL, binI_mulR, binI_div, binI_mod, bin_int, cmp_int, cmpI_eq, cmpI_ne, cmpI_lt, cmpI_le, cmpI_gt, cmpI_ge, view_d, viewS_d, viewS_scr, b1_len_list, b1_len_tuple, b1_int_int, b1_tuple_list, b1_list_list, b1_list_tuple, ix_list, ix_tuple, asg_name, asg_tupT, asg_tupL, asgs_nil, asgs_cons, back_rt, back_nx, st_F, te_W, bd_W, st_C0, st_C1, wipe_nil, wipe_cons, sets_nil, sets_cons, pures_nil, pures_cons, rng_n, seq_n, rng_get, seq_list, seq_tuple, seq_getT, seq_getL, seq_getS, rng_fin, start_eq, iL_len, iL_snoc, iL_nil, atI_iL hi, h, co_len (l := b) (n := i) (by omega)]
  have e2 := hT p ((rg a.length).map fun i => co a i.toNat + co b i.toNat) (.d (lI ((rg a.length).map fun i => co a i.toNat + co b i.toNat))) S hp (by rw [List.length_map, rg_len]; exact ha) (Rd.d _ _)
  exact (call2 (va := .d (.int p)) (by simp [ev_var]) e1).trans e2
theorem sum_ok {Cl : Call} (hT : HTrim Cl) (p : Int) (hp : 0 < p) (a b : List Int) (ha : a.length < 1000000) (hb : b.length < 1000000) (S : Store) :
    ∃ l, back S.length (exSs Cl 1000000 d2.body (start d2.names.length [.d (.int p), .d (tI a), .d (tI b)]) S) = some (.d (tI l), S) ∧ Nf p l ∧ (∀ n, co l n = (co a n + co b n) % p) ∧ l.length ≤ max a.length b.length := by
  by_cases h : (a.length : Int) < b.length
  · have := sum_core hT p hp b a hb (by omega) S none
    refine ⟨_, ?_, Nf.trim hp ((rg b.length).map fun i => co b i.toNat + co a i.toNat), fun n => ?_, ?_⟩
    · rw [d2]
      simp only [start_eq, List.length_cons, List.length_nil, List.map, List.cons_append, List.nil_append, List.replicate]
      rw [exs_cons, ex_if_]
      simp only [ev_cmp, ev_b1, ev_var, List.getElem?_cons_succ, List.getElem?_cons_zero, viewS_d, b1_len_tuple, iL_len, view_d, cmp_int, cmpI_lt, decide_eq_true h, exs_cons, ex_par, evs_cons, evs_nil, sets_cons, sets_nil, List.set, exs_nil, ex_ret]
      rw [this]
      simp [back_rt]
    · rw [trim_co, co_rg]
      split
      · rw [Int.toNat_natCast, Int.add_comm]
      · rw [co_len (l := a) (by omega), co_len (l := b) (by omega)]; rfl
    · have := trim_le p ((rg b.length).map fun i => co b i.toNat + co a i.toNat)
      rw [List.length_map, rg_len] at this
      omega
  · have := sum_core hT p hp a b ha (by omega) S none
    refine ⟨_, ?_, Nf.trim hp ((rg a.length).map fun i => co a i.toNat + co b i.toNat), fun n => ?_, ?_⟩
    · rw [d2]
      simp only [start_eq, List.length_cons, List.length_nil, List.map, List.cons_append, List.nil_append, List.replicate]
      rw [exs_cons, ex_if_]
      simp only [ev_cmp, ev_b1, ev_var, List.getElem?_cons_succ, List.getElem?_cons_zero, viewS_d, b1_len_tuple, iL_len, view_d, cmp_int, cmpI_lt, decide_eq_false h, exs_cons, exs_nil, ex_ret]
      rw [this]
      simp [back_rt]
    · rw [trim_co, co_rg]
      split
      · rw [Int.toNat_natCast]
      · rw [co_len (l := a) (by omega), co_len (l := b) (by omega)]; rfl
    · have := trim_le p ((rg a.length).map fun i => co a i.toNat + co b i.toNat)
      rw [List.length_map, rg_len] at this
      omega
end LAW
end
section
namespace LAW
open PC PC.PM
theorem Rd.last (S : Store) (xs : List D) : Rd (.loc S.length) (S ++ [.lst xs]) (.list xs) := Rd.loc (by simp)
theorem times_ok {Cl : Call} (hT : HTrim Cl) (p c : Int) (hp : 0 < p) (a : List Int) (ha : a.length < 1000000) (hc : smI c = true) (S : Store) :
    back S.length (exSs Cl 1000000 d3.body (start d3.names.length [.d (.int p), .d (tI a), .d (.int c)]) S) = some (.d (tI (trim p (a.map fun x => c * x))), S) := by
  have e1 : evE Cl (.comp (.name 3) [3] (.seq (.var 1)) false (.bl true) (.bin .mul (.var 2) (.var 3))) [some (.d (.int p)), some (.d (tI a)), some (.d (.int c)), none] S = some (.d (lI (a.map fun x => c * x)), S) := by
    refine ev_compI (J := .seq (.d (tI a)) a.length) a (fun x => c * x) ?_ rfl (by omega) (fun i acc hi => rfl) (fun acc => seq_fin rfl rfl (Nat.le_of_eq (iL_len a))) (fun x hx acc => ?_)
    · simp [ev_var, ev_glob, ev_int, ev_bl, ev_non, ev_str, ev_bin, ev_neg, ev_not, ev_and, ev_or, ev_cmp, ev_chain, ev_ite, ev_ix, ev_slo, ev_shi, ev_rev, ev_tup, ev_lst, ev_b1, ev_b2, ev_isi, ev_call, evs_nil, evs_cons, evi_rng1, evi_rng2, evi_rng3, evi_seq, evi_zip, ex_asg, ex_thaw, ex_par, ex_aug, ex_seti, ex_augi, ex_if_, ex_ret, ex_app, ex_ext, ex_pop, ex_pass, exs_nil, exs_cons, ex_for_, ex_whl, ev_comp, binI_add, binI_sub, binI_mulL, binI_mulR, binI_div, binI_mod, bin_int, cmp_int, cmpI_eq, cmpI_ne, cmpI_lt, cmpI_le, cmpI_gt, cmpI_ge, view_d, viewS_d, viewS_scr, b1_len_list, b1_len_tuple, b1_int_int, b1_tuple_list, b1_list_list, b1_list_tuple, ix_list, ix_tuple, asg_name, asg_tupT, asg_tupL, asgs_nil, asgs_cons, back_rt, back_nx, st_F, te_W, bd_W, st_C0, st_C1, wipe_nil, wipe_cons, sets_nil, sets_cons, pures_nil, pures_cons, rng_n, seq_n, rng_get, seq_list, seq_tuple, seq_getT, seq_getL, seq_getS, rng_fin, start_eq, iL_len, iL_snoc, iL_nil]
    · simp [ev_var, ev_glob, ev_int, ev_bl, ev_non, ev_str, ev_bin, ev_neg, ev_not, ev_and, ev_or, ev_cmp, ev_chain, ev_ite, ev_ix, ev_slo, ev_shi, ev_rev, ev_tup, ev_lst, ev_b1, ev_b2, ev_isi, ev_call, evs_nil, evs_cons, evi_rng1, evi_rng2, evi_rng3, evi_seq, evi_zip, ex_asg, ex_thaw, ex_par, ex_aug, ex_seti, ex_augi, ex_if_, ex_ret, ex_app, ex_ext, ex_pop, ex_pass, exs_nil, exs_cons, ex_for_, ex_whl, ev_comp, binI_add, binI_sub, binI_mulL, binI_mulR, binI_div, binI_mod, bin_int, cmp_int, cmpI_eq, cmpI_ne, cmpI_lt, cmpI_le, cmpI_gt, cmpI_ge, view_d, viewS_d, viewS_scr, b1_len_list, b1_len_tuple, b1_int_int, b1_tuple_list, b1_list_list, b1_list_tuple, ix_list, ix_tuple, asg_name, asg_tupT, asg_tupL, asgs_nil, asgs_cons, back_rt, back_nx, st_F, te_W, bd_W, st_C0, st_C1, wipe_nil, wipe_cons, sets_nil, sets_cons, pures_nil, pures_cons, rng_n, seq_n, rng_get, seq_list, seq_tuple, seq_getT, seq_getL, seq_getS, rng_fin, start_eq, iL_len, iL_snoc, iL_nil, hc]
  have e2 := hT p (a.map fun x => c * x) (.d (lI (a.map fun x => c * x))) S hp (by rw [List.length_map]; exact ha) (Rd.d _ _)
  have e3 := (call2 (C := Cl) (f := 1) (a := .var 0) (ρ := [some (.d (.int p)), some (.d (tI a)), some (.d (.int c)), none]) (s := S) (va := .d (.int p)) (by simp [ev_var]) e1).trans e2
  refine (back_of (rt_of (ret_of e3))).trans ?_
  simp
/-! ### products -/
abbrev eP (p : Int) (a b : List Int) (n : Nat) (x y : Option R) : Env := [some (.d (.int p)), some (.d (tI a)), some (.d (tI b)), some (.loc n), x, y]
theorem co_set {c : List Int} {m : Nat} (h : m < c.length) (v : Int) (n : Nat) : co (c.set m v) n = if n = m then v else co c n := by
  simp only [co, List.getD_eq_getElem?_getD, List.getElem?_set]
  by_cases e : m = n
  · subst e; simp [h]
  · rw [if_neg e, if_neg (Ne.symm e)]
theorem inner_ok {Cl : Call} {st : Ss} {p : Int} {a b : List Int} {S : Store} {i : Nat} (hi : i < a.length)
    (hst : ∀ (c : List Int) (j : Nat), c.length = a.length + b.length → j < b.length → exSs Cl 1000000 st (eP p a b S.length (some (.d (.int (i : Nat)))) (some (.d (.int (j : Nat))))) (S ++ [.lst (iL c)]) =
      some (.nx (eP p a b S.length (some (.d (.int (i : Nat)))) (some (.d (.int (j : Nat))))) (S ++ [.lst (iL (c.set (i + j) (co c (i + j) + co a i * co b j)))])))
    (c : List Int) (hc : c.length = a.length + b.length) (y : Option R) :
    ∃ y' c', forN (.rng 0 1 b.length) (stepF Cl 1000000 (.name 5) st) b.length 0 (eP p a b S.length (some (.d (.int (i : Nat)))) y) (S ++ [.lst (iL c)]) = some (.nx (eP p a b S.length (some (.d (.int (i : Nat)))) y') (S ++ [.lst (iL c')])) ∧
      c'.length = a.length + b.length ∧ ∀ n, co c' n = co c n + co a i * sh i (co b) n := by
  obtain ⟨ρ', s', h1, y', c', rfl, rfl, h2, h3⟩ := forN_inv (.rng 0 1 b.length) (stepF Cl 1000000 (.name 5) st) (iL (rg b.length)) (by rw [iL_len, rg_len]; rfl)
    (fun j ρ s => ∃ y c', ρ = eP p a b S.length (some (.d (.int (i : Nat)))) y ∧ s = S ++ [.lst (iL c')] ∧ c'.length = a.length + b.length ∧ ∀ n, co c' n = co c n + if i ≤ n ∧ n < i + j then co a i * co b (n - i) else 0)
    (ρ := eP p a b S.length (some (.d (.int (i : Nat)))) y) (s := S ++ [.lst (iL c)]) ⟨y, c, rfl, rfl, hc, fun n => by rw [if_neg (by omega)]; omega⟩
    (fun j ρ s _ hj => rg_get _ _ _ (by rwa [iL_len, rg_len] at hj)) (fun _ _ _ => rfl)
    (by
      rintro j x ρ s hx ⟨y, c', rfl, rfl, h2, h3⟩
      have hj : j < b.length := by
        have := (List.getElem?_eq_some_iff.mp hx).1
        rwa [iL_len, rg_len] at this
      have ex : x = .int (j : Nat) := by
        rw [← rg_get b.length j [] hj, rng_get] at hx
        have := Option.some.inj hx
        rw [← this]; simp
      subst ex
      refine ⟨eP p a b S.length (some (.d (.int (i : Nat)))) (some (.d (.int (j : Nat)))), S ++ [.lst (iL (c'.set (i + j) (co c' (i + j) + co a i * co b j)))], ?_, some (.d (.int (j : Nat))), c'.set (i + j) (co c' (i + j) + co a i * co b j), rfl, rfl, by rw [List.length_set, h2], fun n => ?_⟩
      · rw [st_F, asg_name]
        exact hst c' j h2 hj
      · rw [co_set (by omega)]
        by_cases hn : n = i + j
        · subst hn
          rw [if_pos rfl, h3, if_neg (by omega), if_pos (by omega), Nat.add_sub_cancel_left]
          omega
        · rw [if_neg hn, h3]
          by_cases hm : i ≤ n ∧ n < i + j
          · rw [if_pos hm, if_pos (by omega)]
          · rw [if_neg hm, if_neg (by omega)])
  refine ⟨y', c', h1, h2, fun n => ?_⟩
  rw [h3, iL_len, rg_len]
  unfold sh
  by_cases hn : i ≤ n
  · by_cases hm : n < i + b.length
    · rw [if_pos ⟨hn, hm⟩, if_pos hn]
    · rw [if_neg (by omega), if_pos hn, co_len (l := b) (by omega), Int.mul_zero]
  · rw [if_neg (by omega), if_neg hn, Int.mul_zero]
theorem act_take {a : List Int} {i : Nat} (hi : i < a.length) (g : F) (n : Nat) : act (a.take (i + 1)) g n = act (a.take i) g n + co a i * sh i g n := by
  have e : a.take (i + 1) = a.take i ++ [co a i] := by
    rw [List.take_add_one, co_lt hi]; rfl
  rw [e, act_snoc, List.length_take, Nat.min_eq_left (by omega)]
theorem outer_ok {Cl : Call} {st : Ss} {p : Int} {a b : List Int} {S : Store}
    (hst : ∀ (c : List Int) (i : Nat) (y : Option R), c.length = a.length + b.length → i < a.length → ∃ y' c', exSs Cl 1000000 st (eP p a b S.length (some (.d (.int (i : Nat)))) y) (S ++ [.lst (iL c)]) =
      some (.nx (eP p a b S.length (some (.d (.int (i : Nat)))) y') (S ++ [.lst (iL c')])) ∧ c'.length = a.length + b.length ∧ ∀ n, co c' n = co c n + co a i * sh i (co b) n) :
    ∃ x y c, forN (.rng 0 1 a.length) (stepF Cl 1000000 (.name 4) st) a.length 0 (eP p a b S.length none none) (S ++ [.lst (iL (List.replicate (a.length + b.length) 0))]) = some (.nx (eP p a b S.length x y) (S ++ [.lst (iL c)])) ∧
      c.length = a.length + b.length ∧ ∀ n, co c n = act a (co b) n := by
  obtain ⟨ρ', s', h1, x, y', c', rfl, rfl, h2, h3⟩ := forN_inv (.rng 0 1 a.length) (stepF Cl 1000000 (.name 4) st) (iL (rg a.length)) (by rw [iL_len, rg_len]; rfl)
    (fun i ρ s => ∃ x y c', ρ = eP p a b S.length x y ∧ s = S ++ [.lst (iL c')] ∧ c'.length = a.length + b.length ∧ ∀ n, co c' n = act (a.take i) (co b) n)
    (ρ := eP p a b S.length none none) (s := S ++ [.lst (iL (List.replicate (a.length + b.length) 0))]) ⟨none, none, List.replicate (a.length + b.length) 0, rfl, rfl, by simp, fun n => by
      have e : act (a.take 0) (co b) n = 0 := by simp [act]
      rw [e]
      simp only [co, List.getD_eq_getElem?_getD, List.getElem?_replicate]
      split <;> rfl⟩
    (fun j ρ s _ hj => rg_get _ _ _ (by rwa [iL_len, rg_len] at hj)) (fun _ _ _ => rfl)
    (by
      rintro i x ρ s hx ⟨x', y, c', rfl, rfl, h2, h3⟩
      have hi : i < a.length := by
        have := (List.getElem?_eq_some_iff.mp hx).1
        rwa [iL_len, rg_len] at this
      have ex : x = .int (i : Nat) := by
        rw [← rg_get a.length i [] hi, rng_get] at hx
        have := Option.some.inj hx
        rw [← this]; simp
      subst ex
      obtain ⟨y', c2, k1, k2, k3⟩ := hst c' i y h2 hi
      refine ⟨eP p a b S.length (some (.d (.int (i : Nat)))) y', S ++ [.lst (iL c2)], ?_, some (.d (.int (i : Nat))), y', c2, rfl, rfl, k2, fun n => by rw [k3, h3, act_take hi]⟩
      rw [st_F, asg_name]
      exact k1)
  refine ⟨x, y', c', h1, h2, fun n => ?_⟩
  rw [h3, iL_len, rg_len, List.take_length]

theorem zeros_ok {Cl : Call} {p : Int} {a b : List Int} (S : Store) (hab : a.length + b.length < 1000000) : evE Cl (.bin .mul (.lst (.cons (.int 0) .nil)) (.bin .add (.b1 .len (.var 1)) (.b1 .len (.var 2)))) [some (.d (.int p)), some (.d (tI a)), some (.d (tI b)), none, none, none] S = some (.d (lI (List.replicate (a.length + b.length) 0)), S) := by
  have e : (List.replicate (a.length + b.length) [(.int 0 : D)]).flatten = iL (List.replicate (a.length + b.length) 0) := by
    generalize a.length + b.length = n
    induction n with
    | zero => rfl
    | succ n ih => rw [List.replicate_succ, List.flatten_cons, ih]; rfl
  have e0 : ((a.length : Int) + (b.length : Int)).toNat = a.length + b.length := by omega
  have e1 : szOk ((a.length : Int) + (b.length : Int)).natAbs = true := Nat.ble_eq.mpr (by omega)
  have e2 : szOk (1 * (a.length + b.length)) = true := Nat.ble_eq.mpr (by omega)
  have e3 : szOk 1 = true := rfl
  have e4 : binD .mul (.list [.int 0]) (.int ((a.length : Int) + (b.length : Int))) = some (lI (List.replicate (a.length + b.length) 0)) := by
    unfold binD
    simp only [e0, List.length_cons, List.length_nil, Nat.zero_add, e1, e2, Bool.and_self, if_true, e]
  refine bin_of (s1 := S) (ra := .d (.list [.int 0])) (rb := .d (.int ((a.length : Int) + (b.length : Int)))) ?_ ?_ rfl rfl e4
  · simp [ev_var, ev_glob, ev_int, ev_bl, ev_non, ev_str, ev_bin, ev_neg, ev_not, ev_and, ev_or, ev_cmp, ev_chain, ev_ite, ev_ix, ev_slo, ev_shi, ev_rev, ev_tup, ev_lst, ev_b1, ev_b2, ev_isi, ev_call, evs_nil, evs_cons, evi_rng1, evi_rng2, evi_rng3, evi_seq, evi_zip, ex_asg, ex_thaw, ex_par, ex_aug, ex_seti, ex_augi, ex_if_, ex_ret, ex_app, ex_ext, ex_pop, ex_pass, exs_nil, exs_cons, ex_for_, ex_whl, ev_comp, binI_add, binI_sub, binI_mulL, binI_mulR, binI_div, binI_mod, bin_int, cmp_int, cmpI_eq, cmpI_ne, cmpI_lt, cmpI_le, cmpI_gt, cmpI_ge, view_d, viewS_d, viewS_scr, b1_len_list, b1_len_tuple, b1_int_int, b1_tuple_list, b1_list_list, b1_list_tuple, ix_list, ix_tuple, asg_name, asg_tupT, asg_tupL, asgs_nil, asgs_cons, back_rt, back_nx, st_F, te_W, bd_W, st_C0, st_C1, wipe_nil, wipe_cons, sets_nil, sets_cons, pures_nil, pures_cons, rng_n, seq_n, rng_get, seq_list, seq_tuple, seq_getT, seq_getL, seq_getS, rng_fin, start_eq, iL_len, iL_snoc, iL_nil, e3]
  · simp [ev_var, ev_glob, ev_int, ev_bl, ev_non, ev_str, ev_bin, ev_neg, ev_not, ev_and, ev_or, ev_cmp, ev_chain, ev_ite, ev_ix, ev_slo, ev_shi, ev_rev, ev_tup, ev_lst, ev_b1, ev_b2, ev_isi, ev_call, evs_nil, evs_cons, evi_rng1, evi_rng2, evi_rng3, evi_seq, evi_zip, ex_asg, ex_thaw, ex_par, ex_aug, ex_seti, ex_augi, ex_if_, ex_ret, ex_app, ex_ext, ex_pop, ex_pass, exs_nil, exs_cons, ex_for_, ex_whl, ev_comp, binI_add, binI_sub, binI_mulL, binI_mulR, binI_div, binI_mod, bin_int, cmp_int, cmpI_eq, cmpI_ne, cmpI_lt, cmpI_le, cmpI_gt, cmpI_ge, view_d, viewS_d, viewS_scr, b1_len_list, b1_len_tuple, b1_int_int, b1_tuple_list, b1_list_list, b1_list_tuple, ix_list, ix_tuple, asg_name, asg_tupT, asg_tupL, asgs_nil, asgs_cons, back_rt, back_nx, st_F, te_W, bd_W, st_C0, st_C1, wipe_nil, wipe_cons, sets_nil, sets_cons, pures_nil, pures_cons, rng_n, seq_n, rng_get, seq_list, seq_tuple, seq_getT, seq_getL, seq_getS, rng_fin, start_eq, iL_len, iL_snoc, iL_nil]
def HMod (Cl : Call) (f : Nat) : Prop := ∀ (p : Int) (l : List Int) (r : R) (S : Store), 0 < p → l.length < 1000000 → Rd r S (lI l) → Cl f [.d (.int p), r] S = some (.d (tI (trim p l)), S)
theorem smI_bd {p : Int} {a : List Int} (hp : 0 < p) (hp2 : p < 100) (ha : Nf p a) (n : Nat) : smI (co a n) = true := by
  have := ha.bd hp n
  exact smI_of this.1 (by omega)
theorem product_ok {Cl : Call} (hT : HMod Cl 1) (p : Int) (hp : 0 < p) (hp2 : p < 100) (a b : List Int) (hna : Nf p a) (hab : a.length + b.length < 1000000) (S : Store) :
    ∃ l, back S.length (exSs Cl 1000000 d4.body (start d4.names.length [.d (.int p), .d (tI a), .d (tI b)]) S) = some (.d (tI l), S) ∧ Nf p l ∧ (∀ n, co l n = act a (co b) n % p) ∧ l.length ≤ a.length + b.length := by
  have hA := rngOk_nat (n := a.length) (by omega)
  have hB := rngOk_nat (n := b.length) (by omega)
  obtain ⟨x, y, c, h1, h2, h3⟩ := outer_ok (Cl := Cl) (st := .cons (.if_ (.cmp .ne (.ix (.var 1) (.var 4)) (.int 0)) (.cons (.for_ (.name 5) (.rng1 (.b1 .len (.var 2))) (.cons (.augi (.var 3) (.bin .add (.var 4) (.var 5)) .add (.bin .mul (.ix (.var 1) (.var 4)) (.ix (.var 2) (.var 5))))
    .nil)) .nil) .nil) .nil) (p := p) (a := a) (b := b) (S := S) (fun c i y hc hi => by
      by_cases h0 : co a i = 0
      · refine ⟨y, c, ?_, hc, fun n => by rw [h0, Int.zero_mul, Int.add_zero]⟩
        simp [ev_var, ev_glob, ev_int, ev_bl, ev_non, ev_str, ev_bin, ev_neg, ev_not, ev_and, ev_or, ev_cmp, ev_chain, ev_ite, ev_ix, ev_slo, ev_shi, ev_rev, ev_tup, ev_lst, ev_b1, ev_b2, ev_isi, ev_call, evs_nil, evs_cons, evi_rng1, evi_rng2, evi_rng3, evi_seq, evi_zip, ex_asg, ex_thaw, ex_par, ex_aug, ex_seti, ex_augi, ex_if_, ex_ret, ex_app, ex_ext, ex_pop, ex_pass, exs_nil, exs_cons, ex_for_, ex_whl, ev_comp, binI_add, binI_sub, binI_mulL, binI_mulR, binI_div, binI_mod, bin_int, cmp_int, cmpI_eq, cmpI_ne, cmpI_lt, cmpI_le, cmpI_gt, cmpI_ge, view_d, viewS_d, viewS_scr, b1_len_list, b1_len_tuple, b1_int_int, b1_tuple_list, b1_list_list, b1_list_tuple, ix_list, ix_tuple, asg_name, asg_tupT, asg_tupL, asgs_nil, asgs_cons, back_rt, back_nx, st_F, te_W, bd_W, st_C0, st_C1, wipe_nil, wipe_cons, sets_nil, sets_cons, pures_nil, pures_cons, rng_n, seq_n, rng_get, seq_list, seq_tuple, seq_getT, seq_getL, seq_getS, rng_fin, start_eq, iL_len, iL_snoc, iL_nil, atI_iL hi, h0]
      · obtain ⟨y', c', k1, k2, k3⟩ := inner_ok (Cl := Cl) (st := .cons (.augi (.var 3) (.bin .add (.var 4) (.var 5)) .add (.bin .mul (.ix (.var 1) (.var 4)) (.ix (.var 2) (.var 5)))) .nil) (p := p) (a := a) (b := b) (S := S) hi (fun c j hc hj => by
          have e : ((i : Int) + (j : Int)) = ((i + j : Nat) : Int) := by omega
          have hm := smI_bd hp hp2 hna i
          simp [-Int.natCast_add, ev_var, ev_glob, ev_int, ev_bl, ev_non, ev_str, ev_bin, ev_neg, ev_not, ev_and, ev_or, ev_cmp, ev_chain, ev_ite, ev_ix, ev_slo, ev_shi, ev_rev, ev_tup, ev_lst, ev_b1, ev_b2, ev_isi, ev_call, evs_nil, evs_cons, evi_rng1, evi_rng2, evi_rng3, evi_seq, evi_zip, ex_asg, ex_thaw, ex_par, ex_aug, ex_seti, ex_augi, ex_if_, ex_ret, ex_app, ex_ext, ex_pop, ex_pass, exs_nil, exs_cons, ex_for_, ex_whl, ev_comp, binI_add, binI_sub, binI_mulL, binI_mulR, binI_div, binI_mod, bin_int, cmp_int, cmpI_eq, cmpI_ne, cmpI_lt, cmpI_le, cmpI_gt, cmpI_ge, view_d, viewS_d, viewS_scr, b1_len_list, b1_len_tuple, b1_int_int, b1_tuple_list, b1_list_list, b1_list_tuple, ix_list, ix_tuple, asg_name, asg_tupT, asg_tupL, asgs_nil, asgs_cons, back_rt, back_nx, st_F, te_W, bd_W, st_C0, st_C1, wipe_nil, wipe_cons, sets_nil, sets_cons, pures_nil, pures_cons, rng_n, seq_n, rng_get, seq_list, seq_tuple, seq_getT, seq_getL, seq_getS, rng_fin, start_eq, iL_len, iL_snoc, iL_nil, at_last, set_last, e, atI_iL hi, atI_iL hj, atI_iL (a := c) (i := i + j) (by omega), hm, ixN_nat (n := c.length) (i := i + j) (by omega), iL_set]) c hc y
        refine ⟨y', c', ?_, k2, k3⟩
        refine (nx_of ((if_t (s1 := S ++ [.lst (iL c)]) ?_).trans (nx_of (for_of (J := .rng 0 1 b.length) ?_ k1)))).trans ?_
        · simp [ev_var, ev_glob, ev_int, ev_bl, ev_non, ev_str, ev_bin, ev_neg, ev_not, ev_and, ev_or, ev_cmp, ev_chain, ev_ite, ev_ix, ev_slo, ev_shi, ev_rev, ev_tup, ev_lst, ev_b1, ev_b2, ev_isi, ev_call, evs_nil, evs_cons, evi_rng1, evi_rng2, evi_rng3, evi_seq, evi_zip, ex_asg, ex_thaw, ex_par, ex_aug, ex_seti, ex_augi, ex_if_, ex_ret, ex_app, ex_ext, ex_pop, ex_pass, exs_nil, exs_cons, ex_for_, ex_whl, ev_comp, binI_add, binI_sub, binI_mulL, binI_mulR, binI_div, binI_mod, bin_int, cmp_int, cmpI_eq, cmpI_ne, cmpI_lt, cmpI_le, cmpI_gt, cmpI_ge, view_d, viewS_d, viewS_scr, b1_len_list, b1_len_tuple, b1_int_int, b1_tuple_list, b1_list_list, b1_list_tuple, ix_list, ix_tuple, asg_name, asg_tupT, asg_tupL, asgs_nil, asgs_cons, back_rt, back_nx, st_F, te_W, bd_W, st_C0, st_C1, wipe_nil, wipe_cons, sets_nil, sets_cons, pures_nil, pures_cons, rng_n, seq_n, rng_get, seq_list, seq_tuple, seq_getT, seq_getL, seq_getS, rng_fin, start_eq, iL_len, iL_snoc, iL_nil, atI_iL hi, h0]
        · simp [ev_var, ev_glob, ev_int, ev_bl, ev_non, ev_str, ev_bin, ev_neg, ev_not, ev_and, ev_or, ev_cmp, ev_chain, ev_ite, ev_ix, ev_slo, ev_shi, ev_rev, ev_tup, ev_lst, ev_b1, ev_b2, ev_isi, ev_call, evs_nil, evs_cons, evi_rng1, evi_rng2, evi_rng3, evi_seq, evi_zip, ex_asg, ex_thaw, ex_par, ex_aug, ex_seti, ex_augi, ex_if_, ex_ret, ex_app, ex_ext, ex_pop, ex_pass, exs_nil, exs_cons, ex_for_, ex_whl, ev_comp, binI_add, binI_sub, binI_mulL, binI_mulR, binI_div, binI_mod, bin_int, cmp_int, cmpI_eq, cmpI_ne, cmpI_lt, cmpI_le, cmpI_gt, cmpI_ge, view_d, viewS_d, viewS_scr, b1_len_list, b1_len_tuple, b1_int_int, b1_tuple_list, b1_list_list, b1_list_tuple, ix_list, ix_tuple, asg_name, asg_tupT, asg_tupL, asgs_nil, asgs_cons, back_rt, back_nx, st_F, te_W, bd_W, st_C0, st_C1, wipe_nil, wipe_cons, sets_nil, sets_cons, pures_nil, pures_cons, rng_n, seq_n, rng_get, seq_list, seq_tuple, seq_getT, seq_getL, seq_getS, rng_fin, start_eq, iL_len, iL_snoc, iL_nil, hB]
        · simp [ev_var, ev_glob, ev_int, ev_bl, ev_non, ev_str, ev_bin, ev_neg, ev_not, ev_and, ev_or, ev_cmp, ev_chain, ev_ite, ev_ix, ev_slo, ev_shi, ev_rev, ev_tup, ev_lst, ev_b1, ev_b2, ev_isi, ev_call, evs_nil, evs_cons, evi_rng1, evi_rng2, evi_rng3, evi_seq, evi_zip, ex_asg, ex_thaw, ex_par, ex_aug, ex_seti, ex_augi, ex_if_, ex_ret, ex_app, ex_ext, ex_pop, ex_pass, exs_nil, exs_cons, ex_for_, ex_whl, ev_comp, binI_add, binI_sub, binI_mulL, binI_mulR, binI_div, binI_mod, bin_int, cmp_int, cmpI_eq, cmpI_ne, cmpI_lt, cmpI_le, cmpI_gt, cmpI_ge, view_d, viewS_d, viewS_scr, b1_len_list, b1_len_tuple, b1_int_int, b1_tuple_list, b1_list_list, b1_list_tuple, ix_list, ix_tuple, asg_name, asg_tupT, asg_tupL, asgs_nil, asgs_cons, back_rt, back_nx, st_F, te_W, bd_W, st_C0, st_C1, wipe_nil, wipe_cons, sets_nil, sets_cons, pures_nil, pures_cons, rng_n, seq_n, rng_get, seq_list, seq_tuple, seq_getT, seq_getL, seq_getS, rng_fin, start_eq, iL_len, iL_snoc, iL_nil])
  refine ⟨trim p c, ?_, Nf.trim hp c, fun n => by rw [trim_co, h3], by have := trim_le p c; omega⟩
  have e1 := thaw_of (i := 3) (W := 1000000) (zeros_ok (Cl := Cl) (p := p) (a := a) (b := b) S hab)
  have e2 := hT p c (.loc S.length) (S ++ [.lst (iL c)]) hp (by omega) (Rd.last S _)
  have e3 := (call2 (C := Cl) (f := 1) (a := .var 0) (b := .var 3) (ρ := eP p a b S.length x y) (s := S ++ [.lst (iL c)]) (va := .d (.int p)) (vb := .loc S.length) (s1 := S ++ [.lst (iL c)]) (s2 := S ++ [.lst (iL c)]) (by simp [ev_var]) (by simp [ev_var])).trans e2
  refine (back_of ((nx_of e1).trans ((nx_of (for_of (J := .rng 0 1 a.length) ?_ h1)).trans (rt_of (ret_of e3))))).trans ?_
  · simp [ev_var, ev_glob, ev_int, ev_bl, ev_non, ev_str, ev_bin, ev_neg, ev_not, ev_and, ev_or, ev_cmp, ev_chain, ev_ite, ev_ix, ev_slo, ev_shi, ev_rev, ev_tup, ev_lst, ev_b1, ev_b2, ev_isi, ev_call, evs_nil, evs_cons, evi_rng1, evi_rng2, evi_rng3, evi_seq, evi_zip, ex_asg, ex_thaw, ex_par, ex_aug, ex_seti, ex_augi, ex_if_, ex_ret, ex_app, ex_ext, ex_pop, ex_pass, exs_nil, exs_cons, ex_for_, ex_whl, ev_comp, binI_add, binI_sub, binI_mulL, binI_mulR, binI_div, binI_mod, bin_int, cmp_int, cmpI_eq, cmpI_ne, cmpI_lt, cmpI_le, cmpI_gt, cmpI_ge, view_d, viewS_d, viewS_scr, b1_len_list, b1_len_tuple, b1_int_int, b1_tuple_list, b1_list_list, b1_list_tuple, ix_list, ix_tuple, asg_name, asg_tupT, asg_tupL, asgs_nil, asgs_cons, back_rt, back_nx, st_F, te_W, bd_W, st_C0, st_C1, wipe_nil, wipe_cons, sets_nil, sets_cons, pures_nil, pures_cons, rng_n, seq_n, rng_get, seq_list, seq_tuple, seq_getT, seq_getL, seq_getS, rng_fin, start_eq, iL_len, iL_snoc, iL_nil, hA]
  · rw [take_app]
theorem mul_ok {Cl : Call} (hT : HMod Cl 16) (p : Int) (hp : 0 < p) (hp2 : p < 100) (a b : List Int) (hna : Nf p a) (hab : a.length + b.length < 1000000) (S : Store) :
    ∃ l, back S.length (exSs Cl 1000000 d17.body (start d17.names.length [.d (.int p), .d (tI a), .d (tI b)]) S) = some (.d (tI l), S) ∧ Nf p l ∧ (∀ n, co l n = act a (co b) n % p) ∧ l.length ≤ a.length + b.length := by
  have hA := rngOk_nat (n := a.length) (by omega)
  have hB := rngOk_nat (n := b.length) (by omega)
  obtain ⟨x, y, c, h1, h2, h3⟩ := outer_ok (Cl := Cl) (st := .cons (.for_ (.name 5) (.rng1 (.b1 .len (.var 2))) (.cons (.seti (.var 3) (.bin .add (.var 4) (.var 5)) (.bin .add (.ix (.var 3) (.bin .add (.var 4) (.var 5))) (.bin .mul (.ix (.var 1) (.var 4)) (.ix (.var 2) (.var 5))))) .nil)) .nil) (p := p) (a := a) (b := b) (S := S) (fun c i y hc hi => by
      obtain ⟨y', c', k1, k2, k3⟩ := inner_ok (Cl := Cl) (st := .cons (.seti (.var 3) (.bin .add (.var 4) (.var 5)) (.bin .add (.ix (.var 3) (.bin .add (.var 4) (.var 5))) (.bin .mul (.ix (.var 1) (.var 4)) (.ix (.var 2) (.var 5))))) .nil) (p := p) (a := a) (b := b) (S := S) hi (fun c j hc hj => by
        have e : ((i : Int) + (j : Int)) = ((i + j : Nat) : Int) := by omega
        have hm := smI_bd hp hp2 hna i
        simp [-Int.natCast_add, ev_var, ev_glob, ev_int, ev_bl, ev_non, ev_str, ev_bin, ev_neg, ev_not, ev_and, ev_or, ev_cmp, ev_chain, ev_ite, ev_ix, ev_slo, ev_shi, ev_rev, ev_tup, ev_lst, ev_b1, ev_b2, ev_isi, ev_call, evs_nil, evs_cons, evi_rng1, evi_rng2, evi_rng3, evi_seq, evi_zip, ex_asg, ex_thaw, ex_par, ex_aug, ex_seti, ex_augi, ex_if_, ex_ret, ex_app, ex_ext, ex_pop, ex_pass, exs_nil, exs_cons, ex_for_, ex_whl, ev_comp, binI_add, binI_sub, binI_mulL, binI_mulR, binI_div, binI_mod, bin_int, cmp_int, cmpI_eq, cmpI_ne, cmpI_lt, cmpI_le, cmpI_gt, cmpI_ge, view_d, viewS_d, viewS_scr, b1_len_list, b1_len_tuple, b1_int_int, b1_tuple_list, b1_list_list, b1_list_tuple, ix_list, ix_tuple, asg_name, asg_tupT, asg_tupL, asgs_nil, asgs_cons, back_rt, back_nx, st_F, te_W, bd_W, st_C0, st_C1, wipe_nil, wipe_cons, sets_nil, sets_cons, pures_nil, pures_cons, rng_n, seq_n, rng_get, seq_list, seq_tuple, seq_getT, seq_getL, seq_getS, rng_fin, start_eq, iL_len, iL_snoc, iL_nil, at_last, set_last, view_last, e, atI_iL hi, atI_iL hj, atI_iL (a := c) (i := i + j) (by omega), hm, ixN_nat (n := c.length) (i := i + j) (by omega), iL_set]) c hc y
      refine ⟨y', c', ?_, k2, k3⟩
      refine (nx_of (for_of (J := .rng 0 1 b.length) ?_ k1)).trans ?_
      · simp [ev_var, ev_glob, ev_int, ev_bl, ev_non, ev_str, ev_bin, ev_neg, ev_not, ev_and, ev_or, ev_cmp, ev_chain, ev_ite, ev_ix, ev_slo, ev_shi, ev_rev, ev_tup, ev_lst, ev_b1, ev_b2, ev_isi, ev_call, evs_nil, evs_cons, evi_rng1, evi_rng2, evi_rng3, evi_seq, evi_zip, ex_asg, ex_thaw, ex_par, ex_aug, ex_seti, ex_augi, ex_if_, ex_ret, ex_app, ex_ext, ex_pop, ex_pass, exs_nil, exs_cons, ex_for_, ex_whl, ev_comp, binI_add, binI_sub, binI_mulL, binI_mulR, binI_div, binI_mod, bin_int, cmp_int, cmpI_eq, cmpI_ne, cmpI_lt, cmpI_le, cmpI_gt, cmpI_ge, view_d, viewS_d, viewS_scr, b1_len_list, b1_len_tuple, b1_int_int, b1_tuple_list, b1_list_list, b1_list_tuple, ix_list, ix_tuple, asg_name, asg_tupT, asg_tupL, asgs_nil, asgs_cons, back_rt, back_nx, st_F, te_W, bd_W, st_C0, st_C1, wipe_nil, wipe_cons, sets_nil, sets_cons, pures_nil, pures_cons, rng_n, seq_n, rng_get, seq_list, seq_tuple, seq_getT, seq_getL, seq_getS, rng_fin, start_eq, iL_len, iL_snoc, iL_nil, hB]
      · simp [ev_var, ev_glob, ev_int, ev_bl, ev_non, ev_str, ev_bin, ev_neg, ev_not, ev_and, ev_or, ev_cmp, ev_chain, ev_ite, ev_ix, ev_slo, ev_shi, ev_rev, ev_tup, ev_lst, ev_b1, ev_b2, ev_isi, ev_call, evs_nil, evs_cons, evi_rng1, evi_rng2, evi_rng3, evi_seq, evi_zip, ex_asg, ex_thaw, ex_par, ex_aug, ex_seti, ex_augi, ex_if_, ex_ret, ex_app, ex_ext, ex_pop, ex_pass, exs_nil, exs_cons, ex_for_, ex_whl, ev_comp, binI_add, binI_sub, binI_mulL, binI_mulR, binI_div, binI_mod, bin_int, cmp_int, cmpI_eq, cmpI_ne, cmpI_lt, cmpI_le, cmpI_gt, cmpI_ge, view_d, viewS_d, viewS_scr, b1_len_list, b1_len_tuple, b1_int_int, b1_tuple_list, b1_list_list, b1_list_tuple, ix_list, ix_tuple, asg_name, asg_tupT, asg_tupL, asgs_nil, asgs_cons, back_rt, back_nx, st_F, te_W, bd_W, st_C0, st_C1, wipe_nil, wipe_cons, sets_nil, sets_cons, pures_nil, pures_cons, rng_n, seq_n, rng_get, seq_list, seq_tuple, seq_getT, seq_getL, seq_getS, rng_fin, start_eq, iL_len, iL_snoc, iL_nil])
  refine ⟨trim p c, ?_, Nf.trim hp c, fun n => by rw [trim_co, h3], by have := trim_le p c; omega⟩
  have e1 := thaw_of (i := 3) (W := 1000000) (zeros_ok (Cl := Cl) (p := p) (a := a) (b := b) S hab)
  have e2 := hT p c (.loc S.length) (S ++ [.lst (iL c)]) hp (by omega) (Rd.last S _)
  have e3 := (call2 (C := Cl) (f := 16) (a := .var 0) (b := .var 3) (ρ := eP p a b S.length x y) (s := S ++ [.lst (iL c)]) (va := .d (.int p)) (vb := .loc S.length) (s1 := S ++ [.lst (iL c)]) (s2 := S ++ [.lst (iL c)]) (by simp [ev_var]) (by simp [ev_var])).trans e2
  refine (back_of ((nx_of e1).trans ((nx_of (for_of (J := .rng 0 1 a.length) ?_ h1)).trans (rt_of (ret_of e3))))).trans ?_
  · simp [ev_var, ev_glob, ev_int, ev_bl, ev_non, ev_str, ev_bin, ev_neg, ev_not, ev_and, ev_or, ev_cmp, ev_chain, ev_ite, ev_ix, ev_slo, ev_shi, ev_rev, ev_tup, ev_lst, ev_b1, ev_b2, ev_isi, ev_call, evs_nil, evs_cons, evi_rng1, evi_rng2, evi_rng3, evi_seq, evi_zip, ex_asg, ex_thaw, ex_par, ex_aug, ex_seti, ex_augi, ex_if_, ex_ret, ex_app, ex_ext, ex_pop, ex_pass, exs_nil, exs_cons, ex_for_, ex_whl, ev_comp, binI_add, binI_sub, binI_mulL, binI_mulR, binI_div, binI_mod, bin_int, cmp_int, cmpI_eq, cmpI_ne, cmpI_lt, cmpI_le, cmpI_gt, cmpI_ge, view_d, viewS_d, viewS_scr, b1_len_list, b1_len_tuple, b1_int_int, b1_tuple_list, b1_list_list, b1_list_tuple, ix_list, ix_tuple, asg_name, asg_tupT, asg_tupL, asgs_nil, asgs_cons, back_rt, back_nx, st_F, te_W, bd_W, st_C0, st_C1, wipe_nil, wipe_cons, sets_nil, sets_cons, pures_nil, pures_cons, rng_n, seq_n, rng_get, seq_list, seq_tuple, seq_getT, seq_getL, seq_getS, rng_fin, start_eq, iL_len, iL_snoc, iL_nil, hA]
  · rw [take_app]
end LAW
end
section
namespace LAW
open PC PC.PM
theorem cut_last (xs : List D) (x : D) : cut (xs ++ [x]) none (some (-1)) = xs := by
  unfold cut
  have e1 : HT.sIx (xs ++ [x]).length 0 none = 0 := rfl
  have e2 : HT.sIx (xs ++ [x]).length (xs ++ [x]).length (some (-1)) = xs.length := by
    unfold HT.sIx
    simp only []
    rw [if_pos (by omega), List.length_append, List.length_singleton]
    omega
  rw [e1, e2]
  simp
theorem sl_last (xs : List D) (x : D) : slD (.list (xs ++ [x])) none (some (-1)) = some (.list xs) := by
  simp only [slD, cut_last]
theorem sl_lastI (d : List Int) (a : Int) : slD (lI (d ++ [a])) none (some (-1)) = some (lI d) := by
  show slD (.list (iL (d ++ [a]))) none (some (-1)) = _
  rw [iL_snoc, sl_last]
theorem mod_ok {Cl : Call} (p : Int) (hp : 0 < p) (l : List Int) (hl : l.length < 1000000) (r : R) (S : Store) (hr : Rd r S (lI l)) :
    back S.length (exSs Cl 1000000 d16.body (start d16.names.length [.d (.int p), r]) S) = some (.d (tI (trim p l)), S) := by
  have e1 : evE Cl (.comp (.name 2) [2] (.seq (.var 1)) false (.bl true) (.bin .mod (.b1 .int (.var 2)) (.var 0))) [some (.d (.int p)), some r, none] S = some (.d (lI (l.map fun n => n % p)), S) := by
    have h0 := hr []
    rw [List.append_nil] at h0
    refine ev_compI (J := .seq r l.length) l (fun n => n % p) ?_ rfl (by omega) (fun i acc hi => ?_) (fun acc => ?_) (fun x hx acc => ?_)
    · simp [ev_var, ev_glob, ev_int, ev_bl, ev_non, ev_str, ev_bin, ev_neg, ev_not, ev_and, ev_or, ev_cmp, ev_chain, ev_ite, ev_ix, ev_slo, ev_shi, ev_rev, ev_tup, ev_lst, ev_b1, ev_b2, ev_isi, ev_call, evs_nil, evs_cons, evi_rng1, evi_rng2, evi_rng3, evi_seq, evi_zip, ex_asg, ex_thaw, ex_par, ex_aug, ex_seti, ex_augi, ex_if_, ex_ret, ex_app, ex_ext, ex_pop, ex_pass, exs_nil, exs_cons, ex_for_, ex_whl, ev_comp, binI_add, binI_sub, binI_mulL, binI_mulR, binI_div, binI_mod, bin_int, cmp_int, cmpI_eq, cmpI_ne, cmpI_lt, cmpI_le, cmpI_gt, cmpI_ge, view_d, viewS_d, viewS_scr, b1_len_list, b1_len_tuple, b1_int_int, b1_tuple_list, b1_list_list, b1_list_tuple, ix_list, ix_tuple, asg_name, asg_tupT, asg_tupL, asgs_nil, asgs_cons, back_rt, back_nx, st_F, te_W, bd_W, st_C0, st_C1, wipe_nil, wipe_cons, sets_nil, sets_cons, pures_nil, pures_cons, rng_n, seq_n, rng_get, seq_list, seq_tuple, seq_getT, seq_getL, seq_getS, rng_fin, start_eq, iL_len, iL_snoc, iL_nil, h0]
    · exact seq_get (hr _) rfl
    · exact seq_fin (hr _) rfl (Nat.le_of_eq (iL_len l))
    · simp [ev_var, ev_glob, ev_int, ev_bl, ev_non, ev_str, ev_bin, ev_neg, ev_not, ev_and, ev_or, ev_cmp, ev_chain, ev_ite, ev_ix, ev_slo, ev_shi, ev_rev, ev_tup, ev_lst, ev_b1, ev_b2, ev_isi, ev_call, evs_nil, evs_cons, evi_rng1, evi_rng2, evi_rng3, evi_seq, evi_zip, ex_asg, ex_thaw, ex_par, ex_aug, ex_seti, ex_augi, ex_if_, ex_ret, ex_app, ex_ext, ex_pop, ex_pass, exs_nil, exs_cons, ex_for_, ex_whl, ev_comp, binI_add, binI_sub, binI_mulL, binI_mulR, binI_div, binI_mod, bin_int, cmp_int, cmpI_eq, cmpI_ne, cmpI_lt, cmpI_le, cmpI_gt, cmpI_ge, view_d, viewS_d, viewS_scr, b1_len_list, b1_len_tuple, b1_int_int, b1_tuple_list, b1_list_list, b1_list_tuple, ix_list, ix_tuple, asg_name, asg_tupT, asg_tupL, asgs_nil, asgs_cons, back_rt, back_nx, st_F, te_W, bd_W, st_C0, st_C1, wipe_nil, wipe_cons, sets_nil, sets_cons, pures_nil, pures_cons, rng_n, seq_n, rng_get, seq_list, seq_tuple, seq_getT, seq_getL, seq_getS, rng_fin, start_eq, iL_len, iL_snoc, iL_nil, hp]
  obtain ⟨ρ', s', e2, rfl, rfl⟩ := whlN_inv (testW Cl (.and (.cmp .gt (.b1 .len (.var 1)) (.int 0)) (.cmp .eq (.ix (.var 1) (.neg (.int 1))) (.int 0)))) (bodyW Cl 1000000 (.cons (.asg (.name 1) (.shi (.var 1) (.neg (.int 1)))) .nil))
    (fun m ρ s => s = S ∧ ∃ c : List Int, ρ = [some (.d (.int p)), some (.d (lI c)), none] ∧ strip c = trim p l ∧ m = c.length) (fun ρ s => ρ = [some (.d (.int p)), some (.d (lI (trim p l))), none] ∧ s = S) (by
    rintro m ρ s ⟨rfl, c, rfl, hc, rfl⟩
    rcases List.eq_nil_or_concat c with rfl | ⟨d, a, rfl⟩
    · have hc' : trim p l = [] := hc.symm
      refine .inl ⟨s, ?_, by rw [hc'], rfl⟩
      simp [ev_var, ev_glob, ev_int, ev_bl, ev_non, ev_str, ev_bin, ev_neg, ev_not, ev_and, ev_or, ev_cmp, ev_chain, ev_ite, ev_ix, ev_slo, ev_shi, ev_rev, ev_tup, ev_lst, ev_b1, ev_b2, ev_isi, ev_call, evs_nil, evs_cons, evi_rng1, evi_rng2, evi_rng3, evi_seq, evi_zip, ex_asg, ex_thaw, ex_par, ex_aug, ex_seti, ex_augi, ex_if_, ex_ret, ex_app, ex_ext, ex_pop, ex_pass, exs_nil, exs_cons, ex_for_, ex_whl, ev_comp, binI_add, binI_sub, binI_mulL, binI_mulR, binI_div, binI_mod, bin_int, cmp_int, cmpI_eq, cmpI_ne, cmpI_lt, cmpI_le, cmpI_gt, cmpI_ge, view_d, viewS_d, viewS_scr, b1_len_list, b1_len_tuple, b1_int_int, b1_tuple_list, b1_list_list, b1_list_tuple, ix_list, ix_tuple, asg_name, asg_tupT, asg_tupL, asgs_nil, asgs_cons, back_rt, back_nx, st_F, te_W, bd_W, st_C0, st_C1, wipe_nil, wipe_cons, sets_nil, sets_cons, pures_nil, pures_cons, rng_n, seq_n, rng_get, seq_list, seq_tuple, seq_getT, seq_getL, seq_getS, rng_fin, start_eq, iL_len, iL_snoc, iL_nil]
    · rw [List.concat_eq_append] at hc ⊢
      by_cases ha : a = 0
      · subst ha
        refine .inr ⟨s, [some (.d (.int p)), some (.d (lI d)), none], s, d.length, ?_, ?_, by simp, rfl, d, rfl, by rw [← hc, strip_snoc0], rfl⟩
        · simp [ev_var, ev_glob, ev_int, ev_bl, ev_non, ev_str, ev_bin, ev_neg, ev_not, ev_and, ev_or, ev_cmp, ev_chain, ev_ite, ev_ix, ev_slo, ev_shi, ev_rev, ev_tup, ev_lst, ev_b1, ev_b2, ev_isi, ev_call, evs_nil, evs_cons, evi_rng1, evi_rng2, evi_rng3, evi_seq, evi_zip, ex_asg, ex_thaw, ex_par, ex_aug, ex_seti, ex_augi, ex_if_, ex_ret, ex_app, ex_ext, ex_pop, ex_pass, exs_nil, exs_cons, ex_for_, ex_whl, ev_comp, binI_add, binI_sub, binI_mulL, binI_mulR, binI_div, binI_mod, bin_int, cmp_int, cmpI_eq, cmpI_ne, cmpI_lt, cmpI_le, cmpI_gt, cmpI_ge, view_d, viewS_d, viewS_scr, b1_len_list, b1_len_tuple, b1_int_int, b1_tuple_list, b1_list_list, b1_list_tuple, ix_list, ix_tuple, asg_name, asg_tupT, asg_tupL, asgs_nil, asgs_cons, back_rt, back_nx, st_F, te_W, bd_W, st_C0, st_C1, wipe_nil, wipe_cons, sets_nil, sets_cons, pures_nil, pures_cons, rng_n, seq_n, rng_get, seq_list, seq_tuple, seq_getT, seq_getL, seq_getS, rng_fin, start_eq, iL_len, iL_snoc, iL_nil, atI_last]
        · simp [ev_var, ev_glob, ev_int, ev_bl, ev_non, ev_str, ev_bin, ev_neg, ev_not, ev_and, ev_or, ev_cmp, ev_chain, ev_ite, ev_ix, ev_slo, ev_shi, ev_rev, ev_tup, ev_lst, ev_b1, ev_b2, ev_isi, ev_call, evs_nil, evs_cons, evi_rng1, evi_rng2, evi_rng3, evi_seq, evi_zip, ex_asg, ex_thaw, ex_par, ex_aug, ex_seti, ex_augi, ex_if_, ex_ret, ex_app, ex_ext, ex_pop, ex_pass, exs_nil, exs_cons, ex_for_, ex_whl, ev_comp, binI_add, binI_sub, binI_mulL, binI_mulR, binI_div, binI_mod, bin_int, cmp_int, cmpI_eq, cmpI_ne, cmpI_lt, cmpI_le, cmpI_gt, cmpI_ge, view_d, viewS_d, viewS_scr, b1_len_list, b1_len_tuple, b1_int_int, b1_tuple_list, b1_list_list, b1_list_tuple, ix_list, ix_tuple, asg_name, asg_tupT, asg_tupL, asgs_nil, asgs_cons, back_rt, back_nx, st_F, te_W, bd_W, st_C0, st_C1, wipe_nil, wipe_cons, sets_nil, sets_cons, pures_nil, pures_cons, rng_n, seq_n, rng_get, seq_list, seq_tuple, seq_getT, seq_getL, seq_getS, rng_fin, start_eq, iL_len, iL_snoc, iL_nil, sl_lastI]
      · refine .inl ⟨s, ?_, by rw [← hc, strip_snoc ha], rfl⟩
        simp [ev_var, ev_glob, ev_int, ev_bl, ev_non, ev_str, ev_bin, ev_neg, ev_not, ev_and, ev_or, ev_cmp, ev_chain, ev_ite, ev_ix, ev_slo, ev_shi, ev_rev, ev_tup, ev_lst, ev_b1, ev_b2, ev_isi, ev_call, evs_nil, evs_cons, evi_rng1, evi_rng2, evi_rng3, evi_seq, evi_zip, ex_asg, ex_thaw, ex_par, ex_aug, ex_seti, ex_augi, ex_if_, ex_ret, ex_app, ex_ext, ex_pop, ex_pass, exs_nil, exs_cons, ex_for_, ex_whl, ev_comp, binI_add, binI_sub, binI_mulL, binI_mulR, binI_div, binI_mod, bin_int, cmp_int, cmpI_eq, cmpI_ne, cmpI_lt, cmpI_le, cmpI_gt, cmpI_ge, view_d, viewS_d, viewS_scr, b1_len_list, b1_len_tuple, b1_int_int, b1_tuple_list, b1_list_list, b1_list_tuple, ix_list, ix_tuple, asg_name, asg_tupT, asg_tupL, asgs_nil, asgs_cons, back_rt, back_nx, st_F, te_W, bd_W, st_C0, st_C1, wipe_nil, wipe_cons, sets_nil, sets_cons, pures_nil, pures_cons, rng_n, seq_n, rng_get, seq_list, seq_tuple, seq_getT, seq_getL, seq_getS, rng_fin, start_eq, iL_len, iL_snoc, iL_nil, atI_last, ha]) 1000000 l.length [some (.d (.int p)), some (.d (lI (l.map fun n => n % p))), none] S (by omega) ⟨rfl, _, rfl, rfl, by simp⟩
  refine (back_of ((nx_of (asg_of (ρ' := [some (.d (.int p)), some (.d (lI (l.map fun n => n % p))), none]) e1 rfl)).trans ((nx_of (whl_of e2)).trans (rt_of (ret_of (b1_of (s1 := s') (r := .d (lI (trim p l))) ?_ rfl rfl)))))).trans ?_
  · simp [ev_var]
  · simp
theorem hMod1 (k : Nat) : HMod (C (k+1)) 1 := fun p l r S hp hl hr => trimmed_ok k p hp l hl r S hr
theorem hMod16 (k : Nat) : HMod (C (k+1)) 16 := fun p l r S hp hl hr => by
  rw [c16]
  exact mod_ok p hp l hl r S hr
/-! ### values -/
theorem hv_drop (x : Int) {l : List Int} {i : Nat} (h : i < l.length) : hv x (l.drop i) = co l i + x * hv x (l.drop (i + 1)) := by
  rw [List.drop_eq_getElem_cons h]
  have := co_lt h
  rw [List.getElem?_eq_getElem h] at this
  rw [Option.some.inj this]
  rfl
theorem value_ok {Cl : Call} (p x : Int) (hp : 0 < p) (hx : smI x = true) (l : List Int) (hl : l.length < 1000000) (S : Store) :
    back S.length (exSs Cl 1000000 d18.body (start d18.names.length [.d (.int p), .d (tI l), .d (.int x)]) S) = some (.d (.int (hv x l % p)), S) := by
  have hL := rngOk_nat hl
  obtain ⟨ρ', s', h1, y, rfl, rfl⟩ := forN_inv (.rng 0 1 l.length) (stepF Cl 1000000 (.name 4) (.cons (.asg (.name 3) (.bin .add (.bin .mul (.var 3) (.var 2)) (.ix (.var 1) (.bin .sub (.bin .sub (.b1 .len (.var 1)) (.int 1)) (.var 4))))) .nil)) (iL (rg l.length)) (by rw [iL_len, rg_len]; rfl)
    (fun i ρ s => ∃ y, ρ = [some (.d (.int p)), some (.d (tI l)), some (.d (.int x)), some (.d (.int (hv x (l.drop (l.length - i))))), y] ∧ s = S)
    (ρ := [some (.d (.int p)), some (.d (tI l)), some (.d (.int x)), some (.d (.int 0)), none]) (s := S) ⟨none, by rw [Nat.sub_zero, List.drop_length]; rfl, rfl⟩
    (fun j ρ s _ hj => rg_get _ _ _ (by rwa [iL_len, rg_len] at hj)) (fun _ _ _ => rfl)
    (by
      rintro i z ρ s hz ⟨y, rfl, rfl⟩
      have hi : i < l.length := by
        have := (List.getElem?_eq_some_iff.mp hz).1
        rwa [iL_len, rg_len] at this
      have ex : z = .int (i : Nat) := by
        rw [← rg_get l.length i [] hi, rng_get] at hz
        have := Option.some.inj hz
        rw [← this]; simp
      subst ex
      have e : (l.length : Int) - 1 - (i : Int) = ((l.length - 1 - i : Nat) : Int) := by omega
      have e2 := hv_drop x (l := l) (i := l.length - (i + 1)) (by omega)
      rw [show l.length - (i + 1) + 1 = l.length - i by omega] at e2
      have e3 : l.length - 1 - i = l.length - (i + 1) := by omega
      refine ⟨[some (.d (.int p)), some (.d (tI l)), some (.d (.int x)), some (.d (.int (hv x (l.drop (l.length - (i + 1)))))), some (.d (.int (i : Nat)))], s, ?_, _, rfl, rfl⟩
      rw [e2, Int.add_comm, Int.mul_comm]
      simp [ev_var, ev_glob, ev_int, ev_bl, ev_non, ev_str, ev_bin, ev_neg, ev_not, ev_and, ev_or, ev_cmp, ev_chain, ev_ite, ev_ix, ev_slo, ev_shi, ev_rev, ev_tup, ev_lst, ev_b1, ev_b2, ev_isi, ev_call, evs_nil, evs_cons, evi_rng1, evi_rng2, evi_rng3, evi_seq, evi_zip, ex_asg, ex_thaw, ex_par, ex_aug, ex_seti, ex_augi, ex_if_, ex_ret, ex_app, ex_ext, ex_pop, ex_pass, exs_nil, exs_cons, ex_for_, ex_whl, ev_comp, binI_add, binI_sub, binI_mulL, binI_mulR, binI_div, binI_mod, bin_int, cmp_int, cmpI_eq, cmpI_ne, cmpI_lt, cmpI_le, cmpI_gt, cmpI_ge, view_d, viewS_d, viewS_scr, b1_len_list, b1_len_tuple, b1_int_int, b1_tuple_list, b1_list_list, b1_list_tuple, ix_list, ix_tuple, asg_name, asg_tupT, asg_tupL, asgs_nil, asgs_cons, back_rt, back_nx, st_F, te_W, bd_W, st_C0, st_C1, wipe_nil, wipe_cons, sets_nil, sets_cons, pures_nil, pures_cons, rng_n, seq_n, rng_get, seq_list, seq_tuple, seq_getT, seq_getL, seq_getS, rng_fin, start_eq, iL_len, iL_snoc, iL_nil, hx, e, e3, atI_iL (a := l) (i := l.length - (i + 1)) (by omega)])
  rw [iL_len, rg_len, Nat.sub_self, List.drop_zero] at h1
  refine (back_of ((nx_of (asg_of (r := .d (.int 0)) (s1 := s') (ρ' := [some (.d (.int p)), some (.d (tI l)), some (.d (.int x)), some (.d (.int 0)), none]) ?_ rfl)).trans ((nx_of (for_of (J := .rng 0 1 l.length) (s1 := s') ?_ h1)).trans (rt_of (ret_of (s1 := s') (r := .d (.int (hv x l % p))) ?_))))).trans ?_
  · simp [ev_var, ev_glob, ev_int, ev_bl, ev_non, ev_str, ev_bin, ev_neg, ev_not, ev_and, ev_or, ev_cmp, ev_chain, ev_ite, ev_ix, ev_slo, ev_shi, ev_rev, ev_tup, ev_lst, ev_b1, ev_b2, ev_isi, ev_call, evs_nil, evs_cons, evi_rng1, evi_rng2, evi_rng3, evi_seq, evi_zip, ex_asg, ex_thaw, ex_par, ex_aug, ex_seti, ex_augi, ex_if_, ex_ret, ex_app, ex_ext, ex_pop, ex_pass, exs_nil, exs_cons, ex_for_, ex_whl, ev_comp, binI_add, binI_sub, binI_mulL, binI_mulR, binI_div, binI_mod, bin_int, cmp_int, cmpI_eq, cmpI_ne, cmpI_lt, cmpI_le, cmpI_gt, cmpI_ge, view_d, viewS_d, viewS_scr, b1_len_list, b1_len_tuple, b1_int_int, b1_tuple_list, b1_list_list, b1_list_tuple, ix_list, ix_tuple, asg_name, asg_tupT, asg_tupL, asgs_nil, asgs_cons, back_rt, back_nx, st_F, te_W, bd_W, st_C0, st_C1, wipe_nil, wipe_cons, sets_nil, sets_cons, pures_nil, pures_cons, rng_n, seq_n, rng_get, seq_list, seq_tuple, seq_getT, seq_getL, seq_getS, rng_fin, start_eq, iL_len, iL_snoc, iL_nil]
  · simp [ev_var, ev_glob, ev_int, ev_bl, ev_non, ev_str, ev_bin, ev_neg, ev_not, ev_and, ev_or, ev_cmp, ev_chain, ev_ite, ev_ix, ev_slo, ev_shi, ev_rev, ev_tup, ev_lst, ev_b1, ev_b2, ev_isi, ev_call, evs_nil, evs_cons, evi_rng1, evi_rng2, evi_rng3, evi_seq, evi_zip, ex_asg, ex_thaw, ex_par, ex_aug, ex_seti, ex_augi, ex_if_, ex_ret, ex_app, ex_ext, ex_pop, ex_pass, exs_nil, exs_cons, ex_for_, ex_whl, ev_comp, binI_add, binI_sub, binI_mulL, binI_mulR, binI_div, binI_mod, bin_int, cmp_int, cmpI_eq, cmpI_ne, cmpI_lt, cmpI_le, cmpI_gt, cmpI_ge, view_d, viewS_d, viewS_scr, b1_len_list, b1_len_tuple, b1_int_int, b1_tuple_list, b1_list_list, b1_list_tuple, ix_list, ix_tuple, asg_name, asg_tupT, asg_tupL, asgs_nil, asgs_cons, back_rt, back_nx, st_F, te_W, bd_W, st_C0, st_C1, wipe_nil, wipe_cons, sets_nil, sets_cons, pures_nil, pures_cons, rng_n, seq_n, rng_get, seq_list, seq_tuple, seq_getT, seq_getL, seq_getS, rng_fin, start_eq, iL_len, iL_snoc, iL_nil, hL]
  · simp [ev_var, ev_glob, ev_int, ev_bl, ev_non, ev_str, ev_bin, ev_neg, ev_not, ev_and, ev_or, ev_cmp, ev_chain, ev_ite, ev_ix, ev_slo, ev_shi, ev_rev, ev_tup, ev_lst, ev_b1, ev_b2, ev_isi, ev_call, evs_nil, evs_cons, evi_rng1, evi_rng2, evi_rng3, evi_seq, evi_zip, ex_asg, ex_thaw, ex_par, ex_aug, ex_seti, ex_augi, ex_if_, ex_ret, ex_app, ex_ext, ex_pop, ex_pass, exs_nil, exs_cons, ex_for_, ex_whl, ev_comp, binI_add, binI_sub, binI_mulL, binI_mulR, binI_div, binI_mod, bin_int, cmp_int, cmpI_eq, cmpI_ne, cmpI_lt, cmpI_le, cmpI_gt, cmpI_ge, view_d, viewS_d, viewS_scr, b1_len_list, b1_len_tuple, b1_int_int, b1_tuple_list, b1_list_list, b1_list_tuple, ix_list, ix_tuple, asg_name, asg_tupT, asg_tupL, asgs_nil, asgs_cons, back_rt, back_nx, st_F, te_W, bd_W, st_C0, st_C1, wipe_nil, wipe_cons, sets_nil, sets_cons, pures_nil, pures_cons, rng_n, seq_n, rng_get, seq_list, seq_tuple, seq_getT, seq_getL, seq_getS, rng_fin, start_eq, iL_len, iL_snoc, iL_nil, hp]
  · simp
theorem at_ok {Cl : Call} (p x : Int) (hp : 0 < p) (hx : smI x = true) (l : List Int) (hl : l.length < 1000000) (hn : Nf p l) (S : Store) :
    back S.length (exSs Cl 1000000 d7.body (start d7.names.length [.d (.int p), .d (tI l), .d (.int x)]) S) = some (.d (.int (hv x l % p)), S) := by
  obtain ⟨ρ', s', h1, y, f, rfl, rfl, h2⟩ := forN_inv (.seq (.d (.tuple (iL l).reverse)) l.length) (stepF Cl 1000000 (.name 4) (.cons (.asg (.name 3) (.bin .mod (.bin .add (.bin .mul (.var 3) (.var 2)) (.var 4)) (.var 0))) .nil)) (iL l).reverse (by rw [List.length_reverse, iL_len]; rfl)
    (fun i ρ s => ∃ y f, ρ = [some (.d (.int p)), some (.d (tI l)), some (.d (.int x)), some (.d (.int f)), y] ∧ s = S ∧ f = hv x (l.drop (l.length - i)) % p)
    (ρ := [some (.d (.int p)), some (.d (tI l)), some (.d (.int x)), some (.d (.int 0)), none]) (s := S) ⟨none, 0, rfl, rfl, by rw [Nat.sub_zero, List.drop_length]; simp [hv]⟩
    (fun j ρ s _ hj => rfl) (fun _ _ _ => seq_fin rfl rfl (by rw [List.length_reverse, iL_len]; exact Nat.le_refl _))
    (by
      rintro i z ρ s hz ⟨y, f, rfl, rfl, hf⟩
      have hi : i < l.length := by
        have := (List.getElem?_eq_some_iff.mp hz).1
        rwa [List.length_reverse, iL_len] at this
      have ex : z = .int (co l (l.length - 1 - i)) := by
        rw [List.getElem?_reverse (by rw [iL_len]; exact hi), iL_len, iL_get, co_lt (by omega)] at hz
        exact (Option.some.inj hz).symm
      subst ex
      have e2 := hv_drop x (l := l) (i := l.length - (i + 1)) (by omega)
      rw [show l.length - (i + 1) + 1 = l.length - i by omega] at e2
      have e3 : l.length - 1 - i = l.length - (i + 1) := by omega
      refine ⟨[some (.d (.int p)), some (.d (tI l)), some (.d (.int x)), some (.d (.int ((f * x + co l (l.length - 1 - i)) % p))), some (.d (.int (co l (l.length - 1 - i))))], s, ?_, _, _, rfl, rfl, ?_⟩
      · simp [ev_var, ev_glob, ev_int, ev_bl, ev_non, ev_str, ev_bin, ev_neg, ev_not, ev_and, ev_or, ev_cmp, ev_chain, ev_ite, ev_ix, ev_slo, ev_shi, ev_rev, ev_tup, ev_lst, ev_b1, ev_b2, ev_isi, ev_call, evs_nil, evs_cons, evi_rng1, evi_rng2, evi_rng3, evi_seq, evi_zip, ex_asg, ex_thaw, ex_par, ex_aug, ex_seti, ex_augi, ex_if_, ex_ret, ex_app, ex_ext, ex_pop, ex_pass, exs_nil, exs_cons, ex_for_, ex_whl, ev_comp, binI_add, binI_sub, binI_mulL, binI_mulR, binI_div, binI_mod, bin_int, cmp_int, cmpI_eq, cmpI_ne, cmpI_lt, cmpI_le, cmpI_gt, cmpI_ge, view_d, viewS_d, viewS_scr, b1_len_list, b1_len_tuple, b1_int_int, b1_tuple_list, b1_list_list, b1_list_tuple, ix_list, ix_tuple, asg_name, asg_tupT, asg_tupL, asgs_nil, asgs_cons, back_rt, back_nx, st_F, te_W, bd_W, st_C0, st_C1, wipe_nil, wipe_cons, sets_nil, sets_cons, pures_nil, pures_cons, rng_n, seq_n, rng_get, seq_list, seq_tuple, seq_getT, seq_getL, seq_getS, rng_fin, start_eq, iL_len, iL_snoc, iL_nil, hx, hp]
      · rw [e2, hf, e3, Int.add_comm (co l _), Int.mul_comm x]
        simp [Int.add_emod, Int.mul_emod])
  rw [List.length_reverse, iL_len, Nat.sub_self, List.drop_zero] at h2
  subst h2
  refine (back_of ((nx_of (asg_of (r := .d (.int 0)) (s1 := s') (ρ' := [some (.d (.int p)), some (.d (tI l)), some (.d (.int x)), some (.d (.int 0)), none]) ?_ rfl)).trans ((nx_of (for_of (J := .seq (.d (.tuple (iL l).reverse)) l.length) (s1 := s') ?_ h1)).trans (rt_of (ret_of (s1 := s') (r := .d (.int (hv x l % p))) ?_))))).trans ?_
  · simp [ev_var, ev_glob, ev_int, ev_bl, ev_non, ev_str, ev_bin, ev_neg, ev_not, ev_and, ev_or, ev_cmp, ev_chain, ev_ite, ev_ix, ev_slo, ev_shi, ev_rev, ev_tup, ev_lst, ev_b1, ev_b2, ev_isi, ev_call, evs_nil, evs_cons, evi_rng1, evi_rng2, evi_rng3, evi_seq, evi_zip, ex_asg, ex_thaw, ex_par, ex_aug, ex_seti, ex_augi, ex_if_, ex_ret, ex_app, ex_ext, ex_pop, ex_pass, exs_nil, exs_cons, ex_for_, ex_whl, ev_comp, binI_add, binI_sub, binI_mulL, binI_mulR, binI_div, binI_mod, bin_int, cmp_int, cmpI_eq, cmpI_ne, cmpI_lt, cmpI_le, cmpI_gt, cmpI_ge, view_d, viewS_d, viewS_scr, b1_len_list, b1_len_tuple, b1_int_int, b1_tuple_list, b1_list_list, b1_list_tuple, ix_list, ix_tuple, asg_name, asg_tupT, asg_tupL, asgs_nil, asgs_cons, back_rt, back_nx, st_F, te_W, bd_W, st_C0, st_C1, wipe_nil, wipe_cons, sets_nil, sets_cons, pures_nil, pures_cons, rng_n, seq_n, rng_get, seq_list, seq_tuple, seq_getT, seq_getL, seq_getS, rng_fin, start_eq, iL_len, iL_snoc, iL_nil]
  · simp [ev_var, ev_glob, ev_int, ev_bl, ev_non, ev_str, ev_bin, ev_neg, ev_not, ev_and, ev_or, ev_cmp, ev_chain, ev_ite, ev_ix, ev_slo, ev_shi, ev_rev, ev_tup, ev_lst, ev_b1, ev_b2, ev_isi, ev_call, evs_nil, evs_cons, evi_rng1, evi_rng2, evi_rng3, evi_seq, evi_zip, ex_asg, ex_thaw, ex_par, ex_aug, ex_seti, ex_augi, ex_if_, ex_ret, ex_app, ex_ext, ex_pop, ex_pass, exs_nil, exs_cons, ex_for_, ex_whl, ev_comp, binI_add, binI_sub, binI_mulL, binI_mulR, binI_div, binI_mod, bin_int, cmp_int, cmpI_eq, cmpI_ne, cmpI_lt, cmpI_le, cmpI_gt, cmpI_ge, view_d, viewS_d, viewS_scr, b1_len_list, b1_len_tuple, b1_int_int, b1_tuple_list, b1_list_list, b1_list_tuple, ix_list, ix_tuple, asg_name, asg_tupT, asg_tupL, asgs_nil, asgs_cons, back_rt, back_nx, st_F, te_W, bd_W, st_C0, st_C1, wipe_nil, wipe_cons, sets_nil, sets_cons, pures_nil, pures_cons, rng_n, seq_n, rng_get, seq_list, seq_tuple, seq_getT, seq_getL, seq_getS, rng_fin, start_eq, iL_len, iL_snoc, iL_nil, revD]
  · simp [ev_var, ev_glob, ev_int, ev_bl, ev_non, ev_str, ev_bin, ev_neg, ev_not, ev_and, ev_or, ev_cmp, ev_chain, ev_ite, ev_ix, ev_slo, ev_shi, ev_rev, ev_tup, ev_lst, ev_b1, ev_b2, ev_isi, ev_call, evs_nil, evs_cons, evi_rng1, evi_rng2, evi_rng3, evi_seq, evi_zip, ex_asg, ex_thaw, ex_par, ex_aug, ex_seti, ex_augi, ex_if_, ex_ret, ex_app, ex_ext, ex_pop, ex_pass, exs_nil, exs_cons, ex_for_, ex_whl, ev_comp, binI_add, binI_sub, binI_mulL, binI_mulR, binI_div, binI_mod, bin_int, cmp_int, cmpI_eq, cmpI_ne, cmpI_lt, cmpI_le, cmpI_gt, cmpI_ge, view_d, viewS_d, viewS_scr, b1_len_list, b1_len_tuple, b1_int_int, b1_tuple_list, b1_list_list, b1_list_tuple, ix_list, ix_tuple, asg_name, asg_tupT, asg_tupL, asgs_nil, asgs_cons, back_rt, back_nx, st_F, te_W, bd_W, st_C0, st_C1, wipe_nil, wipe_cons, sets_nil, sets_cons, pures_nil, pures_cons, rng_n, seq_n, rng_get, seq_list, seq_tuple, seq_getT, seq_getL, seq_getS, rng_fin, start_eq, iL_len, iL_snoc, iL_nil]
  · simp
end LAW
end
section
namespace LAW
open PC PC.PM
section
variable (S : Store) (x y z : List D)
theorem c2a : cellAt (S ++ [.lst x, .lst y]) S.length = some x := by simp [cellAt]
theorem c2b : cellAt (S ++ [.lst x, .lst y]) (S.length + 1) = some y := by simp [cellAt]
theorem s2a : setCell (S ++ [.lst x, .lst y]) S.length z = S ++ [.lst z, .lst y] := by simp [setCell]
theorem s2b : setCell (S ++ [.lst x, .lst y]) (S.length + 1) z = S ++ [.lst x, .lst z] := by simp [setCell]
theorem v2a : viewD (.loc S.length) (S ++ [.lst x, .lst y]) = some (.list x) := by simp [viewD]
theorem v2b : viewD (.loc (S.length + 1)) (S ++ [.lst x, .lst y]) = some (.list y) := by simp [viewD]
theorem w2a : viewS (.loc S.length) (S ++ [.lst x, .lst y]) = some (.list x) := by simp [viewS, viewD]
theorem w2b : viewS (.loc (S.length + 1)) (S ++ [.lst x, .lst y]) = some (.list y) := by simp [viewS, viewD]
end
def HInv (Cl : Call) : Prop := ∀ (p n : Int) (S : Store), p ∈ primes → 0 < n → n < p → ∃ v, Cl 0 [.d (.int n), .d (.int p)] S = some (.d (.int v), S) ∧ p ∣ v * n - 1 ∧ smI v = true
theorem hInv (k : Nat) : HInv (C (k+1)) := fun p n S hp h0 h1 => ⟨_, inv_ok k p n (pr_bd p hp).1 (by have := (pr_bd p hp).2; omega) S, mate_of hp h0 h1⟩
abbrev eD (p : Int) (a b : List Int) (n : Nat) (v : Int) (k t j : Option R) : Env := [some (.d (.int p)), some (.d (tI a)), some (.d (tI b)), some (.loc n), some (.d (.int v)), some (.loc (n + 1)), k, t, j]
theorem emod_of_bd {x p : Int} (h : 0 ≤ x ∧ x < p) : x % p = x := Int.emod_eq_of_lt h.1 h.2
theorem dinner {Cl : Call} {p v t : Int} {a b r : List Int} {S : Store} {f : List D} {K : Nat} (hp : 0 < p) (ht : smI t = true) (hr : r.length = a.length) (hK : K + b.length ≤ a.length) (j0 : Option R) :
    ∃ j' r', forN (.rng 0 1 b.length) (stepF Cl 1000000 (.name 8) (.cons (.seti (.var 3) (.bin .add (.var 6) (.var 8)) (.bin .mod (.bin .sub (.ix (.var 3) (.bin .add (.var 6) (.var 8))) (.bin .mul (.var 7) (.ix (.var 2) (.var 8)))) (.var 0))) .nil)) b.length 0
        (eD p a b S.length v (some (.d (.int (K : Nat)))) (some (.d (.int t))) j0) (S ++ [.lst (iL r), .lst f]) = some (.nx (eD p a b S.length v (some (.d (.int (K : Nat)))) (some (.d (.int t))) j') (S ++ [.lst (iL r'), .lst f])) ∧
      r'.length = a.length ∧ ∀ n, co r' n = if K ≤ n ∧ n < K + b.length then (co r n - t * co b (n - K)) % p else co r n := by
  obtain ⟨ρ', s', h1, j', r', rfl, rfl, h2, h3⟩ := forN_inv (.rng 0 1 b.length) (stepF Cl 1000000 (.name 8) (.cons (.seti (.var 3) (.bin .add (.var 6) (.var 8)) (.bin .mod (.bin .sub (.ix (.var 3) (.bin .add (.var 6) (.var 8))) (.bin .mul (.var 7) (.ix (.var 2) (.var 8)))) (.var 0))) .nil)) (iL (rg b.length)) (by rw [iL_len, rg_len]; rfl)
    (fun j ρ s => ∃ j' r', ρ = eD p a b S.length v (some (.d (.int (K : Nat)))) (some (.d (.int t))) j' ∧ s = S ++ [.lst (iL r'), .lst f] ∧ r'.length = a.length ∧ ∀ n, co r' n = if K ≤ n ∧ n < K + j then (co r n - t * co b (n - K)) % p else co r n)
    (ρ := eD p a b S.length v (some (.d (.int (K : Nat)))) (some (.d (.int t))) j0) (s := S ++ [.lst (iL r), .lst f]) ⟨j0, r, rfl, rfl, hr, fun n => by rw [if_neg (by omega)]⟩
    (fun j ρ s _ hj => rg_get _ _ _ (by rwa [iL_len, rg_len] at hj)) (fun _ _ _ => rfl)
    (by
      rintro j x ρ s hx ⟨j', r', rfl, rfl, h2, h3⟩
      have hj : j < b.length := by
        have := (List.getElem?_eq_some_iff.mp hx).1
        rwa [iL_len, rg_len] at this
      have ex : x = .int (j : Nat) := by
        rw [← rg_get b.length j [] hj, rng_get] at hx
        have := Option.some.inj hx
        rw [← this]; simp
      subst ex
      have e : ((K : Int) + (j : Int)) = ((K + j : Nat) : Int) := by omega
      refine ⟨eD p a b S.length v (some (.d (.int (K : Nat)))) (some (.d (.int t))) (some (.d (.int (j : Nat)))), S ++ [.lst (iL (r'.set (K + j) ((co r' (K + j) - t * co b j) % p))), .lst f], ?_, _, _, rfl, rfl, by rw [List.length_set, h2], fun n => ?_⟩
      · simp [-Int.natCast_add, ev_var, ev_glob, ev_int, ev_bl, ev_non, ev_str, ev_bin, ev_neg, ev_not, ev_and, ev_or, ev_cmp, ev_chain, ev_ite, ev_ix, ev_slo, ev_shi, ev_rev, ev_tup, ev_lst, ev_b1, ev_b2, ev_isi, ev_call, evs_nil, evs_cons, evi_rng1, evi_rng2, evi_rng3, evi_seq, evi_zip, ex_asg, ex_thaw, ex_par, ex_aug, ex_seti, ex_augi, ex_if_, ex_ret, ex_app, ex_ext, ex_pop, ex_pass, exs_nil, exs_cons, ex_for_, ex_whl, ev_comp, binI_add, binI_sub, binI_mulL, binI_mulR, binI_div, binI_mod, bin_int, cmp_int, cmpI_eq, cmpI_ne, cmpI_lt, cmpI_le, cmpI_gt, cmpI_ge, view_d, viewS_d, viewS_scr, b1_len_list, b1_len_tuple, b1_int_int, b1_tuple_list, b1_list_list, b1_list_tuple, ix_list, ix_tuple, asg_name, asg_tupT, asg_tupL, asgs_nil, asgs_cons, back_rt, back_nx, st_F, te_W, bd_W, st_C0, st_C1, wipe_nil, wipe_cons, sets_nil, sets_cons, pures_nil, pures_cons, rng_n, seq_n, rng_get, seq_list, seq_tuple, seq_getT, seq_getL, seq_getS, rng_fin, start_eq, iL_len, iL_snoc, iL_nil, c2a, s2a, v2a, e, ht, hp, atI_iL hj, atI_iL (a := r') (i := K + j) (by omega), ixN_nat (n := r'.length) (i := K + j) (by omega), iL_set]
      · rw [co_set (by omega)]
        by_cases hn : n = K + j
        · subst hn
          rw [if_pos rfl, if_pos (by omega), h3, if_neg (by omega), Nat.add_sub_cancel_left]
        · rw [if_neg hn, h3]
          by_cases hm : K ≤ n ∧ n < K + j
          · rw [if_pos hm, if_pos (by omega)]
          · rw [if_neg hm, if_neg (by omega)])
  refine ⟨j', r', h1, h2, fun n => ?_⟩
  rw [h3, iL_len, rg_len]
theorem divided_ok {Cl : Call} (hT : HMod Cl 1) (hI : HInv Cl) (p : Int) (hp : p ∈ primes) (a b : List Int) (ha : Nf p a) (hb : Nf p b) (hbn : b ≠ []) (hla : a.length < 1000) (hlb : b.length < 1000) (S : Store) :
    ∃ q l, back S.length (exSs Cl 1000000 d5.body (start d5.names.length [.d (.int p), .d (tI a), .d (tI b)]) S) = some (.d (.tuple [q, tI l]), S) ∧ Nf p l ∧ l.length < b.length ∧ Mu p b (fun n => co a n - co l n) := by
  have hb0 := pr_bd p hp
  have hp0 : 0 < p := by omega
  have hbl : 0 < b.length := List.length_pos_iff.mpr hbn
  have hl0 := hb.bd hp0 (b.length - 1)
  have hl1 := hb.last hbn
  obtain ⟨v, hv, hvd, _⟩ := hI p (co b (b.length - 1)) (S ++ [.lst (iL a)]) hp (by omega) hl0.2
  obtain ⟨n, hn⟩ : ∃ n : Nat, n = ((a.length : Int) - b.length + 1).toNat := ⟨_, rfl⟩
  have hnl : n + b.length ≤ a.length + 1 ∨ n = 0 := by omega
  have hn2 : a.length ≤ n + b.length - 1 := by omega
  let St := fun (r : List Int) (f : List D) => S ++ [Cell.lst (iL r), Cell.lst f]
  obtain ⟨ρ', s', h1, k, t, j, r, f, rfl, rfl, h2, h3, h4, h5, h6⟩ := forN_inv (.rng ((n : Int) - 1) (-1) n) (stepF Cl 1000000 (.name 6) (.cons (.asg (.name 7) (.bin .mod (.bin .mul (.ix (.var 3) (.bin .sub (.bin .add (.var 6) (.b1 .len (.var 2))) (.int 1))) (.var 4)) (.var 0)))
    (.cons (.seti (.var 5) (.var 6) (.var 7))
    (.cons (.if_ (.cmp .ne (.var 7) (.int 0)) (.cons (.for_ (.name 8) (.rng1 (.b1 .len (.var 2))) (.cons (.seti (.var 3) (.bin .add (.var 6) (.var 8)) (.bin .mod (.bin .sub (.ix (.var 3) (.bin .add (.var 6) (.var 8))) (.bin .mul (.var 7) (.ix (.var 2) (.var 8)))) (.var 0)))
    .nil))
    .nil) .nil)
    .nil)))) (List.map (fun i : Nat => PySem.PyData.int ((n : Int) - 1 - (i : Int))) (List.range n)) (by simp; rfl)
    (fun i ρ s => ∃ k t j r f, ρ = eD p a b S.length v k t j ∧ s = S ++ [.lst (iL r), .lst (iL f)] ∧ r.length = a.length ∧ f.length = n ∧ (∀ m, 0 ≤ co r m ∧ co r m < p) ∧ (∀ m, n - i + b.length - 1 ≤ m → co r m = 0) ∧ Mu p b (fun m => co a m - co r m))
    (ρ := eD p a b S.length v none none none) (s := S ++ [.lst (iL a), .lst (iL (List.replicate n 0))]) ⟨none, none, none, a, _, rfl, rfl, rfl, by simp, ha.bd hp0, fun m hm => co_len (by omega), .zero fun m => ⟨0, by omega⟩⟩
    (fun i ρ s _ hi => by
      have hi' : i < n := by simpa using hi
      rw [rng_get]
      simp [hi']
      omega) (fun _ _ _ => rfl)
    (by
      rintro i x ρ s hx ⟨k, t, j, r, f, rfl, rfl, h2, h3, h4, h5, h6⟩
      have hi : i < n := by
        have := (List.getElem?_eq_some_iff.mp hx).1
        simpa using this
      have ex : x = .int ((n - 1 - i : Nat) : Int) := by
        simp [hi] at hx
        rw [← hx]
        congr 1
        omega
      subst ex
      generalize hK : n - 1 - i = K
      have hKb : K + b.length ≤ a.length := by omega
      generalize ht : co r (K + b.length - 1) * v % p = t'
      have htb : 0 ≤ t' ∧ t' < p := by rw [← ht]; exact ⟨Int.emod_nonneg _ (by omega), Int.emod_lt_of_pos _ hp0⟩
      have hts : smI t' = true := smI_of htb.1 (by omega)
      have e1 : (K : Int) + (b.length : Int) - 1 = ((K + b.length - 1 : Nat) : Int) := by omega
      have hrs : smI (co r (K + b.length - 1)) = true := smI_of (h4 _).1 (by have := (h4 (K + b.length - 1)).2; omega)
      have hB := rngOk_nat (n := b.length) (by omega)
      have hzero : p ∣ co r (K + b.length - 1) - t' * co b (b.length - 1) := by
        obtain ⟨w, hw⟩ := hvd
        have := Int.mul_ediv_add_emod (co r (K + b.length - 1) * v) p
        rw [ht] at this
        generalize co r (K + b.length - 1) * v / p = q1 at this
        exact ⟨q1 * co b (b.length - 1) - co r (K + b.length - 1) * w, by grind⟩
      by_cases h0 : t' = 0
      · subst h0
        refine ⟨eD p a b S.length v (some (.d (.int (K : Nat)))) (some (.d (.int 0))) j, S ++ [.lst (iL r), .lst (iL (f.set K 0))], ?_, _, _, _, r, f.set K 0, rfl, rfl, h2, by rw [List.length_set, h3], h4, fun m hm => ?_, h6⟩
        · simp [-Int.natCast_add, ev_var, ev_glob, ev_int, ev_bl, ev_non, ev_str, ev_bin, ev_neg, ev_not, ev_and, ev_or, ev_cmp, ev_chain, ev_ite, ev_ix, ev_slo, ev_shi, ev_rev, ev_tup, ev_lst, ev_b1, ev_b2, ev_isi, ev_call, evs_nil, evs_cons, evi_rng1, evi_rng2, evi_rng3, evi_seq, evi_zip, ex_asg, ex_thaw, ex_par, ex_aug, ex_seti, ex_augi, ex_if_, ex_ret, ex_app, ex_ext, ex_pop, ex_pass, exs_nil, exs_cons, ex_for_, ex_whl, ev_comp, binI_add, binI_sub, binI_mulL, binI_mulR, binI_div, binI_mod, bin_int, cmp_int, cmpI_eq, cmpI_ne, cmpI_lt, cmpI_le, cmpI_gt, cmpI_ge, view_d, viewS_d, viewS_scr, b1_len_list, b1_len_tuple, b1_int_int, b1_tuple_list, b1_list_list, b1_list_tuple, ix_list, ix_tuple, asg_name, asg_tupT, asg_tupL, asgs_nil, asgs_cons, back_rt, back_nx, st_F, te_W, bd_W, st_C0, st_C1, wipe_nil, wipe_cons, sets_nil, sets_cons, pures_nil, pures_cons, rng_n, seq_n, rng_get, seq_list, seq_tuple, seq_getT, seq_getL, seq_getS, rng_fin, start_eq, iL_len, iL_snoc, iL_nil, v2a, c2b, s2b, e1, atI_iL (a := r) (i := K + b.length - 1) (by omega), hrs, hp0, ht, ixN_nat (n := f.length) (i := K) (by omega), iL_set]
        · by_cases hm2 : m = K + b.length - 1
          · subst hm2
            rw [Int.zero_mul, Int.sub_zero] at hzero
            exact eq_of_dvd (h4 _) ⟨Int.le_refl _, hp0⟩ (by simpa using hzero)
          · exact h5 m (by omega)
      · obtain ⟨j', r', k1, k2, k3⟩ := dinner (Cl := Cl) (v := v) (S := S) (f := iL (f.set K t')) hp0 hts h2 hKb j
        have k4 : ∀ m, co r' m = (co r m - t' * sh K (co b) m) % p := fun m => by
          rw [k3]
          by_cases hm : K ≤ m ∧ m < K + b.length
          · rw [if_pos hm]
            unfold sh
            rw [if_pos hm.1]
          · rw [if_neg hm]
            have : sh K (co b) m = 0 := by
              unfold sh
              split
              · exact co_len (by omega)
              · rfl
            rw [this, Int.mul_zero, Int.sub_zero, emod_of_bd (h4 m)]
        refine ⟨eD p a b S.length v (some (.d (.int (K : Nat)))) (some (.d (.int t'))) j', S ++ [.lst (iL r'), .lst (iL (f.set K t'))], ?_, _, _, _, r', f.set K t', rfl, rfl, k2, by rw [List.length_set, h3], fun m => ?_, fun m hm => ?_, ?_⟩
        · refine (st_F _ _ _ _ _ _ _).trans ?_
          rw [asg_name]
          refine (nx_of (asg_of (s1 := S ++ [.lst (iL r), .lst (iL f)]) (r := .d (.int t')) (ρ' := eD p a b S.length v (some (.d (.int (K : Nat)))) (some (.d (.int t'))) j) ?_ rfl)).trans ((nx_of (ρ' := eD p a b S.length v (some (.d (.int (K : Nat)))) (some (.d (.int t'))) j) (s1 := S ++ [.lst (iL r), .lst (iL (f.set K t'))]) ?_).trans ((nx_of ((if_t (s1 := S ++ [.lst (iL r), .lst (iL (f.set K t'))]) ?_).trans ((nx_of (for_of (J := .rng 0 1 b.length) (s1 := S ++ [.lst (iL r), .lst (iL (f.set K t'))]) ?_ k1)).trans (exs_nil _ _ _ _)))).trans (exs_nil _ _ _ _)))
          · simp [-Int.natCast_add, ev_var, ev_glob, ev_int, ev_bl, ev_non, ev_str, ev_bin, ev_neg, ev_not, ev_and, ev_or, ev_cmp, ev_chain, ev_ite, ev_ix, ev_slo, ev_shi, ev_rev, ev_tup, ev_lst, ev_b1, ev_b2, ev_isi, ev_call, evs_nil, evs_cons, evi_rng1, evi_rng2, evi_rng3, evi_seq, evi_zip, ex_asg, ex_thaw, ex_par, ex_aug, ex_seti, ex_augi, ex_if_, ex_ret, ex_app, ex_ext, ex_pop, ex_pass, exs_nil, exs_cons, ex_for_, ex_whl, ev_comp, binI_add, binI_sub, binI_mulL, binI_mulR, binI_div, binI_mod, bin_int, cmp_int, cmpI_eq, cmpI_ne, cmpI_lt, cmpI_le, cmpI_gt, cmpI_ge, view_d, viewS_d, viewS_scr, b1_len_list, b1_len_tuple, b1_int_int, b1_tuple_list, b1_list_list, b1_list_tuple, ix_list, ix_tuple, asg_name, asg_tupT, asg_tupL, asgs_nil, asgs_cons, back_rt, back_nx, st_F, te_W, bd_W, st_C0, st_C1, wipe_nil, wipe_cons, sets_nil, sets_cons, pures_nil, pures_cons, rng_n, seq_n, rng_get, seq_list, seq_tuple, seq_getT, seq_getL, seq_getS, rng_fin, start_eq, iL_len, iL_snoc, iL_nil, v2a, e1, atI_iL (a := r) (i := K + b.length - 1) (by omega), hrs, hp0, ht]
          · simp [-Int.natCast_add, ev_var, ev_glob, ev_int, ev_bl, ev_non, ev_str, ev_bin, ev_neg, ev_not, ev_and, ev_or, ev_cmp, ev_chain, ev_ite, ev_ix, ev_slo, ev_shi, ev_rev, ev_tup, ev_lst, ev_b1, ev_b2, ev_isi, ev_call, evs_nil, evs_cons, evi_rng1, evi_rng2, evi_rng3, evi_seq, evi_zip, ex_asg, ex_thaw, ex_par, ex_aug, ex_seti, ex_augi, ex_if_, ex_ret, ex_app, ex_ext, ex_pop, ex_pass, exs_nil, exs_cons, ex_for_, ex_whl, ev_comp, binI_add, binI_sub, binI_mulL, binI_mulR, binI_div, binI_mod, bin_int, cmp_int, cmpI_eq, cmpI_ne, cmpI_lt, cmpI_le, cmpI_gt, cmpI_ge, view_d, viewS_d, viewS_scr, b1_len_list, b1_len_tuple, b1_int_int, b1_tuple_list, b1_list_list, b1_list_tuple, ix_list, ix_tuple, asg_name, asg_tupT, asg_tupL, asgs_nil, asgs_cons, back_rt, back_nx, st_F, te_W, bd_W, st_C0, st_C1, wipe_nil, wipe_cons, sets_nil, sets_cons, pures_nil, pures_cons, rng_n, seq_n, rng_get, seq_list, seq_tuple, seq_getT, seq_getL, seq_getS, rng_fin, start_eq, iL_len, iL_snoc, iL_nil, c2b, s2b, ixN_nat (n := f.length) (i := K) (by omega), h3, ixN_nat (n := n) (i := K) (by omega), iL_set]
          · simp [ev_var, ev_glob, ev_int, ev_bl, ev_non, ev_str, ev_bin, ev_neg, ev_not, ev_and, ev_or, ev_cmp, ev_chain, ev_ite, ev_ix, ev_slo, ev_shi, ev_rev, ev_tup, ev_lst, ev_b1, ev_b2, ev_isi, ev_call, evs_nil, evs_cons, evi_rng1, evi_rng2, evi_rng3, evi_seq, evi_zip, ex_asg, ex_thaw, ex_par, ex_aug, ex_seti, ex_augi, ex_if_, ex_ret, ex_app, ex_ext, ex_pop, ex_pass, exs_nil, exs_cons, ex_for_, ex_whl, ev_comp, binI_add, binI_sub, binI_mulL, binI_mulR, binI_div, binI_mod, bin_int, cmp_int, cmpI_eq, cmpI_ne, cmpI_lt, cmpI_le, cmpI_gt, cmpI_ge, view_d, viewS_d, viewS_scr, b1_len_list, b1_len_tuple, b1_int_int, b1_tuple_list, b1_list_list, b1_list_tuple, ix_list, ix_tuple, asg_name, asg_tupT, asg_tupL, asgs_nil, asgs_cons, back_rt, back_nx, st_F, te_W, bd_W, st_C0, st_C1, wipe_nil, wipe_cons, sets_nil, sets_cons, pures_nil, pures_cons, rng_n, seq_n, rng_get, seq_list, seq_tuple, seq_getT, seq_getL, seq_getS, rng_fin, start_eq, iL_len, iL_snoc, iL_nil, h0]
          · simp [ev_var, ev_glob, ev_int, ev_bl, ev_non, ev_str, ev_bin, ev_neg, ev_not, ev_and, ev_or, ev_cmp, ev_chain, ev_ite, ev_ix, ev_slo, ev_shi, ev_rev, ev_tup, ev_lst, ev_b1, ev_b2, ev_isi, ev_call, evs_nil, evs_cons, evi_rng1, evi_rng2, evi_rng3, evi_seq, evi_zip, ex_asg, ex_thaw, ex_par, ex_aug, ex_seti, ex_augi, ex_if_, ex_ret, ex_app, ex_ext, ex_pop, ex_pass, exs_nil, exs_cons, ex_for_, ex_whl, ev_comp, binI_add, binI_sub, binI_mulL, binI_mulR, binI_div, binI_mod, bin_int, cmp_int, cmpI_eq, cmpI_ne, cmpI_lt, cmpI_le, cmpI_gt, cmpI_ge, view_d, viewS_d, viewS_scr, b1_len_list, b1_len_tuple, b1_int_int, b1_tuple_list, b1_list_list, b1_list_tuple, ix_list, ix_tuple, asg_name, asg_tupT, asg_tupL, asgs_nil, asgs_cons, back_rt, back_nx, st_F, te_W, bd_W, st_C0, st_C1, wipe_nil, wipe_cons, sets_nil, sets_cons, pures_nil, pures_cons, rng_n, seq_n, rng_get, seq_list, seq_tuple, seq_getT, seq_getL, seq_getS, rng_fin, start_eq, iL_len, iL_snoc, iL_nil, hB]
        · rw [k4]
          exact ⟨Int.emod_nonneg _ (by omega), Int.emod_lt_of_pos _ hp0⟩
        · rw [k4]
          by_cases hm2 : m = K + b.length - 1
          · subst hm2
            have : sh K (co b) (K + b.length - 1) = co b (b.length - 1) := by
              unfold sh
              rw [if_pos (by omega), show K + b.length - 1 - K = b.length - 1 by omega]
            rw [this]
            exact Int.emod_eq_zero_of_dvd hzero
          · have : sh K (co b) m = 0 := by
              unfold sh
              rw [if_pos (by omega)]
              exact co_len (by omega)
            rw [this, Int.mul_zero, Int.sub_zero, emod_of_bd (h4 m)]
            exact h5 m (by omega)
        · refine .step t' K rfl h6 fun m => ?_
          rw [k4]
          have := Int.mul_ediv_add_emod (co r m - t' * sh K (co b) m) p
          generalize (co r m - t' * sh K (co b) m) / p = q1 at this
          exact ⟨q1, by omega⟩)
  simp only [List.length_map, List.length_range, Nat.sub_self, Nat.zero_add] at h5
  have hN : Nf p (trim p r) := Nf.trim hp0 r
  have hco : ∀ m, co (trim p r) m = co r m := fun m => by rw [trim_co, emod_of_bd (h4 m)]
  refine ⟨tI (trim p f), trim p r, ?_, hN, ?_, ?_⟩
  · have e1 : evE Cl (.b1 .list (.var 1)) [some (.d (.int p)), some (.d (tI a)), some (.d (tI b)), none, none, none, none, none, none] S = some (.d (lI a), S) := by simp [ev_var, ev_glob, ev_int, ev_bl, ev_non, ev_str, ev_bin, ev_neg, ev_not, ev_and, ev_or, ev_cmp, ev_chain, ev_ite, ev_ix, ev_slo, ev_shi, ev_rev, ev_tup, ev_lst, ev_b1, ev_b2, ev_isi, ev_call, evs_nil, evs_cons, evi_rng1, evi_rng2, evi_rng3, evi_seq, evi_zip, ex_asg, ex_thaw, ex_par, ex_aug, ex_seti, ex_augi, ex_if_, ex_ret, ex_app, ex_ext, ex_pop, ex_pass, exs_nil, exs_cons, ex_for_, ex_whl, ev_comp, binI_add, binI_sub, binI_mulL, binI_mulR, binI_div, binI_mod, bin_int, cmp_int, cmpI_eq, cmpI_ne, cmpI_lt, cmpI_le, cmpI_gt, cmpI_ge, view_d, viewS_d, viewS_scr, b1_len_list, b1_len_tuple, b1_int_int, b1_tuple_list, b1_list_list, b1_list_tuple, ix_list, ix_tuple, asg_name, asg_tupT, asg_tupL, asgs_nil, asgs_cons, back_rt, back_nx, st_F, te_W, bd_W, st_C0, st_C1, wipe_nil, wipe_cons, sets_nil, sets_cons, pures_nil, pures_cons, rng_n, seq_n, rng_get, seq_list, seq_tuple, seq_getT, seq_getL, seq_getS, rng_fin, start_eq, iL_len, iL_snoc, iL_nil]
    have e2 : evE Cl (.call 0 (.cons (.ix (.var 2) (.neg (.int 1))) (.cons (.var 0) .nil))) [some (.d (.int p)), some (.d (tI a)), some (.d (tI b)), some (.loc S.length), none, none, none, none, none] (S ++ [.lst (iL a)]) = some (.d (.int v), S ++ [.lst (iL a)]) := by
      refine (call2 (s1 := S ++ [.lst (iL a)]) (va := .d (.int (co b (b.length - 1)))) (vb := .d (.int p)) (s2 := S ++ [.lst (iL a)]) ?_ ?_).trans hv
      · have : L2.atI (iL b) (-1) = some (.int (co b (b.length - 1))) := by
          rcases List.eq_nil_or_concat b with rfl | ⟨d, z, rfl⟩
          · exact absurd rfl hbn
          · rw [List.concat_eq_append, iL_snoc, atI_last]
            simp [co]
        simp [ev_var, ev_glob, ev_int, ev_bl, ev_non, ev_str, ev_bin, ev_neg, ev_not, ev_and, ev_or, ev_cmp, ev_chain, ev_ite, ev_ix, ev_slo, ev_shi, ev_rev, ev_tup, ev_lst, ev_b1, ev_b2, ev_isi, ev_call, evs_nil, evs_cons, evi_rng1, evi_rng2, evi_rng3, evi_seq, evi_zip, ex_asg, ex_thaw, ex_par, ex_aug, ex_seti, ex_augi, ex_if_, ex_ret, ex_app, ex_ext, ex_pop, ex_pass, exs_nil, exs_cons, ex_for_, ex_whl, ev_comp, binI_add, binI_sub, binI_mulL, binI_mulR, binI_div, binI_mod, bin_int, cmp_int, cmpI_eq, cmpI_ne, cmpI_lt, cmpI_le, cmpI_gt, cmpI_ge, view_d, viewS_d, viewS_scr, b1_len_list, b1_len_tuple, b1_int_int, b1_tuple_list, b1_list_list, b1_list_tuple, ix_list, ix_tuple, asg_name, asg_tupT, asg_tupL, asgs_nil, asgs_cons, back_rt, back_nx, st_F, te_W, bd_W, st_C0, st_C1, wipe_nil, wipe_cons, sets_nil, sets_cons, pures_nil, pures_cons, rng_n, seq_n, rng_get, seq_list, seq_tuple, seq_getT, seq_getL, seq_getS, rng_fin, start_eq, iL_len, iL_snoc, iL_nil, this]
      · simp [ev_var, ev_glob, ev_int, ev_bl, ev_non, ev_str, ev_bin, ev_neg, ev_not, ev_and, ev_or, ev_cmp, ev_chain, ev_ite, ev_ix, ev_slo, ev_shi, ev_rev, ev_tup, ev_lst, ev_b1, ev_b2, ev_isi, ev_call, evs_nil, evs_cons, evi_rng1, evi_rng2, evi_rng3, evi_seq, evi_zip, ex_asg, ex_thaw, ex_par, ex_aug, ex_seti, ex_augi, ex_if_, ex_ret, ex_app, ex_ext, ex_pop, ex_pass, exs_nil, exs_cons, ex_for_, ex_whl, ev_comp, binI_add, binI_sub, binI_mulL, binI_mulR, binI_div, binI_mod, bin_int, cmp_int, cmpI_eq, cmpI_ne, cmpI_lt, cmpI_le, cmpI_gt, cmpI_ge, view_d, viewS_d, viewS_scr, b1_len_list, b1_len_tuple, b1_int_int, b1_tuple_list, b1_list_list, b1_list_tuple, ix_list, ix_tuple, asg_name, asg_tupT, asg_tupL, asgs_nil, asgs_cons, back_rt, back_nx, st_F, te_W, bd_W, st_C0, st_C1, wipe_nil, wipe_cons, sets_nil, sets_cons, pures_nil, pures_cons, rng_n, seq_n, rng_get, seq_list, seq_tuple, seq_getT, seq_getL, seq_getS, rng_fin, start_eq, iL_len, iL_snoc, iL_nil]
    have e3 : evE Cl (.bin .mul (.lst (.cons (.int 0) .nil)) (.b2 .max (.int 0) (.bin .add (.bin .sub (.b1 .len (.var 1)) (.b1 .len (.var 2))) (.int 1)))) [some (.d (.int p)), some (.d (tI a)), some (.d (tI b)), some (.loc S.length), some (.d (.int v)), none, none, none, none] (S ++ [.lst (iL a)]) = some (.d (lI (List.replicate n 0)), S ++ [.lst (iL a)]) := by
      have e : (List.replicate n [(.int 0 : D)]).flatten = iL (List.replicate n 0) := by
        clear hn hnl hn2 h1 h3 h5
        induction n with
        | zero => rfl
        | succ n ih => rw [List.replicate_succ, List.flatten_cons, ih]; rfl
      have em : (if ((a.length : Int) - b.length + 1) > 0 then ((a.length : Int) - b.length + 1) else 0) = (n : Int) := by split <;> omega
      have e1 : szOk ((n : Nat) : Int).natAbs = true := Nat.ble_eq.mpr (by omega)
      have e2 : szOk (1 * n) = true := Nat.ble_eq.mpr (by omega)
      have e3 : szOk 1 = true := rfl
      have e4 : binD .mul (.list [.int 0]) (.int ((n : Nat) : Int)) = some (lI (List.replicate n 0)) := by
        unfold binD
        simp only [Int.toNat_natCast, List.length_cons, List.length_nil, Nat.zero_add, e1, e2, Bool.and_self, if_true, e]
      refine bin_of (s1 := S ++ [.lst (iL a)]) (ra := .d (.list [.int 0])) (rb := .d (.int ((n : Nat) : Int))) ?_ ?_ rfl rfl e4
      · simp [ev_var, ev_glob, ev_int, ev_bl, ev_non, ev_str, ev_bin, ev_neg, ev_not, ev_and, ev_or, ev_cmp, ev_chain, ev_ite, ev_ix, ev_slo, ev_shi, ev_rev, ev_tup, ev_lst, ev_b1, ev_b2, ev_isi, ev_call, evs_nil, evs_cons, evi_rng1, evi_rng2, evi_rng3, evi_seq, evi_zip, ex_asg, ex_thaw, ex_par, ex_aug, ex_seti, ex_augi, ex_if_, ex_ret, ex_app, ex_ext, ex_pop, ex_pass, exs_nil, exs_cons, ex_for_, ex_whl, ev_comp, binI_add, binI_sub, binI_mulL, binI_mulR, binI_div, binI_mod, bin_int, cmp_int, cmpI_eq, cmpI_ne, cmpI_lt, cmpI_le, cmpI_gt, cmpI_ge, view_d, viewS_d, viewS_scr, b1_len_list, b1_len_tuple, b1_int_int, b1_tuple_list, b1_list_list, b1_list_tuple, ix_list, ix_tuple, asg_name, asg_tupT, asg_tupL, asgs_nil, asgs_cons, back_rt, back_nx, st_F, te_W, bd_W, st_C0, st_C1, wipe_nil, wipe_cons, sets_nil, sets_cons, pures_nil, pures_cons, rng_n, seq_n, rng_get, seq_list, seq_tuple, seq_getT, seq_getL, seq_getS, rng_fin, start_eq, iL_len, iL_snoc, iL_nil, e3]
      · simp only [ev_b2, ev_int, ev_bin, ev_b1, ev_var, List.getElem?_cons_succ, List.getElem?_cons_zero, viewS_d, view_d, b1_len_tuple, iL_len, bin_int, binI_sub, binI_add, b2D, em]
    have e4 := hT p f (.loc (S.length + 1)) (S ++ [.lst (iL r), .lst (iL f)]) hp0 (by omega) (Rd.loc (by simp))
    have e5 := hT p r (.loc S.length) (S ++ [.lst (iL r), .lst (iL f)]) hp0 (by omega) (Rd.loc (by simp))
    have e6 : evE Cl (.tup (.cons (.call 1 (.cons (.var 0) (.cons (.var 5) .nil))) (.cons (.call 1 (.cons (.var 0) (.cons (.var 3) .nil))) .nil))) (eD p a b S.length v k t j) (S ++ [.lst (iL r), .lst (iL f)]) = some (.d (.tuple [tI (trim p f), tI (trim p r)]), S ++ [.lst (iL r), .lst (iL f)]) := by
      have f1 := (call2 (C := Cl) (f := 1) (a := .var 0) (b := .var 5) (ρ := eD p a b S.length v k t j) (s := S ++ [.lst (iL r), .lst (iL f)]) (va := .d (.int p)) (vb := .loc (S.length + 1)) (s1 := S ++ [.lst (iL r), .lst (iL f)]) (s2 := S ++ [.lst (iL r), .lst (iL f)]) (by simp [ev_var]) (by simp [ev_var])).trans e4
      have f2 := (call2 (C := Cl) (f := 1) (a := .var 0) (b := .var 3) (ρ := eD p a b S.length v k t j) (s := S ++ [.lst (iL r), .lst (iL f)]) (va := .d (.int p)) (vb := .loc S.length) (s1 := S ++ [.lst (iL r), .lst (iL f)]) (s2 := S ++ [.lst (iL r), .lst (iL f)]) (by simp [ev_var]) (by simp [ev_var])).trans e5
      rw [ev_tup, evs_cons, f1]
      simp only []
      rw [evs_cons, f2]
      rfl
    have hnz := rngOk_nat (n := n) (by omega)
    have hn1 : rngOk ((n : Int) - 1) = true := by
      unfold rngOk
      rw [Bool.and_eq_true]
      exact ⟨decide_eq_true (by omega), decide_eq_true (by omega)⟩
    have hn3 : rngOk (-1) = true := by decide
    have hn4 : (n : Int).toNat = n := by omega
    have e7 : evIt Cl (.rng3 (.bin .sub (.b1 .len (.var 5)) (.int 1)) (.neg (.int 1)) (.neg (.int 1))) (eD p a b S.length v none none none) (S ++ [.lst (iL a), .lst (iL (List.replicate n 0))]) = some (.rng ((n : Int) - 1) (-1) n, S ++ [.lst (iL a), .lst (iL (List.replicate n 0))]) := by
      simp [ev_var, ev_glob, ev_int, ev_bl, ev_non, ev_str, ev_bin, ev_neg, ev_not, ev_and, ev_or, ev_cmp, ev_chain, ev_ite, ev_ix, ev_slo, ev_shi, ev_rev, ev_tup, ev_lst, ev_b1, ev_b2, ev_isi, ev_call, evs_nil, evs_cons, evi_rng1, evi_rng2, evi_rng3, evi_seq, evi_zip, ex_asg, ex_thaw, ex_par, ex_aug, ex_seti, ex_augi, ex_if_, ex_ret, ex_app, ex_ext, ex_pop, ex_pass, exs_nil, exs_cons, ex_for_, ex_whl, ev_comp, binI_add, binI_sub, binI_mulL, binI_mulR, binI_div, binI_mod, bin_int, cmp_int, cmpI_eq, cmpI_ne, cmpI_lt, cmpI_le, cmpI_gt, cmpI_ge, view_d, viewS_d, viewS_scr, b1_len_list, b1_len_tuple, b1_int_int, b1_tuple_list, b1_list_list, b1_list_tuple, ix_list, ix_tuple, asg_name, asg_tupT, asg_tupL, asgs_nil, asgs_cons, back_rt, back_nx, st_F, te_W, bd_W, st_C0, st_C1, wipe_nil, wipe_cons, sets_nil, sets_cons, pures_nil, pures_cons, rng_n, seq_n, rng_get, seq_list, seq_tuple, seq_getT, seq_getL, seq_getS, rng_fin, start_eq, iL_len, iL_snoc, iL_nil, w2b, hn1, hn3, hn4]
    have hA : S ++ [Cell.lst (iL a)] ++ [Cell.lst (iL (List.replicate n 0))] = S ++ [.lst (iL a), .lst (iL (List.replicate n 0))] := by simp
    have hL : (S ++ [Cell.lst (iL a)]).length = S.length + 1 := by simp
    have t2 := thaw_of (i := 5) (W := 1000000) e3
    rw [hA, hL] at t2
    refine (back_of ((nx_of (thaw_of e1)).trans ((nx_of (asg_of e2 rfl)).trans ((nx_of t2).trans ((nx_of (for_of e7 h1)).trans (rt_of (ret_of e6))))))).trans ?_
    rw [take_app]
  · apply Nat.lt_of_not_le
    intro hle
    have hne : trim p r ≠ [] := by
      intro h
      rw [h] at hle
      simp at hle
      exact hbn hle
    have := hN.last hne
    rw [hco, h5 _ (by omega)] at this
    exact this rfl
  · exact h6.congr fun m => ⟨0, by rw [hco]; omega⟩
end LAW
end
section
namespace LAW
open PC PC.PM
def HDiv (Cl : Call) : Prop := ∀ (p : Int) (a b : List Int) (S : Store), p ∈ primes → Nf p a → Nf p b → b ≠ [] → a.length < 1000 → b.length < 1000 →
  ∃ q l, Cl 5 [.d (.int p), .d (tI a), .d (tI b)] S = some (.d (.tuple [q, tI l]), S) ∧ Nf p l ∧ l.length < b.length ∧ Mu p b (fun n => co a n - co l n)
theorem hDiv (k : Nat) : HDiv (C (k+2)) := fun p a b S hp ha hb hbn hla hlb => by
  rw [c5]
  exact divided_ok (hMod1 k) (hInv k) p hp a b ha hb hbn hla hlb S
def HRest (Cl : Call) : Prop := ∀ (p : Int) (a b : List Int) (S : Store), p ∈ primes → Nf p a → Nf p b → b ≠ [] → a.length < 1000 → b.length < 1000 →
  ∃ l, Cl 6 [.d (.int p), .d (tI a), .d (tI b)] S = some (.d (tI l), S) ∧ Nf p l ∧ l.length < b.length ∧ Mu p b (fun n => co a n - co l n)
theorem rest_ok {Cl : Call} (hD : HDiv Cl) (p : Int) (a b : List Int) (S : Store) (hp : p ∈ primes) (ha : Nf p a) (hb : Nf p b) (hbn : b ≠ []) (hla : a.length < 1000) (hlb : b.length < 1000) :
    ∃ l, back S.length (exSs Cl 1000000 d6.body (start d6.names.length [.d (.int p), .d (tI a), .d (tI b)]) S) = some (.d (tI l), S) ∧ Nf p l ∧ l.length < b.length ∧ Mu p b (fun n => co a n - co l n) := by
  obtain ⟨q, l, h1, h2, h3, h4⟩ := hD p a b S hp ha hb hbn hla hlb
  refine ⟨l, ?_, h2, h3, h4⟩
  have e1 := (call3 (C := Cl) (f := 5) (a := .var 0) (b := .var 1) (c := .var 2) (ρ := [some (.d (.int p)), some (.d (tI a)), some (.d (tI b))]) (s := S) (s1 := S) (s2 := S) (s3 := S) (va := .d (.int p)) (vb := .d (tI a)) (vc := .d (tI b)) (by simp [ev_var]) (by simp [ev_var]) (by simp [ev_var])).trans h1
  refine (back_of (rt_of (ret_of (ix_of (b := .int 1) (rb := .d (.int 1)) (s2 := S) (z := tI l) e1 (by simp [ev_var, ev_glob, ev_int, ev_bl, ev_non, ev_str, ev_bin, ev_neg, ev_not, ev_and, ev_or, ev_cmp, ev_chain, ev_ite, ev_ix, ev_slo, ev_shi, ev_rev, ev_tup, ev_lst, ev_b1, ev_b2, ev_isi, ev_call, evs_nil, evs_cons, evi_rng1, evi_rng2, evi_rng3, evi_seq, evi_zip, ex_asg, ex_thaw, ex_par, ex_aug, ex_seti, ex_augi, ex_if_, ex_ret, ex_app, ex_ext, ex_pop, ex_pass, exs_nil, exs_cons, ex_for_, ex_whl, ev_comp, binI_add, binI_sub, binI_mulL, binI_mulR, binI_div, binI_mod, bin_int, cmp_int, cmpI_eq, cmpI_ne, cmpI_lt, cmpI_le, cmpI_gt, cmpI_ge, view_d, viewS_d, viewS_scr, b1_len_list, b1_len_tuple, b1_int_int, b1_tuple_list, b1_list_list, b1_list_tuple, ix_list, ix_tuple, asg_name, asg_tupT, asg_tupL, asgs_nil, asgs_cons, back_rt, back_nx, st_F, te_W, bd_W, st_C0, st_C1, wipe_nil, wipe_cons, sets_nil, sets_cons, pures_nil, pures_cons, rng_n, seq_n, rng_get, seq_list, seq_tuple, seq_getT, seq_getL, seq_getS, rng_fin, start_eq, iL_len, iL_snoc, iL_nil]) rfl rfl ?_)))).trans ?_
  · rfl
  · simp
theorem hRest (k : Nat) : HRest (C (k+3)) := fun p a b S hp ha hb hbn hla hlb => by
  rw [c6]
  exact rest_ok (hDiv k) p a b S hp ha hb hbn hla hlb
/-! ### with a top of one -/
theorem atI_top {b : List Int} (hbn : b ≠ []) : L2.atI (iL b) (-1) = some (.int (co b (b.length - 1))) := by
  rcases List.eq_nil_or_concat b with rfl | ⟨d, z, rfl⟩
  · exact absurd rfl hbn
  · rw [List.concat_eq_append, iL_snoc, atI_last]
    simp [co]
def Top (p : Int) (a l : List Int) : Prop := Nf p l ∧ Mu p a (co l) ∧ Mu p l (co a) ∧ (l ≠ [] → co l (l.length - 1) = 1) ∧ l.length ≤ a.length
def HTimes (Cl : Call) : Prop := ∀ (p c : Int) (a : List Int) (S : Store), 0 < p → a.length < 1000000 → smI c = true → Cl 3 [.d (.int p), .d (tI a), .d (.int c)] S = some (.d (tI (trim p (a.map fun x => c * x))), S)
theorem hTrim' (k : Nat) : HTrim (C (k+1)) := hTrim k
theorem hTimes (k : Nat) : HTimes (C (k+2)) := fun p c a S hp ha hc => by
  rw [c3]
  exact times_ok (hTrim k) p c hp a ha hc S
theorem top_ok {Cl : Call} (hT : HTimes Cl) (hI : HInv Cl) (p : Int) (hp : p ∈ primes) (a : List Int) (ha : Nf p a) (hla : a.length < 1000) (S : Store) :
    ∃ l, back S.length (exSs Cl 1000000 d8.body (start d8.names.length [.d (.int p), .d (tI a)]) S) = some (.d (tI l), S) ∧ Top p a l := by
  have hb0 := pr_bd p hp
  have hp0 : 0 < p := by omega
  by_cases h : a = []
  · subst h
    refine ⟨[], ?_, Nf.nil, Mu.self [], Mu.self [], fun h => absurd rfl h, Nat.le_refl _⟩
    have : szOk 0 = true := rfl
    simp [d8, ev_var, ev_glob, ev_int, ev_bl, ev_non, ev_str, ev_bin, ev_neg, ev_not, ev_and, ev_or, ev_cmp, ev_chain, ev_ite, ev_ix, ev_slo, ev_shi, ev_rev, ev_tup, ev_lst, ev_b1, ev_b2, ev_isi, ev_call, evs_nil, evs_cons, evi_rng1, evi_rng2, evi_rng3, evi_seq, evi_zip, ex_asg, ex_thaw, ex_par, ex_aug, ex_seti, ex_augi, ex_if_, ex_ret, ex_app, ex_ext, ex_pop, ex_pass, exs_nil, exs_cons, ex_for_, ex_whl, ev_comp, binI_add, binI_sub, binI_mulL, binI_mulR, binI_div, binI_mod, bin_int, cmp_int, cmpI_eq, cmpI_ne, cmpI_lt, cmpI_le, cmpI_gt, cmpI_ge, view_d, viewS_d, viewS_scr, b1_len_list, b1_len_tuple, b1_int_int, b1_tuple_list, b1_list_list, b1_list_tuple, ix_list, ix_tuple, asg_name, asg_tupT, asg_tupL, asgs_nil, asgs_cons, back_rt, back_nx, st_F, te_W, bd_W, st_C0, st_C1, wipe_nil, wipe_cons, sets_nil, sets_cons, pures_nil, pures_cons, rng_n, seq_n, rng_get, seq_list, seq_tuple, seq_getT, seq_getL, seq_getS, rng_fin, start_eq, iL_len, iL_snoc, iL_nil, this]
  · have hl0 := ha.bd hp0 (a.length - 1)
    have hl1 := ha.last h
    have hal : 0 < a.length := List.length_pos_iff.mpr h
    obtain ⟨v, hv, hvd, hvs⟩ := hI p (co a (a.length - 1)) S hp (by omega) hl0.2
    have hN := Nf.trim hp0 (a.map fun x => v * x)
    have hcm : ∀ n, co (a.map fun x => v * x) n = v * co a n := fun n => by
      simp only [co, List.getD_eq_getElem?_getD, List.getElem?_map]
      cases a[n]? <;> simp
    have hco : ∀ n, co (trim p (a.map fun x => v * x)) n = v * co a n % p := fun n => by rw [trim_co, hcm]
    have hle : (trim p (a.map fun x => v * x)).length ≤ a.length := by have := trim_le p (a.map fun x => v * x); simpa using this
    have htop : co (trim p (a.map fun x => v * x)) (a.length - 1) = 1 := by
      rw [hco]
      obtain ⟨w, hw⟩ := hvd
      have : v * co a (a.length - 1) = 1 + p * w := by omega
      rw [this, Int.add_mul_emod_self_left]
      exact Int.emod_eq_of_lt (by omega) (by omega)
    have hlen : (trim p (a.map fun x => v * x)).length = a.length := by
      apply Nat.le_antisymm hle
      apply Nat.le_of_not_lt
      intro hlt
      rw [co_len (by omega)] at htop
      cases htop
    refine ⟨trim p (a.map fun x => v * x), ?_, hN, ?_, ?_, fun _ => by rw [hlen]; exact htop, hle⟩
    · have e1 := hT p v a S hp0 (by omega) hvs
      have e2 := (call2 (C := Cl) (f := 0) (a := .ix (.var 1) (.neg (.int 1))) (b := .var 0) (ρ := [some (.d (.int p)), some (.d (tI a))]) (s := S) (s1 := S) (s2 := S) (va := .d (.int (co a (a.length - 1)))) (vb := .d (.int p)) (by simp [ev_var, ev_glob, ev_int, ev_bl, ev_non, ev_str, ev_bin, ev_neg, ev_not, ev_and, ev_or, ev_cmp, ev_chain, ev_ite, ev_ix, ev_slo, ev_shi, ev_rev, ev_tup, ev_lst, ev_b1, ev_b2, ev_isi, ev_call, evs_nil, evs_cons, evi_rng1, evi_rng2, evi_rng3, evi_seq, evi_zip, ex_asg, ex_thaw, ex_par, ex_aug, ex_seti, ex_augi, ex_if_, ex_ret, ex_app, ex_ext, ex_pop, ex_pass, exs_nil, exs_cons, ex_for_, ex_whl, ev_comp, binI_add, binI_sub, binI_mulL, binI_mulR, binI_div, binI_mod, bin_int, cmp_int, cmpI_eq, cmpI_ne, cmpI_lt, cmpI_le, cmpI_gt, cmpI_ge, view_d, viewS_d, viewS_scr, b1_len_list, b1_len_tuple, b1_int_int, b1_tuple_list, b1_list_list, b1_list_tuple, ix_list, ix_tuple, asg_name, asg_tupT, asg_tupL, asgs_nil, asgs_cons, back_rt, back_nx, st_F, te_W, bd_W, st_C0, st_C1, wipe_nil, wipe_cons, sets_nil, sets_cons, pures_nil, pures_cons, rng_n, seq_n, rng_get, seq_list, seq_tuple, seq_getT, seq_getL, seq_getS, rng_fin, start_eq, iL_len, iL_snoc, iL_nil, atI_top h]) (by simp [ev_var])).trans hv
      have e3 := (call3 (C := Cl) (f := 3) (a := .var 0) (b := .var 1) (c := .call 0 (.cons (.ix (.var 1) (.neg (.int 1))) (.cons (.var 0) .nil))) (ρ := [some (.d (.int p)), some (.d (tI a))]) (s := S) (s1 := S) (s2 := S) (s3 := S) (va := .d (.int p)) (vb := .d (tI a)) (vc := .d (.int v)) (by simp [ev_var]) (by simp [ev_var]) e2).trans e1
      have e4 : evE Cl (.cmp .gt (.b1 .len (.var 1)) (.int 0)) [some (.d (.int p)), some (.d (tI a))] S = some (.d (.bool true), S) := by simp [ev_var, ev_glob, ev_int, ev_bl, ev_non, ev_str, ev_bin, ev_neg, ev_not, ev_and, ev_or, ev_cmp, ev_chain, ev_ite, ev_ix, ev_slo, ev_shi, ev_rev, ev_tup, ev_lst, ev_b1, ev_b2, ev_isi, ev_call, evs_nil, evs_cons, evi_rng1, evi_rng2, evi_rng3, evi_seq, evi_zip, ex_asg, ex_thaw, ex_par, ex_aug, ex_seti, ex_augi, ex_if_, ex_ret, ex_app, ex_ext, ex_pop, ex_pass, exs_nil, exs_cons, ex_for_, ex_whl, ev_comp, binI_add, binI_sub, binI_mulL, binI_mulR, binI_div, binI_mod, bin_int, cmp_int, cmpI_eq, cmpI_ne, cmpI_lt, cmpI_le, cmpI_gt, cmpI_ge, view_d, viewS_d, viewS_scr, b1_len_list, b1_len_tuple, b1_int_int, b1_tuple_list, b1_list_list, b1_list_tuple, ix_list, ix_tuple, asg_name, asg_tupT, asg_tupL, asgs_nil, asgs_cons, back_rt, back_nx, st_F, te_W, bd_W, st_C0, st_C1, wipe_nil, wipe_cons, sets_nil, sets_cons, pures_nil, pures_cons, rng_n, seq_n, rng_get, seq_list, seq_tuple, seq_getT, seq_getL, seq_getS, rng_fin, start_eq, iL_len, iL_snoc, iL_nil, hal]
      have e5 : evE Cl (.ite (.cmp .gt (.b1 .len (.var 1)) (.int 0)) (.call 3 (.cons (.var 0) (.cons (.var 1) (.cons (.call 0 (.cons (.ix (.var 1) (.neg (.int 1))) (.cons (.var 0) .nil))) .nil)))) (.tup .nil)) [some (.d (.int p)), some (.d (tI a))] S = some (.d (tI (trim p (a.map fun x => v * x))), S) := by
        rw [ev_ite, e4]
        exact e3
      refine (back_of (rt_of (ret_of e5))).trans ?_
      simp
    · refine .step v 0 rfl (.zero (f := fun _ => 0) fun _ => Int.dvd_zero _) fun n => ?_
      rw [sh0, hco]
      have := Int.mul_ediv_add_emod (v * co a n) p
      generalize v * co a n / p = q1 at this
      exact ⟨-q1, by grind⟩
    · refine .step (co a (a.length - 1)) 0 rfl (.zero (f := fun _ => 0) fun _ => Int.dvd_zero _) fun n => ?_
      rw [sh0, hco]
      have := Int.mul_ediv_add_emod (v * co a n) p
      generalize v * co a n / p = q1 at this
      obtain ⟨w, hw⟩ := hvd
      exact ⟨co a (a.length - 1) * q1 - w * co a n, by grind⟩
def HTop (Cl : Call) : Prop := ∀ (p : Int) (a : List Int) (S : Store), p ∈ primes → Nf p a → a.length < 1000 → ∃ l, Cl 8 [.d (.int p), .d (tI a)] S = some (.d (tI l), S) ∧ Top p a l
theorem hTop (k : Nat) : HTop (C (k+3)) := fun p a S hp ha hla => by
  rw [c8]
  exact top_ok (hTimes k) (hInv (k+1)) p hp a ha hla S
/-! ### shared parts -/
def Both (a b : List Int) : F → Prop := fun g => g = co a ∨ g = co b
structure Shd (p : Int) (a b l : List Int) : Prop where
  nf : Nf p l
  one : Mu p l (co a)
  two : Mu p l (co b)
  in_ : Id p (Both a b) (co l)
  top : l ≠ [] → co l (l.length - 1) = 1
  len : l.length < 1000
theorem shared_ok {Cl : Call} (hR : HRest Cl) (hT : HTop Cl) (p : Int) (hp : p ∈ primes) (a b : List Int) (ha : Nf p a) (hb : Nf p b) (hla : a.length < 1000) (hlb : b.length < 1000) (S : Store) :
    ∃ l, back S.length (exSs Cl 1000000 d9.body (start d9.names.length [.d (.int p), .d (tI a), .d (tI b)]) S) = some (.d (tI l), S) ∧ Shd p a b l := by
  have hb0 := pr_bd p hp
  have hp0 : 0 < p := by omega
  obtain ⟨ρ', s', e1, x, rfl, rfl, h1, h2, h3, h4, h5⟩ := whlN_inv (testW Cl (.cmp .gt (.b1 .len (.var 2)) (.int 0))) (bodyW Cl 1000000 (.cons (.par [1, 2] (.cons (.var 2) (.cons (.call 6 (.cons (.var 0) (.cons (.var 1) (.cons (.var 2) .nil)))) .nil))) .nil))
    (fun m ρ s => s = S ∧ ∃ x y : List Int, ρ = [some (.d (.int p)), some (.d (tI x)), some (.d (tI y))] ∧ m = y.length ∧ Nf p x ∧ Nf p y ∧ x.length < 1000 ∧ y.length < 1000 ∧ Id p (Both a b) (co x) ∧ Id p (Both a b) (co y) ∧ Id p (Both x y) (co a) ∧ Id p (Both x y) (co b))
    (fun ρ s => ∃ x : List Int, ρ = [some (.d (.int p)), some (.d (tI x)), some (.d (tI []))] ∧ s = S ∧ Nf p x ∧ x.length < 1000 ∧ Id p (Both a b) (co x) ∧ Mu p x (co a) ∧ Mu p x (co b)) (by
    rintro m ρ s ⟨rfl, x, y, rfl, rfl, hx, hy, lx, ly, i1, i2, i3, i4⟩
    by_cases h : y = []
    · subst h
      have to : ∀ {f : F}, Id p (Both x []) f → Mu p x f := fun i => i.mono fun g hg => by
        rcases hg with rfl | rfl
        · exact Mu.self x
        · exact .zero fun n => by simp [co]
      refine .inl ⟨s, ?_, x, rfl, rfl, hx, lx, i1, to i3, to i4⟩
      simp [ev_var, ev_glob, ev_int, ev_bl, ev_non, ev_str, ev_bin, ev_neg, ev_not, ev_and, ev_or, ev_cmp, ev_chain, ev_ite, ev_ix, ev_slo, ev_shi, ev_rev, ev_tup, ev_lst, ev_b1, ev_b2, ev_isi, ev_call, evs_nil, evs_cons, evi_rng1, evi_rng2, evi_rng3, evi_seq, evi_zip, ex_asg, ex_thaw, ex_par, ex_aug, ex_seti, ex_augi, ex_if_, ex_ret, ex_app, ex_ext, ex_pop, ex_pass, exs_nil, exs_cons, ex_for_, ex_whl, ev_comp, binI_add, binI_sub, binI_mulL, binI_mulR, binI_div, binI_mod, bin_int, cmp_int, cmpI_eq, cmpI_ne, cmpI_lt, cmpI_le, cmpI_gt, cmpI_ge, view_d, viewS_d, viewS_scr, b1_len_list, b1_len_tuple, b1_int_int, b1_tuple_list, b1_list_list, b1_list_tuple, ix_list, ix_tuple, asg_name, asg_tupT, asg_tupL, asgs_nil, asgs_cons, back_rt, back_nx, st_F, te_W, bd_W, st_C0, st_C1, wipe_nil, wipe_cons, sets_nil, sets_cons, pures_nil, pures_cons, rng_n, seq_n, rng_get, seq_list, seq_tuple, seq_getT, seq_getL, seq_getS, rng_fin, start_eq, iL_len, iL_snoc, iL_nil]
    · have hyl : 0 < y.length := List.length_pos_iff.mpr h
      obtain ⟨r, e1, e2, e3, e4⟩ := hR p x y s hp hx hy h lx ly
      have f1 := (call3 (C := Cl) (f := 6) (a := .var 0) (b := .var 1) (c := .var 2) (ρ := [some (.d (.int p)), some (.d (tI x)), some (.d (tI y))]) (s := s) (s1 := s) (s2 := s) (s3 := s) (va := .d (.int p)) (vb := .d (tI x)) (vc := .d (tI y)) (by simp [ev_var]) (by simp [ev_var]) (by simp [ev_var])).trans e1
      have yr : ∀ {f : F}, Mu p y f → Id p (Both y r) f := fun i => i.mono fun g hg => by subst hg; exact Id.gen (.inl rfl)
      have to : ∀ {f : F}, Id p (Both x y) f → Id p (Both y r) f := fun i => i.mono fun g hg => by
        rcases hg with rfl | rfl
        · exact ((yr e4).add (Id.gen (g := co r) (.inr rfl))).congr fun n => ⟨0, by omega⟩
        · exact Id.gen (.inl rfl)
      have yi : ∀ {f : F}, Mu p y f → Id p (Both a b) f := fun i => i.mono fun g hg => by subst hg; exact i2
      refine .inr ⟨s, [some (.d (.int p)), some (.d (tI y)), some (.d (tI r))], s, r.length, ?_, ?_, e3, rfl, y, r, rfl, rfl, hy, e2, ly, by omega, i2, (i1.sub (yi e4)).congr fun n => ⟨0, by omega⟩, to i3, to i4⟩
      · simp [ev_var, ev_glob, ev_int, ev_bl, ev_non, ev_str, ev_bin, ev_neg, ev_not, ev_and, ev_or, ev_cmp, ev_chain, ev_ite, ev_ix, ev_slo, ev_shi, ev_rev, ev_tup, ev_lst, ev_b1, ev_b2, ev_isi, ev_call, evs_nil, evs_cons, evi_rng1, evi_rng2, evi_rng3, evi_seq, evi_zip, ex_asg, ex_thaw, ex_par, ex_aug, ex_seti, ex_augi, ex_if_, ex_ret, ex_app, ex_ext, ex_pop, ex_pass, exs_nil, exs_cons, ex_for_, ex_whl, ev_comp, binI_add, binI_sub, binI_mulL, binI_mulR, binI_div, binI_mod, bin_int, cmp_int, cmpI_eq, cmpI_ne, cmpI_lt, cmpI_le, cmpI_gt, cmpI_ge, view_d, viewS_d, viewS_scr, b1_len_list, b1_len_tuple, b1_int_int, b1_tuple_list, b1_list_list, b1_list_tuple, ix_list, ix_tuple, asg_name, asg_tupT, asg_tupL, asgs_nil, asgs_cons, back_rt, back_nx, st_F, te_W, bd_W, st_C0, st_C1, wipe_nil, wipe_cons, sets_nil, sets_cons, pures_nil, pures_cons, rng_n, seq_n, rng_get, seq_list, seq_tuple, seq_getT, seq_getL, seq_getS, rng_fin, start_eq, iL_len, iL_snoc, iL_nil, hyl]
      · rw [bd_W, exs_cons, ex_par, evs_cons, ev_var]
        simp only [List.getElem?_cons_succ, List.getElem?_cons_zero]
        rw [evs_cons, f1]
        rfl) 1000000 b.length [some (.d (.int p)), some (.d (tI a)), some (.d (tI b))] S (by omega) ⟨rfl, a, b, rfl, rfl, ha, hb, hla, hlb, Id.gen (.inl rfl), Id.gen (.inr rfl), Id.gen (.inl rfl), Id.gen (.inr rfl)⟩
  obtain ⟨l, e2, t1, t2, t3, t4, t5⟩ := hT p x s' hp h1 h2
  refine ⟨l, ?_, t1, t3.trans h4, t3.trans h5, t2.mono fun g hg => by subst hg; exact h3, t4, by omega⟩
  have e3 := (call2 (C := Cl) (f := 8) (a := .var 0) (b := .var 1) (ρ := [some (.d (.int p)), some (.d (tI x)), some (.d (tI []))]) (s := s') (s1 := s') (s2 := s') (va := .d (.int p)) (vb := .d (tI x)) (by simp [ev_var]) (by simp [ev_var])).trans e2
  refine (back_of ((nx_of (whl_of e1)).trans (rt_of (ret_of e3)))).trans ?_
  simp
def HShd (Cl : Call) : Prop := ∀ (p : Int) (a b : List Int) (S : Store), p ∈ primes → Nf p a → Nf p b → a.length < 1000 → b.length < 1000 → ∃ l, Cl 9 [.d (.int p), .d (tI a), .d (tI b)] S = some (.d (tI l), S) ∧ Shd p a b l
theorem hShd (k : Nat) : HShd (C (k+4)) := fun p a b S hp ha hb hla hlb => by
  rw [c9]
  exact shared_ok (hRest k) (hTop k) p hp a b ha hb hla hlb S
end LAW
end
section
namespace LAW
open PC PC.PM
/-! ### the pool of draws -/
def pool (cells : List Int) (pos cur cnt salt : Int) : List D := [.list (cells.map PySem.PyData.int), .int pos, .int cur, .int cnt, .int salt]
def PoolAt (P : List D) : Prop := ∃ cells pos cur cnt salt, 0 ≤ pos ∧ P = pool cells pos cur cnt salt
theorem view0 (xs : List D) (X : Store) : viewD (.loc 0) (.lst xs :: X) = some (.list xs) := rfl
theorem cell0 (xs : List D) (X : Store) : cellAt (.lst xs :: X) 0 = some xs := rfl
theorem set0 (a : Cell) (xs : List D) (X : Store) : setCell (a :: X) 0 xs = .lst xs :: X := rfl
def HSpread (Cl : Call) : Prop := ∀ (c : Int) (S : Store), ∃ v, Cl 12 [.d (.int c)] S = some (.d (.int v), S)
theorem hSpread (k : Nat) : HSpread (C (k+1)) := fun c S => by
  rw [c12]
  simp (decide := true) [d12, forN, ev_var, ev_glob, ev_int, ev_bl, ev_non, ev_str, ev_bin, ev_neg, ev_not, ev_and, ev_or, ev_cmp, ev_chain, ev_ite, ev_ix, ev_slo, ev_shi, ev_rev, ev_tup, ev_lst, ev_b1, ev_b2, ev_isi, ev_call, evs_nil, evs_cons, evi_rng1, evi_rng2, evi_rng3, evi_seq, evi_zip, ex_asg, ex_thaw, ex_par, ex_aug, ex_seti, ex_augi, ex_if_, ex_ret, ex_app, ex_ext, ex_pop, ex_pass, exs_nil, exs_cons, ex_for_, ex_whl, ev_comp, binI_add, binI_sub, binI_mulL, binI_mulR, binI_div, binI_mod, bin_int, cmp_int, cmpI_eq, cmpI_ne, cmpI_lt, cmpI_le, cmpI_gt, cmpI_ge, view_d, viewS_d, viewS_scr, b1_len_list, b1_len_tuple, b1_int_int, b1_tuple_list, b1_list_list, b1_list_tuple, ix_list, ix_tuple, asg_name, asg_tupT, asg_tupL, asgs_nil, asgs_cons, back_rt, back_nx, st_F, te_W, bd_W, st_C0, st_C1, wipe_nil, wipe_cons, sets_nil, sets_cons, pures_nil, pures_cons, rng_n, seq_n, rng_get, seq_list, seq_tuple, seq_getT, seq_getL, seq_getS, rng_fin, start_eq, iL_len, iL_snoc, iL_nil]
def HDraw (Cl : Call) : Prop := ∀ (P : List D) (X : Store) (many : Int), PoolAt P → 0 < many → many < 1073741824 → ∃ v P', PoolAt P' ∧ 0 ≤ v ∧ v < many ∧ Cl 13 [.loc 0, .d (.int many)] (.lst P :: X) = some (.d (.int v), .lst P' :: X)
theorem draw_ok {Cl : Call} (hS : HSpread Cl) (cells : List Int) (pos cur cnt salt many : Int) (X : Store) (hp : 0 ≤ pos) (hm : 0 < many) (hm2 : many < 1073741824) : ∃ v pos' cur' cnt', 0 ≤ pos' ∧ 0 ≤ v ∧ v < many ∧
    back (.lst (pool cells pos cur cnt salt) :: X : Store).length (exSs Cl 1000000 d13.body (start d13.names.length [.loc 0, .d (.int many)]) (.lst (pool cells pos cur cnt salt) :: X)) = some (.d (.int v), .lst (pool cells pos' cur' cnt' salt) :: X) := by
  have e1 : ∀ z : Int, 0 ≤ z % many ∧ z % many < many := fun z => ⟨Int.emod_nonneg _ (by omega), Int.emod_lt_of_pos _ hm⟩
  by_cases h1 : cur ≤ 0
  · by_cases h2 : pos < cells.length
    · have hb : pos.toNat < cells.length := by omega
      obtain ⟨c, hc2⟩ : ∃ c, cells[pos.toNat]'hb = c := ⟨_, rfl⟩
      have hc : cells[pos.toNat]? = some c := by rw [List.getElem?_eq_getElem hb, hc2]
      by_cases h3 : c < 1000000000000000000
      · obtain ⟨w, hw⟩ := hS c (.lst (pool cells (pos+1) c cnt salt) :: X)
        unfold pool at hw
        by_cases h4 : w ≤ 0
        · simp (decide := true) [d13, ev_var, ev_glob, ev_int, ev_bl, ev_non, ev_str, ev_bin, ev_neg, ev_not, ev_and, ev_or, ev_cmp, ev_chain, ev_ite, ev_ix, ev_slo, ev_shi, ev_rev, ev_tup, ev_lst, ev_b1, ev_b2, ev_isi, ev_call, evs_nil, evs_cons, evi_rng1, evi_rng2, evi_rng3, evi_seq, evi_zip, ex_asg, ex_thaw, ex_par, ex_aug, ex_seti, ex_augi, ex_if_, ex_ret, ex_app, ex_ext, ex_pop, ex_pass, exs_nil, exs_cons, ex_for_, ex_whl, ev_comp, binI_add, binI_sub, binI_mulL, binI_mulR, binI_div, binI_mod, bin_int, cmp_int, cmpI_eq, cmpI_ne, cmpI_lt, cmpI_le, cmpI_gt, cmpI_ge, view_d, viewS_d, viewS_scr, b1_len_list, b1_len_tuple, b1_int_int, b1_tuple_list, b1_list_list, b1_list_tuple, ix_list, ix_tuple, asg_name, asg_tupT, asg_tupL, asgs_nil, asgs_cons, back_rt, back_nx, st_F, te_W, bd_W, st_C0, st_C1, wipe_nil, wipe_cons, sets_nil, sets_cons, pures_nil, pures_cons, rng_n, seq_n, rng_get, seq_list, seq_tuple, seq_getT, seq_getL, seq_getS, rng_fin, start_eq, iL_len, iL_snoc, iL_nil, view0, cell0, set0, pool, L2.atI, L2.ixN, h1, h2, hp, hc, hc2, hb, h3, h4, hw, hm, hm2, e1]
          first | exact ⟨_, _, by omega, (e1 _).1, (e1 _).2, rfl, rfl⟩ | exact ⟨_, _, by omega, (e1 _).1, (e1 _).2, _, rfl, rfl, rfl⟩ | exact ⟨_, _, _, by omega, (e1 _).1, (e1 _).2, rfl, rfl, rfl⟩ | trace_state
        · simp (decide := true) [d13, ev_var, ev_glob, ev_int, ev_bl, ev_non, ev_str, ev_bin, ev_neg, ev_not, ev_and, ev_or, ev_cmp, ev_chain, ev_ite, ev_ix, ev_slo, ev_shi, ev_rev, ev_tup, ev_lst, ev_b1, ev_b2, ev_isi, ev_call, evs_nil, evs_cons, evi_rng1, evi_rng2, evi_rng3, evi_seq, evi_zip, ex_asg, ex_thaw, ex_par, ex_aug, ex_seti, ex_augi, ex_if_, ex_ret, ex_app, ex_ext, ex_pop, ex_pass, exs_nil, exs_cons, ex_for_, ex_whl, ev_comp, binI_add, binI_sub, binI_mulL, binI_mulR, binI_div, binI_mod, bin_int, cmp_int, cmpI_eq, cmpI_ne, cmpI_lt, cmpI_le, cmpI_gt, cmpI_ge, view_d, viewS_d, viewS_scr, b1_len_list, b1_len_tuple, b1_int_int, b1_tuple_list, b1_list_list, b1_list_tuple, ix_list, ix_tuple, asg_name, asg_tupT, asg_tupL, asgs_nil, asgs_cons, back_rt, back_nx, st_F, te_W, bd_W, st_C0, st_C1, wipe_nil, wipe_cons, sets_nil, sets_cons, pures_nil, pures_cons, rng_n, seq_n, rng_get, seq_list, seq_tuple, seq_getT, seq_getL, seq_getS, rng_fin, start_eq, iL_len, iL_snoc, iL_nil, view0, cell0, set0, pool, L2.atI, L2.ixN, h1, h2, hp, hc, hc2, hb, h3, h4, hw, hm, hm2, e1]
          first | exact ⟨_, _, by omega, (e1 _).1, (e1 _).2, rfl, rfl⟩ | exact ⟨_, _, by omega, (e1 _).1, (e1 _).2, _, rfl, rfl, rfl⟩ | exact ⟨_, _, _, by omega, (e1 _).1, (e1 _).2, rfl, rfl, rfl⟩ | trace_state
      · have h4 : ¬ c ≤ 0 := by omega
        simp (decide := true) [d13, ev_var, ev_glob, ev_int, ev_bl, ev_non, ev_str, ev_bin, ev_neg, ev_not, ev_and, ev_or, ev_cmp, ev_chain, ev_ite, ev_ix, ev_slo, ev_shi, ev_rev, ev_tup, ev_lst, ev_b1, ev_b2, ev_isi, ev_call, evs_nil, evs_cons, evi_rng1, evi_rng2, evi_rng3, evi_seq, evi_zip, ex_asg, ex_thaw, ex_par, ex_aug, ex_seti, ex_augi, ex_if_, ex_ret, ex_app, ex_ext, ex_pop, ex_pass, exs_nil, exs_cons, ex_for_, ex_whl, ev_comp, binI_add, binI_sub, binI_mulL, binI_mulR, binI_div, binI_mod, bin_int, cmp_int, cmpI_eq, cmpI_ne, cmpI_lt, cmpI_le, cmpI_gt, cmpI_ge, view_d, viewS_d, viewS_scr, b1_len_list, b1_len_tuple, b1_int_int, b1_tuple_list, b1_list_list, b1_list_tuple, ix_list, ix_tuple, asg_name, asg_tupT, asg_tupL, asgs_nil, asgs_cons, back_rt, back_nx, st_F, te_W, bd_W, st_C0, st_C1, wipe_nil, wipe_cons, sets_nil, sets_cons, pures_nil, pures_cons, rng_n, seq_n, rng_get, seq_list, seq_tuple, seq_getT, seq_getL, seq_getS, rng_fin, start_eq, iL_len, iL_snoc, iL_nil, view0, cell0, set0, pool, L2.atI, L2.ixN, h1, h2, hp, hc, hc2, hb, h3, h4, hm, hm2, e1]
        first | exact ⟨_, _, by omega, (e1 _).1, (e1 _).2, rfl, rfl⟩ | exact ⟨_, _, by omega, (e1 _).1, (e1 _).2, _, rfl, rfl, rfl⟩ | exact ⟨_, _, _, by omega, (e1 _).1, (e1 _).2, rfl, rfl, rfl⟩ | trace_state
    · simp (decide := true) [d13, ev_var, ev_glob, ev_int, ev_bl, ev_non, ev_str, ev_bin, ev_neg, ev_not, ev_and, ev_or, ev_cmp, ev_chain, ev_ite, ev_ix, ev_slo, ev_shi, ev_rev, ev_tup, ev_lst, ev_b1, ev_b2, ev_isi, ev_call, evs_nil, evs_cons, evi_rng1, evi_rng2, evi_rng3, evi_seq, evi_zip, ex_asg, ex_thaw, ex_par, ex_aug, ex_seti, ex_augi, ex_if_, ex_ret, ex_app, ex_ext, ex_pop, ex_pass, exs_nil, exs_cons, ex_for_, ex_whl, ev_comp, binI_add, binI_sub, binI_mulL, binI_mulR, binI_div, binI_mod, bin_int, cmp_int, cmpI_eq, cmpI_ne, cmpI_lt, cmpI_le, cmpI_gt, cmpI_ge, view_d, viewS_d, viewS_scr, b1_len_list, b1_len_tuple, b1_int_int, b1_tuple_list, b1_list_list, b1_list_tuple, ix_list, ix_tuple, asg_name, asg_tupT, asg_tupL, asgs_nil, asgs_cons, back_rt, back_nx, st_F, te_W, bd_W, st_C0, st_C1, wipe_nil, wipe_cons, sets_nil, sets_cons, pures_nil, pures_cons, rng_n, seq_n, rng_get, seq_list, seq_tuple, seq_getT, seq_getL, seq_getS, rng_fin, start_eq, iL_len, iL_snoc, iL_nil, view0, cell0, set0, pool, L2.atI, L2.ixN, h1, h2, hp, hm, hm2, e1]
      first | exact ⟨_, _, by omega, (e1 _).1, (e1 _).2, rfl, rfl⟩ | exact ⟨_, _, by omega, (e1 _).1, (e1 _).2, _, rfl, rfl, rfl⟩ | exact ⟨_, _, _, by omega, (e1 _).1, (e1 _).2, rfl, rfl, rfl⟩ | trace_state
  · simp (decide := true) [d13, ev_var, ev_glob, ev_int, ev_bl, ev_non, ev_str, ev_bin, ev_neg, ev_not, ev_and, ev_or, ev_cmp, ev_chain, ev_ite, ev_ix, ev_slo, ev_shi, ev_rev, ev_tup, ev_lst, ev_b1, ev_b2, ev_isi, ev_call, evs_nil, evs_cons, evi_rng1, evi_rng2, evi_rng3, evi_seq, evi_zip, ex_asg, ex_thaw, ex_par, ex_aug, ex_seti, ex_augi, ex_if_, ex_ret, ex_app, ex_ext, ex_pop, ex_pass, exs_nil, exs_cons, ex_for_, ex_whl, ev_comp, binI_add, binI_sub, binI_mulL, binI_mulR, binI_div, binI_mod, bin_int, cmp_int, cmpI_eq, cmpI_ne, cmpI_lt, cmpI_le, cmpI_gt, cmpI_ge, view_d, viewS_d, viewS_scr, b1_len_list, b1_len_tuple, b1_int_int, b1_tuple_list, b1_list_list, b1_list_tuple, ix_list, ix_tuple, asg_name, asg_tupT, asg_tupL, asgs_nil, asgs_cons, back_rt, back_nx, st_F, te_W, bd_W, st_C0, st_C1, wipe_nil, wipe_cons, sets_nil, sets_cons, pures_nil, pures_cons, rng_n, seq_n, rng_get, seq_list, seq_tuple, seq_getT, seq_getL, seq_getS, rng_fin, start_eq, iL_len, iL_snoc, iL_nil, view0, cell0, set0, pool, L2.atI, L2.ixN, h1, hp, hm, hm2, e1]
    first | exact ⟨_, _, by omega, (e1 _).1, (e1 _).2, rfl, rfl⟩ | exact ⟨_, _, by omega, (e1 _).1, (e1 _).2, _, rfl, rfl, rfl⟩ | exact ⟨_, _, _, by omega, (e1 _).1, (e1 _).2, rfl, rfl, rfl⟩ | trace_state
theorem hDraw (k : Nat) : HDraw (C (k+2)) := fun P X many hP hm hm2 => by
  obtain ⟨cells, pos, cur, cnt, salt, hp, rfl⟩ := hP
  obtain ⟨v, pos', cur', cnt', h1, h2, h3, h4⟩ := draw_ok (hSpread k) cells pos cur cnt salt many X hp hm hm2
  refine ⟨v, pool cells pos' cur' cnt' salt, ⟨_, _, _, _, _, h1, rfl⟩, h2, h3, ?_⟩
  rw [c13]
  exact h4
def HPool (Cl : Call) : Prop := ∀ (ns : List Int) (S : Store), ns.length ≤ 63 → ∃ P, PoolAt P ∧ Cl 11 [.scr ns] S = some (.d (.list P), S)
theorem pool_ok {Cl : Call} (ns : List Int) (S : Store) (hl : ns.length ≤ 63) : ∃ P, PoolAt P ∧ backN S.length Cl (d11.fin.getD .non) (exSs Cl 1000000 d11.body (start d11.names.length [.scr ns]) S) = some (.d (.list P), S) := by
  obtain ⟨l, hcut⟩ : ∃ l, cut (ns.map PySem.PyData.int) none (some 63) = iL l := ⟨(ns.drop _).take _, by unfold cut iL; rw [← List.map_drop, ← List.map_take]⟩
  obtain ⟨ρ', s', h1, y, z, rfl, rfl⟩ := forN_inv (.seq (.d (lI l)) l.length) (stepF Cl 1000000 (.name 2) (.cons (.asg (.name 1) (.bin .mod (.b1 .int (.bin .add (.bin .mul (.var 1) (.int 31)) (.var 2))) (.int 1000003))) .nil)) (iL l) (by rw [iL_len]; rfl)
    (fun i ρ s => ∃ y z, ρ = [some (.scr ns), some (.d (.int y)), z] ∧ s = S) (ρ := [some (.scr ns), some (.d (.int 7)), none]) (s := S) ⟨7, none, rfl, rfl⟩ (fun _ _ _ _ _ => rfl) (fun _ _ _ => seq_fin rfl rfl (Nat.le_of_eq (iL_len l)))
    (by
      rintro i x ρ s hx ⟨y, z, rfl, rfl⟩
      obtain ⟨c, hc⟩ : ∃ c, x = .int c := by
        rw [iL_get] at hx
        cases h : l[i]? with
        | none => rw [h] at hx; cases hx
        | some c => rw [h] at hx; exact ⟨c, (Option.some.inj hx).symm⟩
      subst hc
      refine ⟨[some (.scr ns), some (.d (.int ((y * 31 + c) % 1000003))), some (.d (.int c))], s, ?_, _, _, rfl, rfl⟩
      simp (decide := true) [ev_var, ev_glob, ev_int, ev_bl, ev_non, ev_str, ev_bin, ev_neg, ev_not, ev_and, ev_or, ev_cmp, ev_chain, ev_ite, ev_ix, ev_slo, ev_shi, ev_rev, ev_tup, ev_lst, ev_b1, ev_b2, ev_isi, ev_call, evs_nil, evs_cons, evi_rng1, evi_rng2, evi_rng3, evi_seq, evi_zip, ex_asg, ex_thaw, ex_par, ex_aug, ex_seti, ex_augi, ex_if_, ex_ret, ex_app, ex_ext, ex_pop, ex_pass, exs_nil, exs_cons, ex_for_, ex_whl, ev_comp, binI_add, binI_sub, binI_mulL, binI_mulR, binI_div, binI_mod, bin_int, cmp_int, cmpI_eq, cmpI_ne, cmpI_lt, cmpI_le, cmpI_gt, cmpI_ge, view_d, viewS_d, viewS_scr, b1_len_list, b1_len_tuple, b1_int_int, b1_tuple_list, b1_list_list, b1_list_tuple, ix_list, ix_tuple, asg_name, asg_tupT, asg_tupL, asgs_nil, asgs_cons, back_rt, back_nx, st_F, te_W, bd_W, st_C0, st_C1, wipe_nil, wipe_cons, sets_nil, sets_cons, pures_nil, pures_cons, rng_n, seq_n, rng_get, seq_list, seq_tuple, seq_getT, seq_getL, seq_getS, rng_fin, start_eq, iL_len, iL_snoc, iL_nil])
  refine ⟨pool ns 0 0 0 y, ⟨_, _, _, _, _, Int.le_refl _, rfl⟩, ?_⟩
  have e1 : exSs Cl 1000000 d11.body (start d11.names.length [.scr ns]) s' = some (.nx [some (.scr ns), some (.d (.int y)), z] s') := by
    refine (nx_of (asg_of (r := .d (.int 7)) (s1 := s') (ρ' := [some (.scr ns), some (.d (.int 7)), none]) ?_ rfl)).trans ((nx_of (for_of (J := .seq (.d (lI l)) l.length) (s1 := s') ?_ h1)).trans (exs_nil _ _ _ _))
    · simp [ev_var, ev_glob, ev_int, ev_bl, ev_non, ev_str, ev_bin, ev_neg, ev_not, ev_and, ev_or, ev_cmp, ev_chain, ev_ite, ev_ix, ev_slo, ev_shi, ev_rev, ev_tup, ev_lst, ev_b1, ev_b2, ev_isi, ev_call, evs_nil, evs_cons, evi_rng1, evi_rng2, evi_rng3, evi_seq, evi_zip, ex_asg, ex_thaw, ex_par, ex_aug, ex_seti, ex_augi, ex_if_, ex_ret, ex_app, ex_ext, ex_pop, ex_pass, exs_nil, exs_cons, ex_for_, ex_whl, ev_comp, binI_add, binI_sub, binI_mulL, binI_mulR, binI_div, binI_mod, bin_int, cmp_int, cmpI_eq, cmpI_ne, cmpI_lt, cmpI_le, cmpI_gt, cmpI_ge, view_d, viewS_d, viewS_scr, b1_len_list, b1_len_tuple, b1_int_int, b1_tuple_list, b1_list_list, b1_list_tuple, ix_list, ix_tuple, asg_name, asg_tupT, asg_tupL, asgs_nil, asgs_cons, back_rt, back_nx, st_F, te_W, bd_W, st_C0, st_C1, wipe_nil, wipe_cons, sets_nil, sets_cons, pures_nil, pures_cons, rng_n, seq_n, rng_get, seq_list, seq_tuple, seq_getT, seq_getL, seq_getS, rng_fin, start_eq, iL_len, iL_snoc, iL_nil]
    · simp [ev_var, ev_glob, ev_int, ev_bl, ev_non, ev_str, ev_bin, ev_neg, ev_not, ev_and, ev_or, ev_cmp, ev_chain, ev_ite, ev_ix, ev_slo, ev_shi, ev_rev, ev_tup, ev_lst, ev_b1, ev_b2, ev_isi, ev_call, evs_nil, evs_cons, evi_rng1, evi_rng2, evi_rng3, evi_seq, evi_zip, ex_asg, ex_thaw, ex_par, ex_aug, ex_seti, ex_augi, ex_if_, ex_ret, ex_app, ex_ext, ex_pop, ex_pass, exs_nil, exs_cons, ex_for_, ex_whl, ev_comp, binI_add, binI_sub, binI_mulL, binI_mulR, binI_div, binI_mod, bin_int, cmp_int, cmpI_eq, cmpI_ne, cmpI_lt, cmpI_le, cmpI_gt, cmpI_ge, view_d, viewS_d, viewS_scr, b1_len_list, b1_len_tuple, b1_int_int, b1_tuple_list, b1_list_list, b1_list_tuple, ix_list, ix_tuple, asg_name, asg_tupT, asg_tupL, asgs_nil, asgs_cons, back_rt, back_nx, st_F, te_W, bd_W, st_C0, st_C1, wipe_nil, wipe_cons, sets_nil, sets_cons, pures_nil, pures_cons, rng_n, seq_n, rng_get, seq_list, seq_tuple, seq_getT, seq_getL, seq_getS, rng_fin, start_eq, iL_len, iL_snoc, iL_nil, slD, hcut]
  have h5 : szOk 5 = true := rfl
  rw [e1]
  simp [backN, d11, ev_var, ev_glob, ev_int, ev_bl, ev_non, ev_str, ev_bin, ev_neg, ev_not, ev_and, ev_or, ev_cmp, ev_chain, ev_ite, ev_ix, ev_slo, ev_shi, ev_rev, ev_tup, ev_lst, ev_b1, ev_b2, ev_isi, ev_call, evs_nil, evs_cons, evi_rng1, evi_rng2, evi_rng3, evi_seq, evi_zip, ex_asg, ex_thaw, ex_par, ex_aug, ex_seti, ex_augi, ex_if_, ex_ret, ex_app, ex_ext, ex_pop, ex_pass, exs_nil, exs_cons, ex_for_, ex_whl, ev_comp, binI_add, binI_sub, binI_mulL, binI_mulR, binI_div, binI_mod, bin_int, cmp_int, cmpI_eq, cmpI_ne, cmpI_lt, cmpI_le, cmpI_gt, cmpI_ge, view_d, viewS_d, viewS_scr, b1_len_list, b1_len_tuple, b1_int_int, b1_tuple_list, b1_list_list, b1_list_tuple, ix_list, ix_tuple, asg_name, asg_tupT, asg_tupL, asgs_nil, asgs_cons, back_rt, back_nx, st_F, te_W, bd_W, st_C0, st_C1, wipe_nil, wipe_cons, sets_nil, sets_cons, pures_nil, pures_cons, rng_n, seq_n, rng_get, seq_list, seq_tuple, seq_getT, seq_getL, seq_getS, rng_fin, start_eq, iL_len, iL_snoc, iL_nil, h5, pool]
theorem hPool (k : Nat) : HPool (C (k+1)) := fun ns S hl => by
  obtain ⟨P, h1, h2⟩ := pool_ok (Cl := C k) ns S hl
  refine ⟨P, h1, ?_⟩
  rw [c11]
  exact h2
/-! ### the prime -/
def HPrime (Cl : Call) : Prop := ∀ (P : List D) (X : Store), PoolAt P → ∃ p P', PoolAt P' ∧ p ∈ primes ∧ Cl 15 [.loc 0, .d (.int 61)] (.lst P :: X) = some (.d (.int p), .lst P' :: X)
theorem pick_ok {Cl : Call} (hD : HDraw Cl) (P : List D) (X : Store) (l : List Int) (hP : PoolAt P) (hl : l ≠ []) (hl2 : l.length < 1000) : ∃ x P', PoolAt P' ∧ x ∈ l ∧
    back (.lst P :: X : Store).length (exSs Cl 1000000 d14.body (start d14.names.length [.loc 0, .d (lI l)]) (.lst P :: X)) = some (.d (.int x), .lst P' :: X) := by
  have hl0 : 0 < l.length := List.length_pos_iff.mpr hl
  obtain ⟨v, P', h1, h2, h3, h4⟩ := hD P X l.length hP (by omega) (by omega)
  have hv : v.toNat < l.length := by omega
  refine ⟨l[v.toNat], P', h1, List.getElem_mem hv, ?_⟩
  have e1 := (call2 (C := Cl) (f := 13) (a := .var 0) (b := .b1 .len (.var 1)) (ρ := [some (.loc 0), some (.d (lI l))]) (s := .lst P :: X) (s1 := .lst P :: X) (s2 := .lst P :: X) (va := .loc 0) (vb := .d (.int l.length)) (by simp [ev_var]) (by simp [ev_var, ev_glob, ev_int, ev_bl, ev_non, ev_str, ev_bin, ev_neg, ev_not, ev_and, ev_or, ev_cmp, ev_chain, ev_ite, ev_ix, ev_slo, ev_shi, ev_rev, ev_tup, ev_lst, ev_b1, ev_b2, ev_isi, ev_call, evs_nil, evs_cons, evi_rng1, evi_rng2, evi_rng3, evi_seq, evi_zip, ex_asg, ex_thaw, ex_par, ex_aug, ex_seti, ex_augi, ex_if_, ex_ret, ex_app, ex_ext, ex_pop, ex_pass, exs_nil, exs_cons, ex_for_, ex_whl, ev_comp, binI_add, binI_sub, binI_mulL, binI_mulR, binI_div, binI_mod, bin_int, cmp_int, cmpI_eq, cmpI_ne, cmpI_lt, cmpI_le, cmpI_gt, cmpI_ge, view_d, viewS_d, viewS_scr, b1_len_list, b1_len_tuple, b1_int_int, b1_tuple_list, b1_list_list, b1_list_tuple, ix_list, ix_tuple, asg_name, asg_tupT, asg_tupL, asgs_nil, asgs_cons, back_rt, back_nx, st_F, te_W, bd_W, st_C0, st_C1, wipe_nil, wipe_cons, sets_nil, sets_cons, pures_nil, pures_cons, rng_n, seq_n, rng_get, seq_list, seq_tuple, seq_getT, seq_getL, seq_getS, rng_fin, start_eq, iL_len, iL_snoc, iL_nil])).trans h4
  have e2 : L2.atI (iL l) v = some (.int l[v.toNat]) := by
    have e : v = (v.toNat : Nat) := by omega
    have := atI_nat (xs := iL l) (i := v.toNat) (x := .int l[v.toNat]) (by rw [iL_get, List.getElem?_eq_getElem hv]; rfl)
    rwa [← e] at this
  refine (back_of (rt_of (ret_of (ix_of (a := .var 1) (ra := .d (lI l)) (s1 := .lst P :: X) (s2 := .lst P' :: X) (by simp [ev_var]) e1 rfl rfl e2)))).trans ?_
  simp
def HPick (Cl : Call) : Prop := ∀ (P : List D) (X : Store) (l : List Int), PoolAt P → l ≠ [] → l.length < 1000 → ∃ x P', PoolAt P' ∧ x ∈ l ∧ Cl 14 [.loc 0, .d (lI l)] (.lst P :: X) = some (.d (.int x), .lst P' :: X)
theorem hPick (k : Nat) : HPick (C (k+3)) := fun P X l hP hl hl2 => by
  obtain ⟨x, P', h1, h2, h3⟩ := pick_ok (hDraw k) P X l hP hl hl2
  refine ⟨x, P', h1, h2, ?_⟩
  rw [c14]
  exact h3
theorem prime_ok {Cl : Call} (hK : HPick Cl) (P : List D) (X : Store) (hP : PoolAt P) : ∃ p P', PoolAt P' ∧ p ∈ primes ∧
    back (.lst P :: X : Store).length (exSs Cl 1000000 d15.body (start d15.names.length [.loc 0, .d (.int 61)]) (.lst P :: X)) = some (.d (.int p), .lst P' :: X) := by
  obtain ⟨p, P', h1, h2, h3⟩ := hK P X primes hP (by decide) (by decide)
  refine ⟨p, P', h1, h2, ?_⟩
  have h16 : szOk 16 = true := rfl
  have e0 : primes.filterMap (fun x => if x ≤ 61 then some (PySem.PyData.int x) else none) = iL primes := by simp (decide := true) [primes, iL]
  have e1 := ev_compF (C := Cl) (g := .name 2) (vs := [2]) (it := (.seq (.tup (.cons (.int 5) (.cons (.int 7) (.cons (.int 11) (.cons (.int 13) (.cons (.int 17) (.cons (.int 19) (.cons (.int 23) (.cons (.int 29) (.cons (.int 31) (.cons (.int 37) (.cons (.int 41) (.cons (.int 43) (.cons (.int 47) (.cons (.int 53) (.cons (.int 59) (.cons (.int 61) .nil))))))))))))))))))) (hc := true) (c := .cmp .le (.var 2) (.var 1)) (e := .var 2) (ρ := [some (.loc 0), some (.d (.int 61)), none]) (s := .lst P :: X) (s1 := .lst P :: X) (J := .seq (.d (tI primes)) 16) primes (fun x => if x ≤ 61 then some (PySem.PyData.int x) else none) (by simp [ev_var, ev_glob, ev_int, ev_bl, ev_non, ev_str, ev_bin, ev_neg, ev_not, ev_and, ev_or, ev_cmp, ev_chain, ev_ite, ev_ix, ev_slo, ev_shi, ev_rev, ev_tup, ev_lst, ev_b1, ev_b2, ev_isi, ev_call, evs_nil, evs_cons, evi_rng1, evi_rng2, evi_rng3, evi_seq, evi_zip, ex_asg, ex_thaw, ex_par, ex_aug, ex_seti, ex_augi, ex_if_, ex_ret, ex_app, ex_ext, ex_pop, ex_pass, exs_nil, exs_cons, ex_for_, ex_whl, ev_comp, binI_add, binI_sub, binI_mulL, binI_mulR, binI_div, binI_mod, bin_int, cmp_int, cmpI_eq, cmpI_ne, cmpI_lt, cmpI_le, cmpI_gt, cmpI_ge, view_d, viewS_d, viewS_scr, b1_len_list, b1_len_tuple, b1_int_int, b1_tuple_list, b1_list_list, b1_list_tuple, ix_list, ix_tuple, asg_name, asg_tupT, asg_tupL, asgs_nil, asgs_cons, back_rt, back_nx, st_F, te_W, bd_W, st_C0, st_C1, wipe_nil, wipe_cons, sets_nil, sets_cons, pures_nil, pures_cons, rng_n, seq_n, rng_get, seq_list, seq_tuple, seq_getT, seq_getL, seq_getS, rng_fin, start_eq, iL_len, iL_snoc, iL_nil, h16]; rfl) rfl (by decide) (fun i acc hi => rfl) (fun acc => rfl) (fun x hx acc => by
    by_cases h : x ≤ 61
    · simp [ev_var, ev_glob, ev_int, ev_bl, ev_non, ev_str, ev_bin, ev_neg, ev_not, ev_and, ev_or, ev_cmp, ev_chain, ev_ite, ev_ix, ev_slo, ev_shi, ev_rev, ev_tup, ev_lst, ev_b1, ev_b2, ev_isi, ev_call, evs_nil, evs_cons, evi_rng1, evi_rng2, evi_rng3, evi_seq, evi_zip, ex_asg, ex_thaw, ex_par, ex_aug, ex_seti, ex_augi, ex_if_, ex_ret, ex_app, ex_ext, ex_pop, ex_pass, exs_nil, exs_cons, ex_for_, ex_whl, ev_comp, binI_add, binI_sub, binI_mulL, binI_mulR, binI_div, binI_mod, bin_int, cmp_int, cmpI_eq, cmpI_ne, cmpI_lt, cmpI_le, cmpI_gt, cmpI_ge, view_d, viewS_d, viewS_scr, b1_len_list, b1_len_tuple, b1_int_int, b1_tuple_list, b1_list_list, b1_list_tuple, ix_list, ix_tuple, asg_name, asg_tupT, asg_tupL, asgs_nil, asgs_cons, back_rt, back_nx, st_F, te_W, bd_W, st_C0, st_C1, wipe_nil, wipe_cons, sets_nil, sets_cons, pures_nil, pures_cons, rng_n, seq_n, rng_get, seq_list, seq_tuple, seq_getT, seq_getL, seq_getS, rng_fin, start_eq, iL_len, iL_snoc, iL_nil, h]
    · simp [ev_var, ev_glob, ev_int, ev_bl, ev_non, ev_str, ev_bin, ev_neg, ev_not, ev_and, ev_or, ev_cmp, ev_chain, ev_ite, ev_ix, ev_slo, ev_shi, ev_rev, ev_tup, ev_lst, ev_b1, ev_b2, ev_isi, ev_call, evs_nil, evs_cons, evi_rng1, evi_rng2, evi_rng3, evi_seq, evi_zip, ex_asg, ex_thaw, ex_par, ex_aug, ex_seti, ex_augi, ex_if_, ex_ret, ex_app, ex_ext, ex_pop, ex_pass, exs_nil, exs_cons, ex_for_, ex_whl, ev_comp, binI_add, binI_sub, binI_mulL, binI_mulR, binI_div, binI_mod, bin_int, cmp_int, cmpI_eq, cmpI_ne, cmpI_lt, cmpI_le, cmpI_gt, cmpI_ge, view_d, viewS_d, viewS_scr, b1_len_list, b1_len_tuple, b1_int_int, b1_tuple_list, b1_list_list, b1_list_tuple, ix_list, ix_tuple, asg_name, asg_tupT, asg_tupL, asgs_nil, asgs_cons, back_rt, back_nx, st_F, te_W, bd_W, st_C0, st_C1, wipe_nil, wipe_cons, sets_nil, sets_cons, pures_nil, pures_cons, rng_n, seq_n, rng_get, seq_list, seq_tuple, seq_getT, seq_getL, seq_getS, rng_fin, start_eq, iL_len, iL_snoc, iL_nil, h])
  rw [e0] at e1
  have e2 := (call2 (C := Cl) (f := 14) (a := .var 0) (ρ := [some (.loc 0), some (.d (.int 61)), none]) (s := .lst P :: X) (s1 := .lst P :: X) (va := .loc 0) (by simp [ev_var]) e1).trans h3
  refine (back_of (rt_of (ret_of e2))).trans ?_
  simp
theorem hPrime (k : Nat) : HPrime (C (k+4)) := fun P X hP => by
  obtain ⟨p, P', h1, h2, h3⟩ := prime_ok (hPick k) P X hP
  refine ⟨p, P', h1, h2, ?_⟩
  rw [c15]
  exact h3
end LAW
end
section
namespace LAW
open PC PC.PM
/-! ### the same -/
def Shp : Nat → D → Prop
  | 0, d => ∃ i, d = .int i
  | n + 1, d => (∃ i, d = .int i) ∨ ∃ xs, (d = .tuple xs ∨ d = .list xs) ∧ xs.length < 1000 ∧ ∀ x ∈ xs, Shp n x
def HSame (Cl : Call) (n : Nat) : Prop := ∀ (d : D) (S : Store), Shp n d → Cl 10 [.d d, .d d] S = some (.d (.bool true), S)
theorem ne_bool (b : Bool) : cmpD .ne (.bool b) (.bool b) = some false := by cases b <;> rfl
theorem isn_int (i : Int) : cmpD .isn (.int i) .none = some false := rfl
theorem same_int {Cl : Call} (i : Int) (S : Store) : back S.length (exSs Cl 1000000 d10.body (start d10.names.length [.d (.int i), .d (.int i)]) S) = some (.d (.bool true), S) := by
  simp [d10, ev_var, ev_glob, ev_int, ev_bl, ev_non, ev_str, ev_bin, ev_neg, ev_not, ev_and, ev_or, ev_cmp, ev_chain, ev_ite, ev_ix, ev_slo, ev_shi, ev_rev, ev_tup, ev_lst, ev_b1, ev_b2, ev_isi, ev_call, evs_nil, evs_cons, evi_rng1, evi_rng2, evi_rng3, evi_seq, evi_zip, ex_asg, ex_thaw, ex_par, ex_aug, ex_seti, ex_augi, ex_if_, ex_ret, ex_app, ex_ext, ex_pop, ex_pass, exs_nil, exs_cons, ex_for_, ex_whl, ev_comp, binI_add, binI_sub, binI_mulL, binI_mulR, binI_div, binI_mod, bin_int, cmp_int, cmpI_eq, cmpI_ne, cmpI_lt, cmpI_le, cmpI_gt, cmpI_ge, view_d, viewS_d, viewS_scr, b1_len_list, b1_len_tuple, b1_int_int, b1_tuple_list, b1_list_list, b1_list_tuple, ix_list, ix_tuple, asg_name, asg_tupT, asg_tupL, asgs_nil, asgs_cons, back_rt, back_nx, st_F, te_W, bd_W, st_C0, st_C1, wipe_nil, wipe_cons, sets_nil, sets_cons, pures_nil, pures_cons, rng_n, seq_n, rng_get, seq_list, seq_tuple, seq_getT, seq_getL, seq_getS, rng_fin, start_eq, iL_len, iL_snoc, iL_nil, isD, isn_int]
theorem same_comp {Cl : Call} {n : Nat} (h : HSame Cl n) (d : D) (xs : List D) (hd : d = .tuple xs ∨ d = .list xs) (hz : xs.length < 1000) (hx : ∀ x ∈ xs, Shp n x) (S : Store) :
    evE Cl (.comp (.name 2) [2] (.rng1 (.b1 .len (.var 1))) true (.not (.call 10 (.cons (.ix (.var 0) (.var 2)) (.cons (.ix (.var 1) (.var 2)) .nil)))) (.var 2)) [some (.d d), some (.d d), none] S = some (.d (.list []), S) := by
  have hL := rngOk_nat (n := xs.length) (by omega)
  have e1 := ev_compF (C := Cl) (g := .name 2) (vs := [2]) (it := .rng1 (.b1 .len (.var 1))) (hc := true) (c := .not (.call 10 (.cons (.ix (.var 0) (.var 2)) (.cons (.ix (.var 1) (.var 2)) .nil)))) (e := .var 2) (ρ := [some (.d d), some (.d d), none]) (s := S) (s1 := S) (J := .rng 0 1 xs.length) (rg xs.length) (fun _ => none) (by
      rcases hd with rfl | rfl
      · simp [ev_var, ev_glob, ev_int, ev_bl, ev_non, ev_str, ev_bin, ev_neg, ev_not, ev_and, ev_or, ev_cmp, ev_chain, ev_ite, ev_ix, ev_slo, ev_shi, ev_rev, ev_tup, ev_lst, ev_b1, ev_b2, ev_isi, ev_call, evs_nil, evs_cons, evi_rng1, evi_rng2, evi_rng3, evi_seq, evi_zip, ex_asg, ex_thaw, ex_par, ex_aug, ex_seti, ex_augi, ex_if_, ex_ret, ex_app, ex_ext, ex_pop, ex_pass, exs_nil, exs_cons, ex_for_, ex_whl, ev_comp, binI_add, binI_sub, binI_mulL, binI_mulR, binI_div, binI_mod, bin_int, cmp_int, cmpI_eq, cmpI_ne, cmpI_lt, cmpI_le, cmpI_gt, cmpI_ge, view_d, viewS_d, viewS_scr, b1_len_list, b1_len_tuple, b1_int_int, b1_tuple_list, b1_list_list, b1_list_tuple, ix_list, ix_tuple, asg_name, asg_tupT, asg_tupL, asgs_nil, asgs_cons, back_rt, back_nx, st_F, te_W, bd_W, st_C0, st_C1, wipe_nil, wipe_cons, sets_nil, sets_cons, pures_nil, pures_cons, rng_n, seq_n, rng_get, seq_list, seq_tuple, seq_getT, seq_getL, seq_getS, rng_fin, start_eq, iL_len, iL_snoc, iL_nil, hL]
      · simp [ev_var, ev_glob, ev_int, ev_bl, ev_non, ev_str, ev_bin, ev_neg, ev_not, ev_and, ev_or, ev_cmp, ev_chain, ev_ite, ev_ix, ev_slo, ev_shi, ev_rev, ev_tup, ev_lst, ev_b1, ev_b2, ev_isi, ev_call, evs_nil, evs_cons, evi_rng1, evi_rng2, evi_rng3, evi_seq, evi_zip, ex_asg, ex_thaw, ex_par, ex_aug, ex_seti, ex_augi, ex_if_, ex_ret, ex_app, ex_ext, ex_pop, ex_pass, exs_nil, exs_cons, ex_for_, ex_whl, ev_comp, binI_add, binI_sub, binI_mulL, binI_mulR, binI_div, binI_mod, bin_int, cmp_int, cmpI_eq, cmpI_ne, cmpI_lt, cmpI_le, cmpI_gt, cmpI_ge, view_d, viewS_d, viewS_scr, b1_len_list, b1_len_tuple, b1_int_int, b1_tuple_list, b1_list_list, b1_list_tuple, ix_list, ix_tuple, asg_name, asg_tupT, asg_tupL, asgs_nil, asgs_cons, back_rt, back_nx, st_F, te_W, bd_W, st_C0, st_C1, wipe_nil, wipe_cons, sets_nil, sets_cons, pures_nil, pures_cons, rng_n, seq_n, rng_get, seq_list, seq_tuple, seq_getT, seq_getL, seq_getS, rng_fin, start_eq, iL_len, iL_snoc, iL_nil, hL]) (rg_len _).symm (by rw [rg_len]; omega) (fun i acc hi => rg_get _ _ _ (by rwa [rg_len] at hi)) (fun acc => rfl) (fun y hy acc => by
      obtain ⟨i, hi, rfl⟩ := rg_mem hy
      have e2 : L2.atI xs (i : Int) = some xs[i] := atI_nat (List.getElem?_eq_getElem hi)
      have e3 := h xs[i] (S ++ [.lst acc]) (hx _ (List.getElem_mem hi))
      have e4 : ixD d (.int (i : Int)) = some xs[i] := by rcases hd with rfl | rfl <;> exact e2
      have e5 := (call2 (C := Cl) (f := 10) (a := .ix (.var 0) (.var 2)) (b := .ix (.var 1) (.var 2)) (ρ := [some (.d d), some (.d d), some (.d (.int (i : Int)))]) (s := S ++ [.lst acc]) (s1 := S ++ [.lst acc]) (s2 := S ++ [.lst acc]) (va := .d xs[i]) (vb := .d xs[i]) (by simp [ev_var, ev_glob, ev_int, ev_bl, ev_non, ev_str, ev_bin, ev_neg, ev_not, ev_and, ev_or, ev_cmp, ev_chain, ev_ite, ev_ix, ev_slo, ev_shi, ev_rev, ev_tup, ev_lst, ev_b1, ev_b2, ev_isi, ev_call, evs_nil, evs_cons, evi_rng1, evi_rng2, evi_rng3, evi_seq, evi_zip, ex_asg, ex_thaw, ex_par, ex_aug, ex_seti, ex_augi, ex_if_, ex_ret, ex_app, ex_ext, ex_pop, ex_pass, exs_nil, exs_cons, ex_for_, ex_whl, ev_comp, binI_add, binI_sub, binI_mulL, binI_mulR, binI_div, binI_mod, bin_int, cmp_int, cmpI_eq, cmpI_ne, cmpI_lt, cmpI_le, cmpI_gt, cmpI_ge, view_d, viewS_d, viewS_scr, b1_len_list, b1_len_tuple, b1_int_int, b1_tuple_list, b1_list_list, b1_list_tuple, ix_list, ix_tuple, asg_name, asg_tupT, asg_tupL, asgs_nil, asgs_cons, back_rt, back_nx, st_F, te_W, bd_W, st_C0, st_C1, wipe_nil, wipe_cons, sets_nil, sets_cons, pures_nil, pures_cons, rng_n, seq_n, rng_get, seq_list, seq_tuple, seq_getT, seq_getL, seq_getS, rng_fin, start_eq, iL_len, iL_snoc, iL_nil, e4]) (by simp [ev_var, ev_glob, ev_int, ev_bl, ev_non, ev_str, ev_bin, ev_neg, ev_not, ev_and, ev_or, ev_cmp, ev_chain, ev_ite, ev_ix, ev_slo, ev_shi, ev_rev, ev_tup, ev_lst, ev_b1, ev_b2, ev_isi, ev_call, evs_nil, evs_cons, evi_rng1, evi_rng2, evi_rng3, evi_seq, evi_zip, ex_asg, ex_thaw, ex_par, ex_aug, ex_seti, ex_augi, ex_if_, ex_ret, ex_app, ex_ext, ex_pop, ex_pass, exs_nil, exs_cons, ex_for_, ex_whl, ev_comp, binI_add, binI_sub, binI_mulL, binI_mulR, binI_div, binI_mod, bin_int, cmp_int, cmpI_eq, cmpI_ne, cmpI_lt, cmpI_le, cmpI_gt, cmpI_ge, view_d, viewS_d, viewS_scr, b1_len_list, b1_len_tuple, b1_int_int, b1_tuple_list, b1_list_list, b1_list_tuple, ix_list, ix_tuple, asg_name, asg_tupT, asg_tupL, asgs_nil, asgs_cons, back_rt, back_nx, st_F, te_W, bd_W, st_C0, st_C1, wipe_nil, wipe_cons, sets_nil, sets_cons, pures_nil, pures_cons, rng_n, seq_n, rng_get, seq_list, seq_tuple, seq_getT, seq_getL, seq_getS, rng_fin, start_eq, iL_len, iL_snoc, iL_nil, e4])).trans e3
      have e6 : evE Cl (.not (.call 10 (.cons (.ix (.var 0) (.var 2)) (.cons (.ix (.var 1) (.var 2)) .nil)))) [some (.d d), some (.d d), some (.d (.int (i : Int)))] (S ++ [.lst acc]) = some (.d (.bool false), S ++ [.lst acc]) := by
        rw [ev_not, e5]
        rfl
      rw [st_C1, asg_name]
      simp only [wipe_cons, wipe_nil, List.set]
      rw [e6])
  rw [e1]
  simp
theorem same_seq {Cl : Call} {n : Nat} (h : HSame Cl n) (d : D) (xs : List D) (hd : d = .tuple xs ∨ d = .list xs) (hz : xs.length < 1000) (hx : ∀ x ∈ xs, Shp n x) (S : Store) :
    back S.length (exSs Cl 1000000 d10.body (start d10.names.length [.d d, .d d]) S) = some (.d (.bool true), S) := by
  have e1 := same_comp h d xs hd hz hx S
  have e2 : evE Cl (.cmp .eq (.b1 .len (.comp (.name 2) [2] (.rng1 (.b1 .len (.var 1))) true (.not (.call 10 (.cons (.ix (.var 0) (.var 2)) (.cons (.ix (.var 1) (.var 2)) .nil)))) (.var 2))) (.int 0)) [some (.d d), some (.d d), none] S = some (.d (.bool true), S) :=
    cmp_of (s1 := S) (ra := .d (.int 0)) (rb := .d (.int 0)) (b1_of e1 rfl rfl) (by simp [ev_var, ev_glob, ev_int, ev_bl, ev_non, ev_str, ev_bin, ev_neg, ev_not, ev_and, ev_or, ev_cmp, ev_chain, ev_ite, ev_ix, ev_slo, ev_shi, ev_rev, ev_tup, ev_lst, ev_b1, ev_b2, ev_isi, ev_call, evs_nil, evs_cons, evi_rng1, evi_rng2, evi_rng3, evi_seq, evi_zip, ex_asg, ex_thaw, ex_par, ex_aug, ex_seti, ex_augi, ex_if_, ex_ret, ex_app, ex_ext, ex_pop, ex_pass, exs_nil, exs_cons, ex_for_, ex_whl, ev_comp, binI_add, binI_sub, binI_mulL, binI_mulR, binI_div, binI_mod, bin_int, cmp_int, cmpI_eq, cmpI_ne, cmpI_lt, cmpI_le, cmpI_gt, cmpI_ge, view_d, viewS_d, viewS_scr, b1_len_list, b1_len_tuple, b1_int_int, b1_tuple_list, b1_list_list, b1_list_tuple, ix_list, ix_tuple, asg_name, asg_tupT, asg_tupL, asgs_nil, asgs_cons, back_rt, back_nx, st_F, te_W, bd_W, st_C0, st_C1, wipe_nil, wipe_cons, sets_nil, sets_cons, pures_nil, pures_cons, rng_n, seq_n, rng_get, seq_list, seq_tuple, seq_getT, seq_getL, seq_getS, rng_fin, start_eq, iL_len, iL_snoc, iL_nil]) rfl rfl rfl
  have e3 : evE Cl (.or (.isi (.var 1) .tuple) (.isi (.var 1) .list)) [some (.d d), some (.d d), none] S = some (.d (.bool true), S) := by
    rcases hd with rfl | rfl <;> simp [ev_var, ev_glob, ev_int, ev_bl, ev_non, ev_str, ev_bin, ev_neg, ev_not, ev_and, ev_or, ev_cmp, ev_chain, ev_ite, ev_ix, ev_slo, ev_shi, ev_rev, ev_tup, ev_lst, ev_b1, ev_b2, ev_isi, ev_call, evs_nil, evs_cons, evi_rng1, evi_rng2, evi_rng3, evi_seq, evi_zip, ex_asg, ex_thaw, ex_par, ex_aug, ex_seti, ex_augi, ex_if_, ex_ret, ex_app, ex_ext, ex_pop, ex_pass, exs_nil, exs_cons, ex_for_, ex_whl, ev_comp, binI_add, binI_sub, binI_mulL, binI_mulR, binI_div, binI_mod, bin_int, cmp_int, cmpI_eq, cmpI_ne, cmpI_lt, cmpI_le, cmpI_gt, cmpI_ge, view_d, viewS_d, viewS_scr, b1_len_list, b1_len_tuple, b1_int_int, b1_tuple_list, b1_list_list, b1_list_tuple, ix_list, ix_tuple, asg_name, asg_tupT, asg_tupL, asgs_nil, asgs_cons, back_rt, back_nx, st_F, te_W, bd_W, st_C0, st_C1, wipe_nil, wipe_cons, sets_nil, sets_cons, pures_nil, pures_cons, rng_n, seq_n, rng_get, seq_list, seq_tuple, seq_getT, seq_getL, seq_getS, rng_fin, start_eq, iL_len, iL_snoc, iL_nil, isD]
  have e4 : evE Cl (.or (.cmp .ne (.isi (.var 1) .tuple) (.isi (.var 0) .tuple)) (.or (.cmp .ne (.isi (.var 1) .list) (.isi (.var 0) .list)) (.cmp .ne (.b1 .len (.var 0)) (.b1 .len (.var 1))))) [some (.d d), some (.d d), none] S = some (.d (.bool false), S) := by
    rcases hd with rfl | rfl <;> simp [ev_var, ev_glob, ev_int, ev_bl, ev_non, ev_str, ev_bin, ev_neg, ev_not, ev_and, ev_or, ev_cmp, ev_chain, ev_ite, ev_ix, ev_slo, ev_shi, ev_rev, ev_tup, ev_lst, ev_b1, ev_b2, ev_isi, ev_call, evs_nil, evs_cons, evi_rng1, evi_rng2, evi_rng3, evi_seq, evi_zip, ex_asg, ex_thaw, ex_par, ex_aug, ex_seti, ex_augi, ex_if_, ex_ret, ex_app, ex_ext, ex_pop, ex_pass, exs_nil, exs_cons, ex_for_, ex_whl, ev_comp, binI_add, binI_sub, binI_mulL, binI_mulR, binI_div, binI_mod, bin_int, cmp_int, cmpI_eq, cmpI_ne, cmpI_lt, cmpI_le, cmpI_gt, cmpI_ge, view_d, viewS_d, viewS_scr, b1_len_list, b1_len_tuple, b1_int_int, b1_tuple_list, b1_list_list, b1_list_tuple, ix_list, ix_tuple, asg_name, asg_tupT, asg_tupL, asgs_nil, asgs_cons, back_rt, back_nx, st_F, te_W, bd_W, st_C0, st_C1, wipe_nil, wipe_cons, sets_nil, sets_cons, pures_nil, pures_cons, rng_n, seq_n, rng_get, seq_list, seq_tuple, seq_getT, seq_getL, seq_getS, rng_fin, start_eq, iL_len, iL_snoc, iL_nil, isD, ne_bool]
  refine (back_of (rt_of ((if_t e3).trans ((nx_of ((if_f e4).trans (exs_nil _ _ _ _))).trans (rt_of (ret_of e2)))))).trans ?_
  simp
theorem hSame0 (k : Nat) : HSame (C (k+1)) 0 := fun d S ⟨i, hi⟩ => by
  subst hi
  rw [c10]
  exact same_int (Cl := C k) i S
theorem hSameS (k n : Nat) (h : HSame (C (k+1)) n) : HSame (C (k+2)) (n+1) := fun d S hd => by
  rw [c10]
  rcases hd with ⟨i, rfl⟩ | ⟨xs, hd, hz, hx⟩
  · exact same_int (Cl := C (k+1)) i S
  · exact same_seq h d xs hd hz hx S
theorem shp_int (i : Int) : Shp 0 (.int i) := ⟨i, rfl⟩
theorem shp_tI (l : List Int) (h : l.length < 1000) : Shp 1 (tI l) := .inr ⟨iL l, .inl rfl, by rw [iL_len]; exact h, fun x hx => by
  obtain ⟨i, _, rfl⟩ := List.mem_map.mp (show x ∈ l.map PySem.PyData.int from hx)
  exact ⟨i, rfl⟩⟩
end LAW
end
section
namespace LAW
open PC PC.PM
/-! ### equality of lists of numbers -/
theorem lay_iL : ∀ l : List Int, PySem.PyData.canLayAll0 (iL l) = true
  | [] => by simp [iL, PySem.PyData.canLayAll0]
  | a :: l => by rw [iL_cons, PySem.PyData.canLayAll0, PySem.PyData.canLay0, lay_iL l]; rfl
theorem dep_iL : ∀ l : List Int, PySem.PyData.depthAll (iL l) = 0
  | [] => by simp [iL, PySem.PyData.depthAll]
  | a :: l => by rw [iL_cons, PySem.PyData.depthAll, PySem.PyData.depth, dep_iL l]; rfl
theorem eqv_iL : ∀ l m : List Int, PySem.PyData.eqvAll (iL l) (iL m) = decide (l = m)
  | [], [] => by simp [iL, PySem.PyData.eqvAll]
  | [], b :: m => by simp [iL, PySem.PyData.eqvAll]
  | a :: l, [] => by simp [iL, PySem.PyData.eqvAll]
  | a :: l, b :: m => by
    rw [iL_cons, iL_cons, PySem.PyData.eqvAll, PySem.PyData.eqv, eqv_iL l m]
    by_cases h : a = b <;> by_cases h2 : l = m <;> simp [h, h2]
theorem shaped_tI (l : List Int) : PySem.SeqAt.shaped (tI l) = true := by
  simp [PySem.SeqAt.shaped, PySem.PyData.canLay0, PySem.PyData.depth, lay_iL, dep_iL]
theorem shaped_lI (l : List Int) : PySem.SeqAt.shaped (lI l) = true := by
  simp [PySem.SeqAt.shaped, PySem.PyData.canLay0, PySem.PyData.depth, lay_iL, dep_iL]
theorem eq_tI (l m : List Int) : cmpD .eq (tI l) (tI m) = some (decide (l = m)) := by
  show eqD (tI l) (tI m) = _
  unfold eqD
  rw [shaped_tI, shaped_tI, ← eqv_iL]
  simp [PySem.PyData.eqv]
theorem ne_tI (l m : List Int) : cmpD .ne (tI l) (tI m) = some (!decide (l = m)) := by
  show neg? (eqD (tI l) (tI m)) = _
  have : eqD (tI l) (tI m) = some (decide (l = m)) := eq_tI l m
  rw [this]; rfl
theorem ne_lI (l m : List Int) : cmpD .ne (lI l) (lI m) = some (!decide (l = m)) := by
  show neg? (eqD (lI l) (lI m)) = _
  have : eqD (lI l) (lI m) = some (decide (l = m)) := by
    unfold eqD
    rw [shaped_lI, shaped_lI, ← eqv_iL]
    simp [PySem.PyData.eqv]
  rw [this]; rfl
theorem nil_tI : (.tuple [] : D) = tI [] := rfl
/-! ### a comprehension that draws -/
theorem ev_compD {Cl : Call} {g : G} {vs : List Nat} {it : It} {e : E} {ρ : Env} {P0 P : List D} {X : Store} {n : Nat} (Good : D → Prop) (hit : evIt Cl it ρ (.lst P0 :: X) = some (.rng 0 1 n, .lst P :: X)) (hP : PoolAt P) (hn : n < 1000000)
    (hstep : ∀ (i : Nat) (Q : List D) (acc : List D), i < n → PoolAt Q → ∃ y Q', PoolAt Q' ∧ Good y ∧ stepC Cl g vs false (.bl true) e ρ (.int (i : Nat)) (.lst Q :: X ++ [.lst acc]) = some (some y, .lst Q' :: X ++ [.lst acc])) :
    ∃ ys P', PoolAt P' ∧ ys.length = n ∧ (∀ y ∈ ys, Good y) ∧ evE Cl (.comp g vs it false (.bl true) e) ρ (.lst P0 :: X) = some (.d (.list ys), .lst P' :: X) := by
  have key : ∀ m i Q acc, i + m = n → PoolAt Q → acc.length ≤ i → (∀ y ∈ acc, Good y) → ∃ ys Q', PoolAt Q' ∧ ys.length = acc.length + m ∧ (∀ y ∈ ys, Good y) ∧
      compN (.rng 0 1 n) (.lst P :: X : Store).length (stepC Cl g vs false (.bl true) e ρ) m i (.lst Q :: X ++ [.lst acc]) = some (.lst Q' :: X ++ [.lst ys]) := by
    intro m
    induction m with
    | zero => intro i Q acc hi hQ _ hg; exact ⟨acc, Q, hQ, rfl, hg, rfl⟩
    | succ m ih =>
      intro i Q acc hi hQ ha hg
      obtain ⟨y, Q', k1, k2, k3⟩ := hstep i Q acc (by omega) hQ
      obtain ⟨ys, Q2, j1, j2, j3, j4⟩ := ih (i + 1) Q' (acc ++ [y]) (by omega) k1 (by simp; omega) (fun z hz => by
        rcases List.mem_append.mp hz with h | h
        · exact hg z h
        · rw [List.mem_singleton.mp h]; exact k2)
      refine ⟨ys, Q2, j1, by rw [j2]; simp; omega, j3, ?_⟩
      have hsz : szOk acc.length = true := Nat.ble_eq.mpr (by omega)
      have e0 : (Items.rng 0 1 n).get i (.lst Q :: X ++ [.lst acc]) = some (.int (i : Nat)) := by rw [rng_get]; simp
      unfold compN
      rw [e0]
      simp only []
      rw [k3]
      have hl : (.lst P :: X : Store).length = (.lst Q' :: X : Store).length := rfl
      simp only []
      rw [hl, at_last]
      simp only []
      rw [if_pos hsz, set_last]
      exact j4
  obtain ⟨ys, Q', h1, h2, h3, h4⟩ := key n 0 P [] (by omega) hP (Nat.le_refl _) (fun y hy => by cases hy)
  refine ⟨ys, Q', h1, by simpa using h2, h3, ?_⟩
  rw [ev_comp, hit]
  simp only [rng_n]
  rw [h4]
  have hl : (.lst P :: X : Store).length = (.lst Q' :: X : Store).length := rfl
  simp only []
  rw [hl, at_last]
  simp
end LAW
end
section
namespace LAW
open PC PC.PM
def ls0 : S := (.thaw 1 (.call 11 (.cons (.var 0) .nil)))
def ls1 : S := (.asg (.name 2) (.call 15 (.cons (.var 1) (.cons (.int 61) .nil))))
def ls2 : S := (.asg (.tup (.cons (.name 9) (.cons (.name 10) (.cons (.name 11) .nil)))) (.comp (.name 15) [15] (.rng1 (.int 3)) false (.bl true) (.call 16 (.cons (.var 2) (.cons (.comp (.name 16) [16] (.rng1 (.call 13 (.cons (.var 1) (.cons (.int 8) .nil)))) false (.bl true) (.call 13 (.cons (.var 1) (.cons (.var 2) .nil)))) .nil)))))
def ls3 : S := (.asg (.name 3) (.b2 .max (.b1 .len (.var 9)) (.b1 .len (.var 10))))
def ls4 : S := (.asg (.name 4) (.call 16 (.cons (.var 2) (.cons (.comp (.name 16) [16] (.rng1 (.var 3)) false (.bl true) (.bin .add (.ite (.cmp .lt (.var 16) (.b1 .len (.var 9))) (.ix (.var 9) (.var 16)) (.int 0)) (.ite (.cmp .lt (.var 16) (.b1 .len (.var 10))) (.ix (.var 10) (.var 16)) (.int 0)))) .nil))))
def ls5 : S := (.asg (.name 5) (.call 17 (.cons (.var 2) (.cons (.var 9) (.cons (.var 10) .nil)))))
def ls6 : S := (.if_ (.not (.call 10 (.cons (.lst (.cons (.call 2 (.cons (.var 2) (.cons (.var 9) (.cons (.var 10) .nil)))) (.cons (.call 4 (.cons (.var 2) (.cons (.var 9) (.cons (.var 10) .nil)))) .nil))) (.cons (.lst (.cons (.var 4) (.cons (.var 5) .nil))) .nil)))) (.cons (.ret (.bl false))
    .nil) .nil)
def ls7 : S := (.asg (.name 6) (.call 13 (.cons (.var 1) (.cons (.var 2) .nil))))
def ls8 : S := (.if_ (.not (.call 10 (.cons (.lst (.cons (.call 7 (.cons (.var 2) (.cons (.var 9) (.cons (.var 6) .nil)))) (.cons (.call 7 (.cons (.var 2) (.cons (.var 5) (.cons (.var 6) .nil)))) .nil))) (.cons (.lst (.cons (.call 18 (.cons (.var 2) (.cons (.var 9) (.cons (.var 6) .nil)))) (.cons (.bin .mod (.b1 .int (.bin .mul (.call 18 (.cons (.var 2) (.cons (.var 9) (.cons (.var 6) .nil)))) (.call 18 (.cons (.var 2) (.cons (.var 10) (.cons (.var 6) .nil)))))) (.var 2)) .nil))) .nil)))) (.cons (.ret (.bl false))
    .nil) .nil)
def ls9 : S := (.if_ (.cmp .ne (.var 11) (.tup .nil)) (.cons (.asg (.name 12) (.call 6 (.cons (.var 2) (.cons (.var 9) (.cons (.var 11) .nil)))))
    (.cons (.if_ (.or (.cmp .ge (.b1 .len (.var 12)) (.b1 .len (.var 11))) (.cmp .ne (.call 6 (.cons (.var 2) (.cons (.call 2 (.cons (.var 2) (.cons (.var 9) (.cons (.b1 .tuple (.comp (.name 17) [17] (.seq (.var 12)) false (.bl true) (.bin .mod (.b1 .int (.bin .sub (.int 0) (.var 17))) (.var 2)))) .nil)))) (.cons (.var 11) .nil)))) (.tup .nil))) (.cons (.ret (.bl false))
    .nil) .nil)
    (.cons (.if_ (.or (.cmp .ne (.call 6 (.cons (.var 2) (.cons (.call 2 (.cons (.var 2) (.cons (.call 17 (.cons (.var 2) (.cons (.var 10) (.cons (.var 11) .nil)))) (.cons (.var 12) .nil)))) (.cons (.var 11) .nil)))) (.var 12)) (.cmp .ne (.call 6 (.cons (.var 2) (.cons (.var 12) (.cons (.var 11) .nil)))) (.var 12))) (.cons (.ret (.bl false))
    .nil) .nil)
    .nil))) .nil)
def ls10 : S := (.par [13, 14] (.cons (.call 17 (.cons (.var 2) (.cons (.var 9) (.cons (.var 11) .nil)))) (.cons (.call 17 (.cons (.var 2) (.cons (.var 10) (.cons (.var 11) .nil)))) .nil)))
def ls11 : S := (.asg (.name 7) (.call 9 (.cons (.var 2) (.cons (.var 13) (.cons (.var 14) .nil)))))
def ls12 : S := (.if_ (.and (.cmp .eq (.var 13) (.tup .nil)) (.cmp .eq (.var 14) (.tup .nil))) (.cons (.ret (.cmp .eq (.var 7) (.tup .nil)))
    .nil) .nil)
def ls13 : S := (.if_ (.or (.cmp .ne (.ix (.var 7) (.neg (.int 1))) (.int 1)) (.or (.cmp .ne (.call 6 (.cons (.var 2) (.cons (.var 13) (.cons (.var 7) .nil)))) (.tup .nil)) (.or (.cmp .ne (.call 6 (.cons (.var 2) (.cons (.var 14) (.cons (.var 7) .nil)))) (.tup .nil)) (.and (.cmp .ne (.var 11) (.tup .nil)) (.cmp .ne (.call 6 (.cons (.var 2) (.cons (.var 7) (.cons (.var 11) .nil)))) (.tup .nil)))))) (.cons (.ret (.bl false))
    .nil) .nil)
def ls14 : S := (.asg (.name 8) (.comp (.name 16) [16] (.rng1 (.var 2)) true (.and (.cmp .eq (.call 18 (.cons (.var 2) (.cons (.var 13) (.cons (.var 16) .nil)))) (.int 0)) (.cmp .eq (.call 18 (.cons (.var 2) (.cons (.var 14) (.cons (.var 16) .nil)))) (.int 0))) (.var 16)))
def ls15 : S := (.if_ (.cmp .ne (.comp (.name 16) [16] (.rng1 (.var 2)) true (.cmp .eq (.call 18 (.cons (.var 2) (.cons (.var 7) (.cons (.var 16) .nil)))) (.int 0)) (.var 16)) (.var 8)) (.cons (.ret (.bl false))
    .nil) .nil)
def ls16 : S := (.ret (.and (.cmp .eq (.call 9 (.cons (.var 2) (.cons (.var 14) (.cons (.var 13) .nil)))) (.var 7)) (.cmp .eq (.call 9 (.cons (.var 2) (.cons (.var 7) (.cons (.var 13) .nil)))) (.var 7))))
theorem lbody : d19.body = (.cons ls0 (.cons ls1 (.cons ls2 (.cons ls3 (.cons ls4 (.cons ls5 (.cons ls6 (.cons ls7 (.cons ls8 (.cons ls9 (.cons ls10 (.cons ls11 (.cons ls12 (.cons ls13 (.cons ls14 (.cons ls15 (.cons ls16 .nil))))))))))))))))) := rfl

abbrev eW (a0 a1 a2 a3 a4 a5 a6 a7 a8 a9 a10 a11 a12 a13 a14 a15 a16 a17 : Option R) : Env := [a0, a1, a2, a3, a4, a5, a6, a7, a8, a9, a10, a11, a12, a13, a14, a15, a16, a17]
def HSum (Cl : Call) : Prop := ∀ (p : Int) (a b : List Int) (S : Store), 0 < p → a.length < 1000 → b.length < 1000 → ∃ l, Cl 2 [.d (.int p), .d (tI a), .d (tI b)] S = some (.d (tI l), S) ∧ Nf p l ∧ (∀ n, co l n = (co a n + co b n) % p) ∧ l.length ≤ max a.length b.length
theorem hSum (k : Nat) : HSum (C (k+2)) := fun p a b S hp ha hb => by
  obtain ⟨l, h1, h2⟩ := sum_ok (hTrim k) p hp a b (by omega) (by omega) S
  refine ⟨l, ?_, h2⟩
  rw [c2]; exact h1
def HMul (Cl : Call) (f : Nat) : Prop := ∀ (p : Int) (a b : List Int) (S : Store), p ∈ primes → Nf p a → a.length < 1000 → b.length < 1000 → ∃ l, Cl f [.d (.int p), .d (tI a), .d (tI b)] S = some (.d (tI l), S) ∧ Nf p l ∧ (∀ n, co l n = act a (co b) n % p) ∧ l.length ≤ a.length + b.length
theorem hProd (k : Nat) : HMul (C (k+2)) 4 := fun p a b S hp hna ha hb => by
  have h0 := pr_bd p hp
  obtain ⟨l, h1, h2⟩ := product_ok (hMod1 k) p (by omega) (by omega) a b hna (by omega) S
  refine ⟨l, ?_, h2⟩
  rw [c4]; exact h1
theorem hMul (k : Nat) : HMul (C (k+2)) 17 := fun p a b S hp hna ha hb => by
  have h0 := pr_bd p hp
  obtain ⟨l, h1, h2⟩ := mul_ok (hMod16 k) p (by omega) (by omega) a b hna (by omega) S
  refine ⟨l, ?_, h2⟩
  rw [c17]; exact h1
def HVal (Cl : Call) (f : Nat) : Prop := ∀ (p x : Int) (l : List Int) (S : Store), p ∈ primes → 0 ≤ x → x < p → Nf p l → l.length < 1000 → Cl f [.d (.int p), .d (tI l), .d (.int x)] S = some (.d (.int (hv x l % p)), S)
theorem hAt (k : Nat) : HVal (C (k+1)) 7 := fun p x l S hp h0 h1 hn hl => by
  have hb := pr_bd p hp
  have h2 : smI x = true := smI_of h0 (by omega)
  rw [c7]; exact at_ok (Cl := C k) p x (by omega) h2 l (by omega) hn S
-- (smI_of h0 (by omega)) l (by omega) hn S
theorem hVal (k : Nat) : HVal (C (k+1)) 18 := fun p x l S hp h0 h1 hn hl => by
  have hb := pr_bd p hp
  have h2 : smI x = true := smI_of h0 (by omega)
  rw [c18]; exact (if_pos rfl).trans (value_ok (Cl := C k) p x (by omega) h2 l (by omega) S)
-- (smI_of h0 (by omega)) l (by omega) S
structure HAll (Cl : Call) : Prop where
  pool : HPool Cl
  prime : HPrime Cl
  draw : HDraw Cl
  mod : HMod Cl 16
  sum : HSum Cl
  prod : HMul Cl 4
  mul : HMul Cl 17
  at_ : HVal Cl 7
  val : HVal Cl 18
  rest : HRest Cl
  shd : HShd Cl
  same : HSame Cl 2
theorem hAll (k : Nat) : HAll (C (k+10)) := ⟨hPool (k+9), hPrime (k+6), hDraw (k+8), hMod16 (k+9), hSum (k+8), hProd (k+8), hMul (k+8), hAt (k+9), hVal (k+9), hRest (k+7), hShd (k+6), hSameS (k+8) 1 (hSameS (k+7) 0 (hSame0 (k+7)))⟩
section
variable {Cl : Call} (H : HAll Cl)
include H
variable {a0 a1 a2 a3 a4 a5 a6 a7 a8 a9 a10 a11 a12 a13 a14 a15 a16 a17 : Option R} {S : Store} {p : Int} (hp : p ∈ primes)
/-- three lists are drawn -/
theorem s2_ok (hp : p ∈ primes) (P : List D) (hP : PoolAt P) (X : Store) : ∃ a b c P' , PoolAt P' ∧ (Nf p a ∧ a.length < 8) ∧ (Nf p b ∧ b.length < 8) ∧ (Nf p c ∧ c.length < 8) ∧
    exS Cl 1000000 ls2 (eW a0 (some (.loc 0)) (some (.d (.int p))) a3 a4 a5 a6 a7 a8 a9 a10 a11 a12 a13 a14 a15 a16 a17) (.lst P :: X) = some (.nx (eW a0 (some (.loc 0)) (some (.d (.int p))) a3 a4 a5 a6 a7 a8 (some (.d (tI a))) (some (.d (tI b))) (some (.d (tI c))) a12 a13 a14 a15 a16 a17) (.lst P' :: X)) := by
  have hb := pr_bd p hp
  have r3 : rngOk 3 = true := by decide
  obtain ⟨ys, P', h1, h2, h3, h4⟩ := ev_compD (Cl := Cl) (g := .name 15) (vs := [15]) (it := .rng1 (.int 3)) (e := .call 16 (.cons (.var 2) (.cons (.comp (.name 16) [16] (.rng1 (.call 13 (.cons (.var 1) (.cons (.int 8) .nil)))) false (.bl true) (.call 13 (.cons (.var 1) (.cons (.var 2) .nil)))) .nil))) (ρ := eW a0 (some (.loc 0)) (some (.d (.int p))) a3 a4 a5 a6 a7 a8 a9 a10 a11 a12 a13 a14 a15 a16 a17) (P0 := P) (P := P) (X := X) (n := 3) (fun y => ∃ l, y = tI l ∧ Nf p l ∧ l.length < 8) (by simp [ev_var, ev_glob, ev_int, ev_bl, ev_non, ev_str, ev_bin, ev_neg, ev_not, ev_and, ev_or, ev_cmp, ev_chain, ev_ite, ev_ix, ev_slo, ev_shi, ev_rev, ev_tup, ev_lst, ev_b1, ev_b2, ev_isi, ev_call, evs_nil, evs_cons, evi_rng1, evi_rng2, evi_rng3, evi_seq, evi_zip, ex_asg, ex_thaw, ex_par, ex_aug, ex_seti, ex_augi, ex_if_, ex_ret, ex_app, ex_ext, ex_pop, ex_pass, exs_nil, exs_cons, ex_for_, ex_whl, ev_comp, binI_add, binI_sub, binI_mulL, binI_mulR, binI_div, binI_mod, bin_int, cmp_int, cmpI_eq, cmpI_ne, cmpI_lt, cmpI_le, cmpI_gt, cmpI_ge, view_d, viewS_d, viewS_scr, b1_len_list, b1_len_tuple, b1_int_int, b1_tuple_list, b1_list_list, b1_list_tuple, ix_list, ix_tuple, asg_name, asg_tupT, asg_tupL, asgs_nil, asgs_cons, back_rt, back_nx, st_F, te_W, bd_W, st_C0, st_C1, wipe_nil, wipe_cons, sets_nil, sets_cons, pures_nil, pures_cons, rng_n, seq_n, rng_get, seq_list, seq_tuple, seq_getT, seq_getL, seq_getS, rng_fin, start_eq, iL_len, iL_snoc, iL_nil, r3]) hP (by omega) (fun i Q acc hi hQ => by
    obtain ⟨n, Q1, q1, n0, n1, e1⟩ := H.draw Q (X ++ [.lst acc]) 8 hQ (by omega) (by omega)
    have e2 := (call2 (C := Cl) (f := 13) (a := .var 1) (b := .int 8) (ρ := eW a0 (some (.loc 0)) (some (.d (.int p))) a3 a4 a5 a6 a7 a8 a9 a10 a11 a12 a13 a14 (some (.d (.int (i : Nat)))) a16 a17) (s := .lst Q :: (X ++ [.lst acc])) (s1 := .lst Q :: (X ++ [.lst acc])) (s2 := .lst Q :: (X ++ [.lst acc])) (va := .loc 0) (vb := .d (.int 8)) (by simp [ev_var]) (by simp [ev_int])).trans e1
    have hr : rngOk n = true := by
      have : n = (n.toNat : Nat) := by omega
      rw [this]; exact rngOk_nat (by omega)
    have e3 : evIt Cl (.rng1 (.call 13 (.cons (.var 1) (.cons (.int 8) .nil)))) (eW a0 (some (.loc 0)) (some (.d (.int p))) a3 a4 a5 a6 a7 a8 a9 a10 a11 a12 a13 a14 (some (.d (.int (i : Nat)))) a16 a17) (.lst Q :: (X ++ [.lst acc])) = some (.rng 0 1 n.toNat, .lst Q1 :: (X ++ [.lst acc])) := by
      rw [evi_rng1, e2]
      simp [hr]
    obtain ⟨ys, Q2, q2, l2, g2, e4⟩ := ev_compD (Cl := Cl) (g := .name 16) (vs := [16]) (it := .rng1 (.call 13 (.cons (.var 1) (.cons (.int 8) .nil)))) (e := .call 13 (.cons (.var 1) (.cons (.var 2) .nil))) (ρ := eW a0 (some (.loc 0)) (some (.d (.int p))) a3 a4 a5 a6 a7 a8 a9 a10 a11 a12 a13 a14 (some (.d (.int (i : Nat)))) a16 a17) (P0 := Q) (P := Q1) (X := X ++ [.lst acc]) (n := n.toNat) (fun y => ∃ i, y = .int i) e3 q1 (by omega) (fun j R acc2 hj hR => by
      obtain ⟨v, R1, r1, _, _, e5⟩ := H.draw R (X ++ [.lst acc] ++ [.lst acc2]) p hR (by omega) (by omega)
      refine ⟨.int v, R1, r1, ⟨v, rfl⟩, ?_⟩
      have e6 := (call2 (C := Cl) (f := 13) (a := .var 1) (b := .var 2) (ρ := eW a0 (some (.loc 0)) (some (.d (.int p))) a3 a4 a5 a6 a7 a8 a9 a10 a11 a12 a13 a14 (some (.d (.int (i : Nat)))) (some (.d (.int (j : Nat)))) a17) (s := .lst R :: (X ++ [.lst acc] ++ [.lst acc2])) (s1 := .lst R :: (X ++ [.lst acc] ++ [.lst acc2])) (s2 := .lst R :: (X ++ [.lst acc] ++ [.lst acc2])) (va := .loc 0) (vb := .d (.int p)) (by simp [ev_var]) (by simp [ev_var])).trans e5
      rw [st_C0, asg_name]
      simp only [wipe_cons, wipe_nil, List.set]
      show (match evE Cl (.call 13 (.cons (.var 1) (.cons (.var 2) .nil))) _ (.lst R :: (X ++ [.lst acc] ++ [.lst acc2])) with
            | some (.d y, s4) => some (some y, s4)
            | _ => none) = _
      rw [e6]
      rfl)
    obtain ⟨l, hl⟩ : ∃ l, ys = iL l := by
      clear e4 l2
      induction ys with
      | nil => exact ⟨[], rfl⟩
      | cons y ys ih =>
        obtain ⟨l, rfl⟩ := ih (fun z hz => g2 z (List.mem_cons_of_mem _ hz))
        obtain ⟨i, rfl⟩ := g2 y (List.mem_cons_self ..)
        exact ⟨i :: l, rfl⟩
    subst hl
    rw [iL_len] at l2
    have e7 := H.mod p l (.d (lI l)) (.lst Q2 :: (X ++ [.lst acc])) (by omega) (by omega) (Rd.d _ _)
    have e8 := (call2 (C := Cl) (f := 16) (a := .var 2) (ρ := eW a0 (some (.loc 0)) (some (.d (.int p))) a3 a4 a5 a6 a7 a8 a9 a10 a11 a12 a13 a14 (some (.d (.int (i : Nat)))) a16 a17) (s := .lst Q :: (X ++ [.lst acc])) (s1 := .lst Q :: (X ++ [.lst acc])) (va := .d (.int p)) (by simp [ev_var]) e4).trans e7
    refine ⟨tI (trim p l), Q2, q2, ⟨_, rfl, Nf.trim (by omega) l, by have := trim_le p l; omega⟩, ?_⟩
    rw [st_C0, asg_name]
    simp only [wipe_cons, wipe_nil, List.set]
    show (match evE Cl (.call 16 (.cons (.var 2) (.cons (.comp (.name 16) [16] (.rng1 (.call 13 (.cons (.var 1) (.cons (.int 8) .nil)))) false (.bl true) (.call 13 (.cons (.var 1) (.cons (.var 2) .nil)))) .nil))) _ (.lst Q :: (X ++ [.lst acc])) with
            | some (.d y, s4) => some (some y, s4)
            | _ => none) = _
    rw [e8]
    rfl)
  match ys, h2, h3, h4 with
  | [y1, y2, y3], _, h3, h4 =>
    obtain ⟨a, rfl, ha⟩ := h3 y1 (by simp)
    obtain ⟨b, rfl, hb⟩ := h3 y2 (by simp)
    obtain ⟨c, rfl, hc⟩ := h3 y3 (by simp)
    exact ⟨a, b, c, P', h1, ha, hb, hc, asg_of h4 rfl⟩
end
end LAW
end
section
namespace LAW
open PC PC.PM
section
variable {Cl : Call} (H : HAll Cl)
variable {a0 a1 a2 a3 a4 a5 a6 a7 a8 a9 a10 a11 a12 a13 a14 a15 a16 a17 : Option R} {p : Int}
theorem s3_ok (a b : List Int) (ha : a.length < 100) (hb : b.length < 100) (S : Store) : ∃ m : Nat, a.length ≤ m ∧ b.length ≤ m ∧ m < 100 ∧
    exS Cl 1000000 ls3 (eW a0 a1 a2 a3 a4 a5 a6 a7 a8 (some (.d (tI a))) (some (.d (tI b))) a11 a12 a13 a14 a15 a16 a17) S = some (.nx (eW a0 a1 a2 (some (.d (.int (m : Nat)))) a4 a5 a6 a7 a8 (some (.d (tI a))) (some (.d (tI b))) a11 a12 a13 a14 a15 a16 a17) S) := by
  refine ⟨max a.length b.length, by omega, by omega, by omega, ?_⟩
  have e : (if (b.length : Int) > (a.length : Int) then (b.length : Int) else (a.length : Int)) = ((max a.length b.length : Nat) : Int) := by split <;> omega
  refine asg_of (r := .d (.int ((max a.length b.length : Nat) : Int))) (s1 := S) ?_ rfl
  simp only [ev_b2, ev_b1, ev_var, List.getElem?_cons_succ, List.getElem?_cons_zero, viewS_d, view_d, b1_len_tuple, iL_len, b2D, e]
include H
theorem s4_ok (hp : p ∈ primes) (a b : List Int) (m : Nat) (ha : a.length ≤ m) (hb : b.length ≤ m) (hm : m < 100) (S : Store) : ∃ t, Nf p t ∧ (∀ n, co t n = (co a n + co b n) % p) ∧ t.length < 100 ∧
    exS Cl 1000000 ls4 (eW a0 a1 (some (.d (.int p))) (some (.d (.int (m : Nat)))) a4 a5 a6 a7 a8 (some (.d (tI a))) (some (.d (tI b))) a11 a12 a13 a14 a15 a16 a17) S = some (.nx (eW a0 a1 (some (.d (.int p))) (some (.d (.int (m : Nat)))) (some (.d (tI t))) a5 a6 a7 a8 (some (.d (tI a))) (some (.d (tI b))) a11 a12 a13 a14 a15 a16 a17) S) := by
  have hb0 := pr_bd p hp
  have hr := rngOk_nat (n := m) (by omega)
  have e1 : evE Cl (.comp (.name 16) [16] (.rng1 (.var 3)) false (.bl true) (.bin .add (.ite (.cmp .lt (.var 16) (.b1 .len (.var 9))) (.ix (.var 9) (.var 16)) (.int 0)) (.ite (.cmp .lt (.var 16) (.b1 .len (.var 10))) (.ix (.var 10) (.var 16)) (.int 0)))) (eW a0 a1 (some (.d (.int p))) (some (.d (.int (m : Nat)))) a4 a5 a6 a7 a8 (some (.d (tI a))) (some (.d (tI b))) a11 a12 a13 a14 a15 a16 a17) S =
      some (.d (lI ((rg m).map fun i => co a i.toNat + co b i.toNat)), S) := by
    refine ev_compI (J := .rng 0 1 m) (rg m) (fun i => co a i.toNat + co b i.toNat) ?_ (rg_len _).symm (by rw [rg_len]; omega) (fun i acc hi => rg_get _ _ _ (by rwa [rg_len] at hi)) (fun acc => rfl) (fun y hy acc => ?_)
    · simp [ev_var, ev_glob, ev_int, ev_bl, ev_non, ev_str, ev_bin, ev_neg, ev_not, ev_and, ev_or, ev_cmp, ev_chain, ev_ite, ev_ix, ev_slo, ev_shi, ev_rev, ev_tup, ev_lst, ev_b1, ev_b2, ev_isi, ev_call, evs_nil, evs_cons, evi_rng1, evi_rng2, evi_rng3, evi_seq, evi_zip, ex_asg, ex_thaw, ex_par, ex_aug, ex_seti, ex_augi, ex_if_, ex_ret, ex_app, ex_ext, ex_pop, ex_pass, exs_nil, exs_cons, ex_for_, ex_whl, ev_comp, binI_add, binI_sub, binI_mulL, binI_mulR, binI_div, binI_mod, bin_int, cmp_int, cmpI_eq, cmpI_ne, cmpI_lt, cmpI_le, cmpI_gt, cmpI_ge, view_d, viewS_d, viewS_scr, b1_len_list, b1_len_tuple, b1_int_int, b1_tuple_list, b1_list_list, b1_list_tuple, ix_list, ix_tuple, asg_name, asg_tupT, asg_tupL, asgs_nil, asgs_cons, back_rt, back_nx, st_F, te_W, bd_W, st_C0, st_C1, wipe_nil, wipe_cons, sets_nil, sets_cons, pures_nil, pures_cons, rng_n, seq_n, rng_get, seq_list, seq_tuple, seq_getT, seq_getL, seq_getS, rng_fin, start_eq, iL_len, iL_snoc, iL_nil, hr]
    · obtain ⟨i, hi, rfl⟩ := rg_mem hy
      by_cases h : (i : Int) < a.length
      · by_cases h2 : (i : Int) < b.length
        · simp [ev_var, ev_glob, ev_int, ev_bl, ev_non, ev_str, ev_bin, ev_neg, ev_not, ev_and, ev_or, ev_cmp, ev_chain, ev_ite, ev_ix, ev_slo, ev_shi, ev_rev, ev_tup, ev_lst, ev_b1, ev_b2, ev_isi, ev_call, evs_nil, evs_cons, evi_rng1, evi_rng2, evi_rng3, evi_seq, evi_zip, ex_asg, ex_thaw, ex_par, ex_aug, ex_seti, ex_augi, ex_if_, ex_ret, ex_app, ex_ext, ex_pop, ex_pass, exs_nil, exs_cons, ex_for_, ex_whl, ev_comp, binI_add, binI_sub, binI_mulL, binI_mulR, binI_div, binI_mod, bin_int, cmp_int, cmpI_eq, cmpI_ne, cmpI_lt, cmpI_le, cmpI_gt, cmpI_ge, view_d, viewS_d, viewS_scr, b1_len_list, b1_len_tuple, b1_int_int, b1_tuple_list, b1_list_list, b1_list_tuple, ix_list, ix_tuple, asg_name, asg_tupT, asg_tupL, asgs_nil, asgs_cons, back_rt, back_nx, st_F, te_W, bd_W, st_C0, st_C1, wipe_nil, wipe_cons, sets_nil, sets_cons, pures_nil, pures_cons, rng_n, seq_n, rng_get, seq_list, seq_tuple, seq_getT, seq_getL, seq_getS, rng_fin, start_eq, iL_len, iL_snoc, iL_nil, atI_iL (a := a) (i := i) (by omega), atI_iL (a := b) (i := i) (by omega), h, h2]
        · simp [ev_var, ev_glob, ev_int, ev_bl, ev_non, ev_str, ev_bin, ev_neg, ev_not, ev_and, ev_or, ev_cmp, ev_chain, ev_ite, ev_ix, ev_slo, ev_shi, ev_rev, ev_tup, ev_lst, ev_b1, ev_b2, ev_isi, ev_call, evs_nil, evs_cons, evi_rng1, evi_rng2, evi_rng3, evi_seq, evi_zip, ex_asg, ex_thaw, ex_par, ex_aug, ex_seti, ex_augi, ex_if_, ex_ret, ex_app, ex_ext, ex_pop, ex_pass, exs_nil, exs_cons, ex_for_, ex_whl, ev_comp, binI_add, binI_sub, binI_mulL, binI_mulR, binI_div, binI_mod, bin_int, cmp_int, cmpI_eq, cmpI_ne, cmpI_lt, cmpI_le, cmpI_gt, cmpI_ge, view_d, viewS_d, viewS_scr, b1_len_list, b1_len_tuple, b1_int_int, b1_tuple_list, b1_list_list, b1_list_tuple, ix_list, ix_tuple, asg_name, asg_tupT, asg_tupL, asgs_nil, asgs_cons, back_rt, back_nx, st_F, te_W, bd_W, st_C0, st_C1, wipe_nil, wipe_cons, sets_nil, sets_cons, pures_nil, pures_cons, rng_n, seq_n, rng_get, seq_list, seq_tuple, seq_getT, seq_getL, seq_getS, rng_fin, start_eq, iL_len, iL_snoc, iL_nil, atI_iL (a := a) (i := i) (by omega), co_len (l := b) (n := i) (by omega), h, h2]
      · by_cases h2 : (i : Int) < b.length
        · simp [ev_var, ev_glob, ev_int, ev_bl, ev_non, ev_str, ev_bin, ev_neg, ev_not, ev_and, ev_or, ev_cmp, ev_chain, ev_ite, ev_ix, ev_slo, ev_shi, ev_rev, ev_tup, ev_lst, ev_b1, ev_b2, ev_isi, ev_call, evs_nil, evs_cons, evi_rng1, evi_rng2, evi_rng3, evi_seq, evi_zip, ex_asg, ex_thaw, ex_par, ex_aug, ex_seti, ex_augi, ex_if_, ex_ret, ex_app, ex_ext, ex_pop, ex_pass, exs_nil, exs_cons, ex_for_, ex_whl, ev_comp, binI_add, binI_sub, binI_mulL, binI_mulR, binI_div, binI_mod, bin_int, cmp_int, cmpI_eq, cmpI_ne, cmpI_lt, cmpI_le, cmpI_gt, cmpI_ge, view_d, viewS_d, viewS_scr, b1_len_list, b1_len_tuple, b1_int_int, b1_tuple_list, b1_list_list, b1_list_tuple, ix_list, ix_tuple, asg_name, asg_tupT, asg_tupL, asgs_nil, asgs_cons, back_rt, back_nx, st_F, te_W, bd_W, st_C0, st_C1, wipe_nil, wipe_cons, sets_nil, sets_cons, pures_nil, pures_cons, rng_n, seq_n, rng_get, seq_list, seq_tuple, seq_getT, seq_getL, seq_getS, rng_fin, start_eq, iL_len, iL_snoc, iL_nil, atI_iL (a := b) (i := i) (by omega), co_len (l := a) (n := i) (by omega), h, h2]
        · simp [ev_var, ev_glob, ev_int, ev_bl, ev_non, ev_str, ev_bin, ev_neg, ev_not, ev_and, ev_or, ev_cmp, ev_chain, ev_ite, ev_ix, ev_slo, ev_shi, ev_rev, ev_tup, ev_lst, ev_b1, ev_b2, ev_isi, ev_call, evs_nil, evs_cons, evi_rng1, evi_rng2, evi_rng3, evi_seq, evi_zip, ex_asg, ex_thaw, ex_par, ex_aug, ex_seti, ex_augi, ex_if_, ex_ret, ex_app, ex_ext, ex_pop, ex_pass, exs_nil, exs_cons, ex_for_, ex_whl, ev_comp, binI_add, binI_sub, binI_mulL, binI_mulR, binI_div, binI_mod, bin_int, cmp_int, cmpI_eq, cmpI_ne, cmpI_lt, cmpI_le, cmpI_gt, cmpI_ge, view_d, viewS_d, viewS_scr, b1_len_list, b1_len_tuple, b1_int_int, b1_tuple_list, b1_list_list, b1_list_tuple, ix_list, ix_tuple, asg_name, asg_tupT, asg_tupL, asgs_nil, asgs_cons, back_rt, back_nx, st_F, te_W, bd_W, st_C0, st_C1, wipe_nil, wipe_cons, sets_nil, sets_cons, pures_nil, pures_cons, rng_n, seq_n, rng_get, seq_list, seq_tuple, seq_getT, seq_getL, seq_getS, rng_fin, start_eq, iL_len, iL_snoc, iL_nil, co_len (l := b) (n := i) (by omega), co_len (l := a) (n := i) (by omega), h, h2]
  have hlen : ((rg m).map fun i => co a i.toNat + co b i.toNat).length = m := by rw [List.length_map, rg_len]
  have e2 := H.mod p ((rg m).map fun i => co a i.toNat + co b i.toNat) (.d (lI ((rg m).map fun i => co a i.toNat + co b i.toNat))) S (by omega) (by omega) (Rd.d _ _)
  refine ⟨_, Nf.trim (by omega) ((rg m).map fun i => co a i.toNat + co b i.toNat), fun n => ?_, ?_, asg_of ((call2 (va := .d (.int p)) (s1 := S) (by simp [ev_var]) e1).trans e2) rfl⟩
  · rw [trim_co, co_rg]
    split
    · rw [Int.toNat_natCast]
    · rw [co_len (l := a) (by omega), co_len (l := b) (by omega)]; rfl
  · have := trim_le p ((rg m).map fun i => co a i.toNat + co b i.toNat)
    omega
theorem s5_ok (hp : p ∈ primes) (a b : List Int) (hna : Nf p a) (ha : a.length < 100) (hb : b.length < 100) (S : Store) : ∃ t, Nf p t ∧ (∀ n, co t n = act a (co b) n % p) ∧ t.length ≤ a.length + b.length ∧
    exS Cl 1000000 ls5 (eW a0 a1 (some (.d (.int p))) a3 a4 a5 a6 a7 a8 (some (.d (tI a))) (some (.d (tI b))) a11 a12 a13 a14 a15 a16 a17) S = some (.nx (eW a0 a1 (some (.d (.int p))) a3 a4 (some (.d (tI t))) a6 a7 a8 (some (.d (tI a))) (some (.d (tI b))) a11 a12 a13 a14 a15 a16 a17) S) := by
  obtain ⟨t, h1, h2, h3, h4⟩ := H.mul p a b S hp hna (by omega) (by omega)
  exact ⟨t, h2, h3, h4, asg_of ((call3 (s1 := S) (s2 := S) (s3 := S) (va := .d (.int p)) (vb := .d (tI a)) (vc := .d (tI b)) (by simp [ev_var]) (by simp [ev_var]) (by simp [ev_var])).trans h1) rfl⟩
theorem lst2 {ρ : Env} {x y : E} {u v : D} {s s1 s2 : Store} (h1 : evE Cl x ρ s = some (.d u, s1)) (h2 : evE Cl y ρ s1 = some (.d v, s2)) : evE Cl (.lst (.cons x (.cons y .nil))) ρ s = some (.d (.list [u, v]), s2) := by
  have h2' : szOk 2 = true := rfl
  rw [ev_lst, evs_cons, h1]
  simp only []
  rw [evs_cons, h2]
  rfl
theorem s6_ok (hp : p ∈ primes) (a b t q : List Int) (hna : Nf p a) (ha : a.length < 100) (hb : b.length < 100) (ht : Nf p t) (htc : ∀ n, co t n = (co a n + co b n) % p) (hq : Nf p q) (hqc : ∀ n, co q n = act a (co b) n % p) (htl : t.length < 1000) (hql : q.length < 1000) (S : Store) :
    exS Cl 1000000 ls6 (eW a0 a1 (some (.d (.int p))) a3 (some (.d (tI t))) (some (.d (tI q))) a6 a7 a8 (some (.d (tI a))) (some (.d (tI b))) a11 a12 a13 a14 a15 a16 a17) S = some (.nx (eW a0 a1 (some (.d (.int p))) a3 (some (.d (tI t))) (some (.d (tI q))) a6 a7 a8 (some (.d (tI a))) (some (.d (tI b))) a11 a12 a13 a14 a15 a16 a17) S) := by
  have hb0 := pr_bd p hp
  have hp0 : 0 < p := by omega
  obtain ⟨t', h1, h2, h3, _⟩ := H.sum p a b S hp0 (by omega) (by omega)
  obtain ⟨q', k1, k2, k3, _⟩ := H.prod p a b S hp hna (by omega) (by omega)
  have et : t' = t := h2.ext hp0 ht fun n => ⟨0, by rw [h3, htc]; omega⟩
  have eq : q' = q := k2.ext hp0 hq fun n => ⟨0, by rw [k3, hqc]; omega⟩
  subst et eq
  generalize hρ : eW a0 a1 (some (.d (.int p))) a3 (some (.d (tI t'))) (some (.d (tI q'))) a6 a7 a8 (some (.d (tI a))) (some (.d (tI b))) a11 a12 a13 a14 a15 a16 a17 = ρ
  have v2 : ∀ s, evE Cl (.var 2) ρ s = some (.d (.int p), s) := fun s => by subst hρ; simp [ev_var]
  have v9 : ∀ s, evE Cl (.var 9) ρ s = some (.d (tI a), s) := fun s => by subst hρ; simp [ev_var]
  have v10 : ∀ s, evE Cl (.var 10) ρ s = some (.d (tI b), s) := fun s => by subst hρ; simp [ev_var]
  have v4 : ∀ s, evE Cl (.var 4) ρ s = some (.d (tI t'), s) := fun s => by subst hρ; simp [ev_var]
  have v5 : ∀ s, evE Cl (.var 5) ρ s = some (.d (tI q'), s) := fun s => by subst hρ; simp [ev_var]
  have e1 := lst2 H ((call3 (v2 S) (v9 S) (v10 S)).trans h1) ((call3 (v2 S) (v9 S) (v10 S)).trans k1)
  have e2 := lst2 H (v4 S) (v5 S)
  have e3 := (call2 e1 e2).trans (H.same _ S (.inr ⟨_, .inr rfl, by simp, fun x hx => by
    rcases List.mem_cons.mp hx with rfl | hx
    · exact shp_tI _ htl
    · rw [List.mem_singleton.mp hx]; exact shp_tI _ hql⟩))
  have e4 : evE Cl (.not (.call 10 (.cons (.lst (.cons (.call 2 (.cons (.var 2) (.cons (.var 9) (.cons (.var 10) .nil)))) (.cons (.call 4 (.cons (.var 2) (.cons (.var 9) (.cons (.var 10) .nil)))) .nil))) (.cons (.lst (.cons (.var 4) (.cons (.var 5) .nil))) .nil)))) ρ S = some (.d (.bool false), S) := by
    rw [ev_not, e3]; rfl
  exact (if_f e4).trans (exs_nil _ _ _ _)
end
end LAW
end
section
namespace LAW
open PC PC.PM
theorem not_of {C : Call} {a : E} {ρ : Env} {s s1 : Store} {b : Bool} (h : evE C a ρ s = some (.d (.bool b), s1)) : evE C (.not a) ρ s = some (.d (.bool (!b)), s1) := by rw [ev_not, h]
theorem or_f {C : Call} {a c : E} {ρ : Env} {s s1 : Store} {o : Option (R × Store)} (h : evE C a ρ s = some (.d (.bool false), s1)) (h2 : evE C c ρ s1 = o) : evE C (.or a c) ρ s = o := by rw [ev_or, h]; exact h2
theorem and_f {C : Call} {a c : E} {ρ : Env} {s s1 : Store} (h : evE C a ρ s = some (.d (.bool false), s1)) : evE C (.and a c) ρ s = some (.d (.bool false), s1) := by rw [ev_and, h]
theorem and_t {C : Call} {a c : E} {ρ : Env} {s s1 : Store} {o : Option (R × Store)} (h : evE C a ρ s = some (.d (.bool true), s1)) (h2 : evE C c ρ s1 = o) : evE C (.and a c) ρ s = o := by rw [ev_and, h]; exact h2
section
variable {Cl : Call} (H : HAll Cl)
variable {a0 a1 a2 a3 a4 a5 a6 a7 a8 a9 a10 a11 a12 a13 a14 a15 a16 a17 : Option R} {p : Int}
include H
theorem s7_ok (hp : p ∈ primes) (P : List D) (hP : PoolAt P) (X : Store) : ∃ x P', PoolAt P' ∧ 0 ≤ x ∧ x < p ∧
    exS Cl 1000000 ls7 (eW a0 (some (.loc 0)) (some (.d (.int p))) a3 a4 a5 a6 a7 a8 a9 a10 a11 a12 a13 a14 a15 a16 a17) (.lst P :: X) = some (.nx (eW a0 (some (.loc 0)) (some (.d (.int p))) a3 a4 a5 (some (.d (.int x))) a7 a8 a9 a10 a11 a12 a13 a14 a15 a16 a17) (.lst P' :: X)) := by
  have hb0 := pr_bd p hp
  obtain ⟨x, P', h1, h2, h3, h4⟩ := H.draw P X p hP (by omega) (by omega)
  exact ⟨x, P', h1, h2, h3, asg_of ((call2 (s1 := .lst P :: X) (s2 := .lst P :: X) (va := .loc 0) (vb := .d (.int p)) (by simp [ev_var]) (by simp [ev_var])).trans h4) rfl⟩
theorem s8_ok (hp : p ∈ primes) (a b q : List Int) (x : Int) (hx0 : 0 ≤ x) (hx1 : x < p) (hna : Nf p a) (hnb : Nf p b) (ha : a.length < 100) (hb : b.length < 100) (hq : Nf p q) (hqc : ∀ n, co q n = act a (co b) n % p) (hql : q.length < 1000) (S : Store) :
    exS Cl 1000000 ls8 (eW a0 a1 (some (.d (.int p))) a3 a4 (some (.d (tI q))) (some (.d (.int x))) a7 a8 (some (.d (tI a))) (some (.d (tI b))) a11 a12 a13 a14 a15 a16 a17) S = some (.nx (eW a0 a1 (some (.d (.int p))) a3 a4 (some (.d (tI q))) (some (.d (.int x))) a7 a8 (some (.d (tI a))) (some (.d (tI b))) a11 a12 a13 a14 a15 a16 a17) S) := by
  have hb0 := pr_bd p hp
  have hp0 : 0 < p := by omega
  generalize hρ : eW a0 a1 (some (.d (.int p))) a3 a4 (some (.d (tI q))) (some (.d (.int x))) a7 a8 (some (.d (tI a))) (some (.d (tI b))) a11 a12 a13 a14 a15 a16 a17 = ρ
  have v2 : ∀ s, evE Cl (.var 2) ρ s = some (.d (.int p), s) := fun s => by subst hρ; simp [ev_var]
  have v9 : ∀ s, evE Cl (.var 9) ρ s = some (.d (tI a), s) := fun s => by subst hρ; simp [ev_var]
  have v10 : ∀ s, evE Cl (.var 10) ρ s = some (.d (tI b), s) := fun s => by subst hρ; simp [ev_var]
  have v5 : ∀ s, evE Cl (.var 5) ρ s = some (.d (tI q), s) := fun s => by subst hρ; simp [ev_var]
  have v6 : ∀ s, evE Cl (.var 6) ρ s = some (.d (.int x), s) := fun s => by subst hρ; simp [ev_var]
  have hA : 0 ≤ hv x a % p ∧ hv x a % p < p := ⟨Int.emod_nonneg _ (by omega), Int.emod_lt_of_pos _ hp0⟩
  have hsA : smI (hv x a % p) = true := smI_of hA.1 (by omega)
  have f1 := (call3 (v2 S) (v9 S) (v6 S)).trans (H.at_ p x a S hp hx0 hx1 hna (by omega))
  have f2 := (call3 (v2 S) (v5 S) (v6 S)).trans (H.at_ p x q S hp hx0 hx1 hq hql)
  have g1 := (call3 (v2 S) (v9 S) (v6 S)).trans (H.val p x a S hp hx0 hx1 hna (by omega))
  have g2 := (call3 (v2 S) (v10 S) (v6 S)).trans (H.val p x b S hp hx0 hx1 hnb (by omega))
  have g3 : evE Cl (.bin .mul (.call 18 (.cons (.var 2) (.cons (.var 9) (.cons (.var 6) .nil)))) (.call 18 (.cons (.var 2) (.cons (.var 10) (.cons (.var 6) .nil))))) ρ S = some (.d (.int (hv x a % p * (hv x b % p))), S) :=
    bin_of g1 g2 rfl rfl (by rw [bin_int, binI_mulL hsA])
  have g4 : evE Cl (.bin .mod (.b1 .int (.bin .mul (.call 18 (.cons (.var 2) (.cons (.var 9) (.cons (.var 6) .nil)))) (.call 18 (.cons (.var 2) (.cons (.var 10) (.cons (.var 6) .nil)))))) (.var 2)) ρ S = some (.d (.int (hv x a % p * (hv x b % p) % p)), S) :=
    bin_of (b1_of g3 rfl rfl) (v2 S) rfl rfl (by rw [bin_int, binI_mod hp0])
  have eq : hv x q % p = hv x a % p * (hv x b % p) % p := by
    have h := hv_prod (p := p) (x := x) (a := a) (b := b) (c := q) (fun n => by
      rw [hqc]
      have := Int.mul_ediv_add_emod (act a (co b) n) p
      generalize act a (co b) n / p = z at this
      exact ⟨-z, by grind⟩)
    rw [← Int.mul_emod]
    exact Int.emod_eq_emod_iff_emod_sub_eq_zero.mpr (Int.emod_eq_zero_of_dvd h)
  rw [← eq] at g4
  have e3 := (call2 (lst2 H f1 f2) (lst2 H g1 g4)).trans (H.same _ S (.inr ⟨_, .inr rfl, by simp, fun z hz => by
    rcases List.mem_cons.mp hz with rfl | hz
    · exact .inl ⟨_, rfl⟩
    · rw [List.mem_singleton.mp hz]; exact .inl ⟨_, rfl⟩⟩))
  exact (if_f (not_of e3)).trans (exs_nil _ _ _ _)
/-- rests -/
theorem s9_ok (hp : p ∈ primes) (a b c : List Int) (hna : Nf p a) (hnb : Nf p b) (hnc : Nf p c) (ha : a.length < 100) (hb : b.length < 100) (hc : c.length < 100) (S : Store) : ∃ a12',
    exS Cl 1000000 ls9 (eW a0 a1 (some (.d (.int p))) a3 a4 a5 a6 a7 a8 (some (.d (tI a))) (some (.d (tI b))) (some (.d (tI c))) a12 a13 a14 a15 a16 a17) S = some (.nx (eW a0 a1 (some (.d (.int p))) a3 a4 a5 a6 a7 a8 (some (.d (tI a))) (some (.d (tI b))) (some (.d (tI c))) a12' a13 a14 a15 a16 a17) S) := by
  have hb0 := pr_bd p hp
  have hp0 : 0 < p := by omega
  by_cases h : c = []
  · refine ⟨a12, ?_⟩
    refine (if_f (cmp_of (s1 := S) (ra := .d (tI c)) (rb := .d (tI [])) (by simp [ev_var]) (by rw [ev_tup, evs_nil]; rfl) rfl rfl (by rw [ne_tI, h]; rfl))).trans (exs_nil _ _ _ _)
  · obtain ⟨r, r1, r2, r3, r4⟩ := H.rest p a c S hp hna hnc h (by omega) (by omega)
    refine ⟨some (.d (tI r)), ?_⟩
    refine (if_t (s1 := S) (cmp_of (s1 := S) (ra := .d (tI c)) (rb := .d (tI [])) (by simp [ev_var]) (by rw [ev_tup, evs_nil]; rfl) rfl rfl (by rw [ne_tI, decide_eq_false h]; rfl))).trans ?_
    refine (nx_of (asg_of (ρ' := eW a0 a1 (some (.d (.int p))) a3 a4 a5 a6 a7 a8 (some (.d (tI a))) (some (.d (tI b))) (some (.d (tI c))) (some (.d (tI r))) a13 a14 a15 a16 a17) ((call3 (s1 := S) (s2 := S) (s3 := S) (va := .d (.int p)) (vb := .d (tI a)) (vc := .d (tI c)) (by simp [ev_var]) (by simp [ev_var]) (by simp [ev_var])).trans r1) rfl)).trans ?_
    generalize hρ : eW a0 a1 (some (.d (.int p))) a3 a4 a5 a6 a7 a8 (some (.d (tI a))) (some (.d (tI b))) (some (.d (tI c))) (some (.d (tI r))) a13 a14 a15 a16 a17 = ρ
    have v2 : ∀ s, evE Cl (.var 2) ρ s = some (.d (.int p), s) := fun s => by subst hρ; simp [ev_var]
    have v9 : ∀ s, evE Cl (.var 9) ρ s = some (.d (tI a), s) := fun s => by subst hρ; simp [ev_var]
    have v10 : ∀ s, evE Cl (.var 10) ρ s = some (.d (tI b), s) := fun s => by subst hρ; simp [ev_var]
    have v11 : ∀ s, evE Cl (.var 11) ρ s = some (.d (tI c), s) := fun s => by subst hρ; simp [ev_var]
    have v12 : ∀ s, evE Cl (.var 12) ρ s = some (.d (tI r), s) := fun s => by subst hρ; simp [ev_var]
    have vn : ∀ s, evE Cl (.tup .nil) ρ s = some (.d (tI []), s) := fun s => by rw [ev_tup, evs_nil]; rfl
    -- the negated rest
    have e1 : evE Cl (.comp (.name 17) [17] (.seq (.var 12)) false (.bl true) (.bin .mod (.b1 .int (.bin .sub (.int 0) (.var 17))) (.var 2))) ρ S = some (.d (lI (r.map fun n => (0 - n) % p)), S) := by
      subst hρ
      refine ev_compI (J := .seq (.d (tI r)) r.length) r (fun n => (0 - n) % p) ?_ rfl (by omega) (fun i acc hi => rfl) (fun acc => seq_fin rfl rfl (Nat.le_of_eq (iL_len r))) (fun x hx acc => ?_)
      · simp [ev_var, ev_glob, ev_int, ev_bl, ev_non, ev_str, ev_bin, ev_neg, ev_not, ev_and, ev_or, ev_cmp, ev_chain, ev_ite, ev_ix, ev_slo, ev_shi, ev_rev, ev_tup, ev_lst, ev_b1, ev_b2, ev_isi, ev_call, evs_nil, evs_cons, evi_rng1, evi_rng2, evi_rng3, evi_seq, evi_zip, ex_asg, ex_thaw, ex_par, ex_aug, ex_seti, ex_augi, ex_if_, ex_ret, ex_app, ex_ext, ex_pop, ex_pass, exs_nil, exs_cons, ex_for_, ex_whl, ev_comp, binI_add, binI_sub, binI_mulL, binI_mulR, binI_div, binI_mod, bin_int, cmp_int, cmpI_eq, cmpI_ne, cmpI_lt, cmpI_le, cmpI_gt, cmpI_ge, view_d, viewS_d, viewS_scr, b1_len_list, b1_len_tuple, b1_int_int, b1_tuple_list, b1_list_list, b1_list_tuple, ix_list, ix_tuple, asg_name, asg_tupT, asg_tupL, asgs_nil, asgs_cons, back_rt, back_nx, st_F, te_W, bd_W, st_C0, st_C1, wipe_nil, wipe_cons, sets_nil, sets_cons, pures_nil, pures_cons, rng_n, seq_n, rng_get, seq_list, seq_tuple, seq_getT, seq_getL, seq_getS, rng_fin, start_eq, iL_len, iL_snoc, iL_nil]
      · simp [ev_var, ev_glob, ev_int, ev_bl, ev_non, ev_str, ev_bin, ev_neg, ev_not, ev_and, ev_or, ev_cmp, ev_chain, ev_ite, ev_ix, ev_slo, ev_shi, ev_rev, ev_tup, ev_lst, ev_b1, ev_b2, ev_isi, ev_call, evs_nil, evs_cons, evi_rng1, evi_rng2, evi_rng3, evi_seq, evi_zip, ex_asg, ex_thaw, ex_par, ex_aug, ex_seti, ex_augi, ex_if_, ex_ret, ex_app, ex_ext, ex_pop, ex_pass, exs_nil, exs_cons, ex_for_, ex_whl, ev_comp, binI_add, binI_sub, binI_mulL, binI_mulR, binI_div, binI_mod, bin_int, cmp_int, cmpI_eq, cmpI_ne, cmpI_lt, cmpI_le, cmpI_gt, cmpI_ge, view_d, viewS_d, viewS_scr, b1_len_list, b1_len_tuple, b1_int_int, b1_tuple_list, b1_list_list, b1_list_tuple, ix_list, ix_tuple, asg_name, asg_tupT, asg_tupL, asgs_nil, asgs_cons, back_rt, back_nx, st_F, te_W, bd_W, st_C0, st_C1, wipe_nil, wipe_cons, sets_nil, sets_cons, pures_nil, pures_cons, rng_n, seq_n, rng_get, seq_list, seq_tuple, seq_getT, seq_getL, seq_getS, rng_fin, start_eq, iL_len, iL_snoc, iL_nil, hp0]
    have hneg : ∀ n, co (r.map fun n => (0 - n) % p) n = (0 - co r n) % p := fun n => by
      simp only [co, List.getD_eq_getElem?_getD, List.getElem?_map]
      cases r[n]? <;> simp
    obtain ⟨s, s1, s2, s3, s4⟩ := H.sum p a (r.map fun n => (0 - n) % p) S hp0 (by omega) (by rw [List.length_map]; omega)
    rw [List.length_map] at s4
    obtain ⟨t, t1, t2, t3, t4⟩ := H.rest p s c S hp s2 hnc h (by omega) (by omega)
    have et : t = [] := rest_one hp0 (mates hp) hnc t2 Nf.nil t3 (by have := List.length_pos_iff.mpr h; simpa using this) t4 (r4.congr fun n => by
      rw [s3, hneg]
      have k1 := Int.mul_ediv_add_emod (co a n + (0 - co r n) % p) p
      have k2 := Int.mul_ediv_add_emod (0 - co r n) p
      generalize (co a n + (0 - co r n) % p) / p = z1 at k1
      generalize (0 - co r n) / p = z2 at k2
      have k3 : co [] n = 0 := rfl
      exact ⟨-z1 - z2, by grind⟩)
    subst et
    have f1 := (call3 (v2 S) ((call3 (v2 S) (v9 S) (b1_of (f := .tuple) (z := tI (r.map fun n => (0 - n) % p)) e1 rfl rfl)).trans s1) (v11 S)).trans t1
    have f2 := cmp_of (o := .ne) f1 (vn S) rfl rfl (ne_tI [] [])
    have f3 : evE Cl (.cmp .ge (.b1 .len (.var 12)) (.b1 .len (.var 11))) ρ S = some (.d (.bool false), S) := by
      refine cmp_of (b1_of (v12 S) rfl (b1_len_tuple _)) (b1_of (v11 S) rfl (b1_len_tuple _)) rfl rfl ?_
      rw [cmp_int, cmpI_ge, iL_len, iL_len, decide_eq_false (by omega)]
    refine (nx_of ((if_f ((ev_or _ _ _ _ _).trans (by rw [f3]; exact f2))).trans (exs_nil _ _ _ _))).trans ?_
    obtain ⟨m, m1, m2, m3, m4⟩ := H.mul p b c S hp hnb (by omega) (by omega)
    obtain ⟨w, w1, w2, w3, w4⟩ := H.sum p m r S hp0 (by omega) (by omega)
    obtain ⟨u, u1, u2, u3, u4⟩ := H.rest p w c S hp w2 hnc h (by omega) (by omega)
    have eu : u = r := rest_one hp0 (mates hp) hnc u2 r2 u3 r3 u4 ((Mu.act b c).congr fun n => by
      rw [w3, m3]
      have k1 := Int.mul_ediv_add_emod (act b (co c) n % p + co r n) p
      have k2 := Int.mul_ediv_add_emod (act b (co c) n) p
      generalize (act b (co c) n % p + co r n) / p = z1 at k1
      generalize act b (co c) n / p = z2 at k2
      exact ⟨-z1 - z2, by grind⟩)
    subst eu
    obtain ⟨y, y1, y2, y3, y4⟩ := H.rest p u c S hp r2 hnc h (by omega) (by omega)
    have ey : y = u := rest_one hp0 (mates hp) hnc y2 r2 y3 r3 y4 (.zero fun n => ⟨0, by omega⟩)
    subst ey
    have g1 := (call3 (v2 S) ((call3 (v2 S) ((call3 (v2 S) (v10 S) (v11 S)).trans m1) (v12 S)).trans w1) (v11 S)).trans u1
    have g2 := cmp_of (o := .ne) g1 (v12 S) rfl rfl (ne_tI y y)
    have g3 := cmp_of (o := .ne) ((call3 (v2 S) (v12 S) (v11 S)).trans y1) (v12 S) rfl rfl (ne_tI y y)
    rw [decide_eq_true rfl] at g2 g3
    exact (nx_of ((if_f ((ev_or _ _ _ _ _).trans (by rw [g2]; exact g3))).trans (exs_nil _ _ _ _))).trans (exs_nil _ _ _ _)
end
end LAW
end
section
namespace LAW
open PC PC.PM
theorem par2 {C : Call} {W : Nat} {i j : Nat} {x y : E} {u v : R} {ρ ρ' : Env} {s s1 s2 : Store} (h1 : evE C x ρ s = some (u, s1)) (h2 : evE C y ρ s1 = some (v, s2)) (h3 : (ρ.set i (some u)).set j (some v) = ρ') : exS C W (.par [i, j] (.cons x (.cons y .nil))) ρ s = some (.nx ρ' s2) := by
  rw [ex_par, evs_cons, h1]
  simp only []
  rw [evs_cons, h2, ← h3]
  rfl
theorem filt (n : Nat) (c : Int → Bool) : (rg n).filterMap (fun k => if c k = true then some (PySem.PyData.int k) else none) = iL ((rg n).filter c) := by
  generalize rg n = l
  induction l with
  | nil => rfl
  | cons a l ih =>
    by_cases h : c a = true
    · simp [h, iL_cons, ih]
    · simp [h, ih]
section
variable {Cl : Call} (H : HAll Cl)
variable {a0 a1 a2 a3 a4 a5 a6 a7 a8 a9 a10 a11 a12 a13 a14 a15 a16 a17 : Option R} {p : Int}
include H
/-- from the two products on -/
theorem tail_ok (hp : p ∈ primes) (a b c : List Int) (hna : Nf p a) (hnb : Nf p b) (hnc : Nf p c) (ha : a.length < 100) (hb : b.length < 100) (hc : c.length < 100) (S : Store) :
    exSs Cl 1000000 (.cons ls10 (.cons ls11 (.cons ls12 (.cons ls13 (.cons ls14 (.cons ls15 (.cons ls16 .nil))))))) (eW a0 a1 (some (.d (.int p))) a3 a4 a5 a6 a7 a8 (some (.d (tI a))) (some (.d (tI b))) (some (.d (tI c))) a12 a13 a14 a15 a16 a17) S = some (.rt (.d (.bool true)) S) := by
  have hb0 := pr_bd p hp
  have hp0 : 0 < p := by omega
  obtain ⟨l, l1, l2, l3, l4⟩ := H.mul p a c S hp hna (by omega) (by omega)
  obtain ⟨r, r1, r2, r3, r4⟩ := H.mul p b c S hp hnb (by omega) (by omega)
  obtain ⟨g, g1, sg⟩ := H.shd p l r S hp l2 r2 (by omega) (by omega)
  have ml : Mu p c (co l) := (Mu.act a c).congr fun n => by
    rw [l3]
    have := Int.mul_ediv_add_emod (act a (co c) n) p
    generalize act a (co c) n / p = z at this
    exact ⟨-z, by grind⟩
  have mr : Mu p c (co r) := (Mu.act b c).congr fun n => by
    rw [r3]
    have := Int.mul_ediv_add_emod (act b (co c) n) p
    generalize act b (co c) n / p = z at this
    exact ⟨-z, by grind⟩
  have mg : Mu p c (co g) := sg.in_.mono fun f hf => by
    rcases hf with rfl | rfl
    · exact ml
    · exact mr
  refine (nx_of (par2 (s1 := S) (s2 := S) (ρ' := eW a0 a1 (some (.d (.int p))) a3 a4 a5 a6 a7 a8 (some (.d (tI a))) (some (.d (tI b))) (some (.d (tI c))) a12 (some (.d (tI l))) (some (.d (tI r))) a15 a16 a17)
    ((call3 (s1 := S) (s2 := S) (s3 := S) (va := .d (.int p)) (vb := .d (tI a)) (vc := .d (tI c)) (by simp [ev_var]) (by simp [ev_var]) (by simp [ev_var])).trans l1)
    ((call3 (s1 := S) (s2 := S) (s3 := S) (va := .d (.int p)) (vb := .d (tI b)) (vc := .d (tI c)) (by simp [ev_var]) (by simp [ev_var]) (by simp [ev_var])).trans r1) rfl)).trans ?_
  refine (nx_of (asg_of (s1 := S) (r := .d (tI g)) (ρ' := eW a0 a1 (some (.d (.int p))) a3 a4 a5 a6 (some (.d (tI g))) a8 (some (.d (tI a))) (some (.d (tI b))) (some (.d (tI c))) a12 (some (.d (tI l))) (some (.d (tI r))) a15 a16 a17)
    ((call3 (s1 := S) (s2 := S) (s3 := S) (va := .d (.int p)) (vb := .d (tI l)) (vc := .d (tI r)) (by simp [ev_var]) (by simp [ev_var]) (by simp [ev_var])).trans g1) rfl)).trans ?_
  have key : ∀ (b8 : Option R) (ρ : Env), ρ = eW a0 a1 (some (.d (.int p))) a3 a4 a5 a6 (some (.d (tI g))) b8 (some (.d (tI a))) (some (.d (tI b))) (some (.d (tI c))) a12 (some (.d (tI l))) (some (.d (tI r))) a15 a16 a17 →
      (∀ s, evE Cl (.var 2) ρ s = some (.d (.int p), s)) ∧ (∀ s, evE Cl (.var 7) ρ s = some (.d (tI g), s)) ∧ (∀ s, evE Cl (.var 11) ρ s = some (.d (tI c), s)) ∧ (∀ s, evE Cl (.var 13) ρ s = some (.d (tI l), s)) ∧ (∀ s, evE Cl (.var 14) ρ s = some (.d (tI r), s)) := fun b8 ρ e => by
    subst e
    exact ⟨fun s => by simp [ev_var], fun s => by simp [ev_var], fun s => by simp [ev_var], fun s => by simp [ev_var], fun s => by simp [ev_var]⟩
  have vn : ∀ (ρ : Env) s, evE Cl (.tup .nil) ρ s = some (.d (tI []), s) := fun ρ s => by rw [ev_tup, evs_nil]; rfl
  generalize hρ : eW a0 a1 (some (.d (.int p))) a3 a4 a5 a6 (some (.d (tI g))) a8 (some (.d (tI a))) (some (.d (tI b))) (some (.d (tI c))) a12 (some (.d (tI l))) (some (.d (tI r))) a15 a16 a17 = ρ
  obtain ⟨v2, v7, v11, v13, v14⟩ := key a8 ρ hρ.symm
  have q1 := cmp_of (o := .eq) (v13 S) (vn ρ S) rfl rfl (eq_tI l [])
  have q2 := cmp_of (o := .eq) (v14 S) (vn ρ S) rfl rfl (eq_tI r [])
  by_cases hnil : l = [] ∧ r = []
  · obtain ⟨hl, hr⟩ := hnil
    have hg : g = [] := Mu.nil hp0 sg.nf (sg.in_.mono fun h hh => by
      rcases hh with rfl | rfl
      · rw [hl]; exact Mu.self []
      · rw [hr]; exact Mu.self [])
    rw [decide_eq_true hl] at q1
    rw [decide_eq_true hr] at q2
    have q3 := cmp_of (o := .eq) (v7 S) (vn ρ S) rfl rfl (eq_tI g [])
    rw [decide_eq_true hg] at q3
    exact rt_of ((if_t (and_t q1 q2)).trans (rt_of (ret_of q3)))
  · have hgn : g ≠ [] := fun hg => by
      subst hg
      exact hnil ⟨Mu.nil hp0 l2 sg.one, Mu.nil hp0 r2 sg.two⟩
    have q3 : evE Cl (.and (.cmp .eq (.var 13) (.tup .nil)) (.cmp .eq (.var 14) (.tup .nil))) ρ S = some (.d (.bool false), S) := by
      by_cases hl : l = []
      · have hr : r ≠ [] := fun h => hnil ⟨hl, h⟩
        rw [decide_eq_true hl] at q1
        rw [decide_eq_false hr] at q2
        exact and_t q1 q2
      · rw [decide_eq_false hl] at q1
        exact and_f q1
    refine (nx_of ((if_f q3).trans (exs_nil _ _ _ _))).trans ?_
    have hm := mates hp
    have gpos := List.length_pos_iff.mpr hgn
    -- the top is one; it goes into both; the third goes into it
    obtain ⟨t, t1, t2, t3, t4⟩ := H.rest p l g S hp l2 sg.nf hgn (by omega) sg.len
    have et : t = [] := rest_one hp0 hm sg.nf t2 Nf.nil t3 (by simpa using gpos) t4 (sg.one.congr fun n => ⟨0, by have : co [] n = 0 := rfl; omega⟩)
    obtain ⟨u, u1, u2, u3, u4⟩ := H.rest p r g S hp r2 sg.nf hgn (by omega) sg.len
    have eu : u = [] := rest_one hp0 hm sg.nf u2 Nf.nil u3 (by simpa using gpos) u4 (sg.two.congr fun n => ⟨0, by have : co [] n = 0 := rfl; omega⟩)
    subst et eu
    have w1 : evE Cl (.cmp .ne (.ix (.var 7) (.neg (.int 1))) (.int 1)) ρ S = some (.d (.bool false), S) := by
      refine cmp_of (s1 := S) (ra := .d (.int (co g (g.length - 1)))) (rb := .d (.int 1)) (ix_of (rb := .d (.int (-1))) (v7 S) (s2 := S) (by simp [ev_var, ev_glob, ev_int, ev_bl, ev_non, ev_str, ev_bin, ev_neg, ev_not, ev_and, ev_or, ev_cmp, ev_chain, ev_ite, ev_ix, ev_slo, ev_shi, ev_rev, ev_tup, ev_lst, ev_b1, ev_b2, ev_isi, ev_call, evs_nil, evs_cons, evi_rng1, evi_rng2, evi_rng3, evi_seq, evi_zip, ex_asg, ex_thaw, ex_par, ex_aug, ex_seti, ex_augi, ex_if_, ex_ret, ex_app, ex_ext, ex_pop, ex_pass, exs_nil, exs_cons, ex_for_, ex_whl, ev_comp, binI_add, binI_sub, binI_mulL, binI_mulR, binI_div, binI_mod, bin_int, cmp_int, cmpI_eq, cmpI_ne, cmpI_lt, cmpI_le, cmpI_gt, cmpI_ge, view_d, viewS_d, viewS_scr, b1_len_list, b1_len_tuple, b1_int_int, b1_tuple_list, b1_list_list, b1_list_tuple, ix_list, ix_tuple, asg_name, asg_tupT, asg_tupL, asgs_nil, asgs_cons, back_rt, back_nx, st_F, te_W, bd_W, st_C0, st_C1, wipe_nil, wipe_cons, sets_nil, sets_cons, pures_nil, pures_cons, rng_n, seq_n, rng_get, seq_list, seq_tuple, seq_getT, seq_getL, seq_getS, rng_fin, start_eq, iL_len, iL_snoc, iL_nil]) rfl rfl (atI_top hgn)) (by simp [ev_int]) rfl rfl ?_
      rw [sg.top hgn]
      rfl
    have w2 := cmp_of (o := .ne) ((call3 (v2 S) (v13 S) (v7 S)).trans t1) (vn ρ S) rfl rfl (ne_tI [] [])
    have w3 := cmp_of (o := .ne) ((call3 (v2 S) (v14 S) (v7 S)).trans u1) (vn ρ S) rfl rfl (ne_tI [] [])
    have w4 : evE Cl (.and (.cmp .ne (.var 11) (.tup .nil)) (.cmp .ne (.call 6 (.cons (.var 2) (.cons (.var 7) (.cons (.var 11) .nil)))) (.tup .nil))) ρ S = some (.d (.bool false), S) := by
      by_cases h : c = []
      · have := cmp_of (o := .ne) (v11 S) (vn ρ S) rfl rfl (ne_tI c [])
        rw [decide_eq_true h] at this
        exact and_f this
      · have k0 := cmp_of (o := .ne) (v11 S) (vn ρ S) rfl rfl (ne_tI c [])
        rw [decide_eq_false h] at k0
        obtain ⟨y, y1, y2, y3, y4⟩ := H.rest p g c S hp sg.nf hnc h sg.len (by omega)
        have ey : y = [] := rest_one hp0 hm hnc y2 Nf.nil y3 (by simpa using List.length_pos_iff.mpr h) y4 (mg.congr fun n => ⟨0, by have : co [] n = 0 := rfl; omega⟩)
        subst ey
        exact and_t k0 (cmp_of (o := .ne) ((call3 (v2 S) (v7 S) (v11 S)).trans y1) (vn ρ S) rfl rfl (ne_tI [] []))
    refine (nx_of ((if_f (or_f w1 (or_f w2 (or_f w3 w4)))).trans (exs_nil _ _ _ _))).trans ?_
    -- common roots
    have pn : p = ((p.toNat : Nat) : Int) := by omega
    have hr0 : rngOk p = true := by rw [pn]; exact rngOk_nat (by omega)
    have root : ∀ k : Int, (p ∣ hv k g) ↔ (p ∣ hv k l ∧ p ∣ hv k r) := fun k => by
      constructor
      · intro h
        have hr : Root p k (co g) := (root_co g).mpr h
        have all : ∀ f, f = co g → Root p k f := fun f e => e ▸ hr
        exact ⟨(root_co l).mp (Root.id all sg.one), (root_co r).mp (Root.id all sg.two)⟩
      · rintro ⟨h1, h2⟩
        refine (root_co g).mp (Root.id (fun f hf => ?_) sg.in_)
        rcases hf with rfl | rfl
        · exact (root_co l).mpr h1
        · exact (root_co r).mpr h2
    have dz : ∀ z : Int, (z % p = 0) ↔ p ∣ z := fun z => ⟨Int.dvd_of_emod_eq_zero, Int.emod_eq_zero_of_dvd⟩
    have comp : ∀ (b8 : Option R) (cnd : E), (∀ (k : Int) (s : Store), 0 ≤ k → k < p → evE Cl cnd (eW a0 a1 (some (.d (.int p))) a3 a4 a5 a6 (some (.d (tI g))) b8 (some (.d (tI a))) (some (.d (tI b))) (some (.d (tI c))) a12 (some (.d (tI l))) (some (.d (tI r))) a15 (some (.d (.int k))) a17) s = some (.d (.bool (decide (p ∣ hv k g))), s)) →
        evE Cl (.comp (.name 16) [16] (.rng1 (.var 2)) true cnd (.var 16)) (eW a0 a1 (some (.d (.int p))) a3 a4 a5 a6 (some (.d (tI g))) b8 (some (.d (tI a))) (some (.d (tI b))) (some (.d (tI c))) a12 (some (.d (tI l))) (some (.d (tI r))) a15 a16 a17) S = some (.d (lI ((rg p.toNat).filter fun k => decide (p ∣ hv k g))), S) := fun b8 cnd hc => by
      have e1 := ev_compF (C := Cl) (g := .name 16) (vs := [16]) (it := .rng1 (.var 2)) (hc := true) (c := cnd) (e := .var 16) (ρ := eW a0 a1 (some (.d (.int p))) a3 a4 a5 a6 (some (.d (tI g))) b8 (some (.d (tI a))) (some (.d (tI b))) (some (.d (tI c))) a12 (some (.d (tI l))) (some (.d (tI r))) a15 a16 a17) (s := S) (s1 := S) (J := .rng 0 1 p.toNat) (rg p.toNat) (fun k => if decide (p ∣ hv k g) = true then some (PySem.PyData.int k) else none) (by simp [ev_var, ev_glob, ev_int, ev_bl, ev_non, ev_str, ev_bin, ev_neg, ev_not, ev_and, ev_or, ev_cmp, ev_chain, ev_ite, ev_ix, ev_slo, ev_shi, ev_rev, ev_tup, ev_lst, ev_b1, ev_b2, ev_isi, ev_call, evs_nil, evs_cons, evi_rng1, evi_rng2, evi_rng3, evi_seq, evi_zip, ex_asg, ex_thaw, ex_par, ex_aug, ex_seti, ex_augi, ex_if_, ex_ret, ex_app, ex_ext, ex_pop, ex_pass, exs_nil, exs_cons, ex_for_, ex_whl, ev_comp, binI_add, binI_sub, binI_mulL, binI_mulR, binI_div, binI_mod, bin_int, cmp_int, cmpI_eq, cmpI_ne, cmpI_lt, cmpI_le, cmpI_gt, cmpI_ge, view_d, viewS_d, viewS_scr, b1_len_list, b1_len_tuple, b1_int_int, b1_tuple_list, b1_list_list, b1_list_tuple, ix_list, ix_tuple, asg_name, asg_tupT, asg_tupL, asgs_nil, asgs_cons, back_rt, back_nx, st_F, te_W, bd_W, st_C0, st_C1, wipe_nil, wipe_cons, sets_nil, sets_cons, pures_nil, pures_cons, rng_n, seq_n, rng_get, seq_list, seq_tuple, seq_getT, seq_getL, seq_getS, rng_fin, start_eq, iL_len, iL_snoc, iL_nil, hr0]) (rg_len _).symm (by rw [rg_len]; omega) (fun i acc hi => rg_get _ _ _ (by rwa [rg_len] at hi)) (fun acc => rfl) (fun y hy acc => by
        obtain ⟨i, hi, rfl⟩ := rg_mem hy
        rw [st_C1, asg_name]
        simp only [wipe_cons, wipe_nil, List.set]
        have hc' := hc (i : Nat) (S ++ [Cell.lst acc]) (by omega) (by omega)
        rw [hc']
        by_cases h : p ∣ hv (i : Nat) g
        · simp [h, ev_var]
        · simp [h])
      rw [e1, filt]
    have c1 := comp a8 (.and (.cmp .eq (.call 18 (.cons (.var 2) (.cons (.var 13) (.cons (.var 16) .nil)))) (.int 0)) (.cmp .eq (.call 18 (.cons (.var 2) (.cons (.var 14) (.cons (.var 16) .nil)))) (.int 0))) (fun k s k0 k1 => by
      have x1 := cmp_of (o := .eq) ((call3 (C := Cl) (f := 18) (a := .var 2) (b := .var 13) (c := .var 16) (ρ := eW a0 a1 (some (.d (.int p))) a3 a4 a5 a6 (some (.d (tI g))) a8 (some (.d (tI a))) (some (.d (tI b))) (some (.d (tI c))) a12 (some (.d (tI l))) (some (.d (tI r))) a15 (some (.d (.int k))) a17) (s := s) (s1 := s) (s2 := s) (s3 := s) (va := .d (.int p)) (vb := .d (tI l)) (vc := .d (.int k)) (by simp [ev_var]) (by simp [ev_var]) (by simp [ev_var])).trans (H.val p k l s hp k0 k1 l2 (by omega))) (ev_int Cl 0 _ s) rfl rfl (cmpI_eq _ _)
      have x2 := cmp_of (o := .eq) ((call3 (C := Cl) (f := 18) (a := .var 2) (b := .var 14) (c := .var 16) (ρ := eW a0 a1 (some (.d (.int p))) a3 a4 a5 a6 (some (.d (tI g))) a8 (some (.d (tI a))) (some (.d (tI b))) (some (.d (tI c))) a12 (some (.d (tI l))) (some (.d (tI r))) a15 (some (.d (.int k))) a17) (s := s) (s1 := s) (s2 := s) (s3 := s) (va := .d (.int p)) (vb := .d (tI r)) (vc := .d (.int k)) (by simp [ev_var]) (by simp [ev_var]) (by simp [ev_var])).trans (H.val p k r s hp k0 k1 r2 (by omega))) (ev_int Cl 0 _ s) rfl rfl (cmpI_eq _ _)
      by_cases hl : p ∣ hv k l
      · rw [decide_eq_true ((dz _).mpr hl)] at x1
        by_cases hr : p ∣ hv k r
        · rw [decide_eq_true ((dz _).mpr hr)] at x2
          rw [decide_eq_true ((root k).mpr ⟨hl, hr⟩)]
          exact and_t x1 x2
        · rw [decide_eq_false (fun z => hr ((dz _).mp z))] at x2
          rw [decide_eq_false (fun z => hr ((root k).mp z).2)]
          exact and_t x1 x2
      · rw [decide_eq_false (fun z => hl ((dz _).mp z))] at x1
        rw [decide_eq_false (fun z => hl ((root k).mp z).1)]
        exact and_f x1)
    rw [hρ] at c1
    subst hρ
    refine (nx_of (asg_of (ρ' := eW a0 a1 (some (.d (.int p))) a3 a4 a5 a6 (some (.d (tI g))) (some (.d (lI ((rg p.toNat).filter fun k => decide (p ∣ hv k g))))) (some (.d (tI a))) (some (.d (tI b))) (some (.d (tI c))) a12 (some (.d (tI l))) (some (.d (tI r))) a15 a16 a17) c1 rfl)).trans ?_
    have c2 := comp (some (.d (lI ((rg p.toNat).filter fun k => decide (p ∣ hv k g))))) (.cmp .eq (.call 18 (.cons (.var 2) (.cons (.var 7) (.cons (.var 16) .nil)))) (.int 0)) (fun k s k0 k1 => by
      have x1 := cmp_of (o := .eq) ((call3 (C := Cl) (f := 18) (a := .var 2) (b := .var 7) (c := .var 16) (ρ := eW a0 a1 (some (.d (.int p))) a3 a4 a5 a6 (some (.d (tI g))) (some (.d (lI ((rg p.toNat).filter fun k => decide (p ∣ hv k g))))) (some (.d (tI a))) (some (.d (tI b))) (some (.d (tI c))) a12 (some (.d (tI l))) (some (.d (tI r))) a15 (some (.d (.int k))) a17) (s := s) (s1 := s) (s2 := s) (s3 := s) (va := .d (.int p)) (vb := .d (tI g)) (vc := .d (.int k)) (by simp [ev_var]) (by simp [ev_var]) (by simp [ev_var])).trans (H.val p k g s hp k0 k1 sg.nf sg.len)) (ev_int Cl 0 _ s) rfl rfl (cmpI_eq _ _)
      rw [x1]
      by_cases h : p ∣ hv k g
      · rw [decide_eq_true h, decide_eq_true ((dz _).mpr h)]
      · rw [decide_eq_false h, decide_eq_false (fun z => h ((dz _).mp z))])
    have c3 := cmp_of (o := .ne) c2 (C := Cl) (b := .var 8) (rb := .d (lI ((rg p.toNat).filter fun k => decide (p ∣ hv k g)))) (s2 := S) (by simp [ev_var]) rfl rfl (ne_lI _ _)
    rw [decide_eq_true rfl] at c3
    refine (nx_of ((if_f c3).trans (exs_nil _ _ _ _))).trans ?_
    obtain ⟨v2, v7, v11, v13, v14⟩ := key (some (.d (lI ((rg p.toNat).filter fun k => decide (p ∣ hv k g))))) _ rfl
    -- once more
    obtain ⟨d, d1, sd⟩ := H.shd p r l S hp r2 l2 (by omega) (by omega)
    obtain ⟨e, e1, se⟩ := H.shd p g l S hp sg.nf l2 sg.len (by omega)
    have hdn : d ≠ [] := fun h => by
      subst h
      exact hnil ⟨Mu.nil hp0 l2 sd.two, Mu.nil hp0 r2 sd.one⟩
    have hen : e ≠ [] := fun h => by
      subst h
      exact hgn (Mu.nil hp0 sg.nf se.one)
    have ed : d = g := monic_eq hp0 hm sd.nf sg.nf (sd.top hdn) (sg.top hgn) (sg.in_.mono fun f hf => by
      rcases hf with rfl | rfl
      · exact sd.two
      · exact sd.one) (sd.in_.mono fun f hf => by
      rcases hf with rfl | rfl
      · exact sg.two
      · exact sg.one)
    have ee : e = g := monic_eq hp0 hm se.nf sg.nf (se.top hen) (sg.top hgn) se.one (se.in_.mono fun f hf => by
      rcases hf with rfl | rfl
      · exact Mu.self g
      · exact sg.one)
    have z1 := cmp_of (o := .eq) ((call3 (v2 S) (v14 S) (v13 S)).trans d1) (v7 S) rfl rfl (eq_tI d g)
    have z2 := cmp_of (o := .eq) ((call3 (v2 S) (v7 S) (v13 S)).trans e1) (v7 S) rfl rfl (eq_tI e g)
    rw [decide_eq_true ed] at z1
    rw [decide_eq_true ee] at z2
    exact rt_of (ret_of (and_t z1 z2))
end
end LAW
end
section
namespace LAW
open PC PC.PM
theorem law_ok {Cl : Call} (H : HAll Cl) (ns : List Int) (h : ns.length ≤ 63) : back 0 (exSs Cl 1000000 d19.body (start d19.names.length [.scr ns]) []) = some (.d (.bool true), []) := by
  obtain ⟨P, hP, e0⟩ := H.pool ns [] h
  obtain ⟨p, P1, hP1, hp, e1⟩ := H.prime P [] hP
  have hb0 := pr_bd p hp
  let n : Option R := none
  have hst : start d19.names.length [.scr ns] = eW (some (.scr ns)) none none none none none none none none none none none none none none none none none := rfl
  obtain ⟨a, b, c, P2, hP2, ⟨na, la⟩, ⟨nb, lb⟩, ⟨nc, lc⟩, e2⟩ := s2_ok H (a0 := some (.scr ns)) (a3 := none) (a4 := none) (a5 := none) (a6 := none) (a7 := none) (a8 := none) (a9 := none) (a10 := none) (a11 := none) (a12 := none) (a13 := none) (a14 := none) (a15 := none) (a16 := none) (a17 := none) hp P1 hP1 []
  obtain ⟨m, m1, m2, m3, e3⟩ := s3_ok (Cl := Cl) (a0 := some (.scr ns)) (a1 := some (.loc 0)) (a2 := some (.d (.int p))) (a3 := none) (a4 := none) (a5 := none) (a6 := none) (a7 := none) (a8 := none) (a11 := some (.d (tI c))) (a12 := none) (a13 := none) (a14 := none) (a15 := none) (a16 := none) (a17 := none) a b (by omega) (by omega) (.lst P2 :: [])
  obtain ⟨t, t1, t2, t3, e4⟩ := s4_ok H (a0 := some (.scr ns)) (a1 := some (.loc 0)) (a4 := none) (a5 := none) (a6 := none) (a7 := none) (a8 := none) (a11 := some (.d (tI c))) (a12 := none) (a13 := none) (a14 := none) (a15 := none) (a16 := none) (a17 := none) hp a b m m1 m2 m3 (.lst P2 :: [])
  obtain ⟨q, q1, q2, q3, e5⟩ := s5_ok H (a0 := some (.scr ns)) (a1 := some (.loc 0)) (a3 := some (.d (.int (m : Nat)))) (a4 := some (.d (tI t))) (a5 := none) (a6 := none) (a7 := none) (a8 := none) (a11 := some (.d (tI c))) (a12 := none) (a13 := none) (a14 := none) (a15 := none) (a16 := none) (a17 := none) hp a b na (by omega) (by omega) (.lst P2 :: [])
  have e6 := s6_ok H (a0 := some (.scr ns)) (a1 := some (.loc 0)) (a3 := some (.d (.int (m : Nat)))) (a6 := none) (a7 := none) (a8 := none) (a11 := some (.d (tI c))) (a12 := none) (a13 := none) (a14 := none) (a15 := none) (a16 := none) (a17 := none) hp a b t q na (by omega) (by omega) t1 t2 q1 q2 (by omega) (by omega) (.lst P2 :: [])
  obtain ⟨x, P3, hP3, x0, x1, e7⟩ := s7_ok H (a0 := some (.scr ns)) (a3 := some (.d (.int (m : Nat)))) (a4 := some (.d (tI t))) (a5 := some (.d (tI q))) (a6 := none) (a7 := none) (a8 := none) (a9 := some (.d (tI a))) (a10 := some (.d (tI b))) (a11 := some (.d (tI c))) (a12 := none) (a13 := none) (a14 := none) (a15 := none) (a16 := none) (a17 := none) hp P2 hP2 []
  have e8 := s8_ok H (a0 := some (.scr ns)) (a1 := some (.loc 0)) (a3 := some (.d (.int (m : Nat)))) (a4 := some (.d (tI t))) (a7 := none) (a8 := none) (a11 := some (.d (tI c))) (a12 := none) (a13 := none) (a14 := none) (a15 := none) (a16 := none) (a17 := none) hp a b q x x0 x1 na nb (by omega) (by omega) q1 q2 (by omega) (.lst P3 :: [])
  obtain ⟨w, e9⟩ := s9_ok H (a0 := some (.scr ns)) (a1 := some (.loc 0)) (a3 := some (.d (.int (m : Nat)))) (a4 := some (.d (tI t))) (a5 := some (.d (tI q))) (a6 := some (.d (.int x))) (a7 := none) (a8 := none) (a12 := none) (a13 := none) (a14 := none) (a15 := none) (a16 := none) (a17 := none) hp a b c na nb nc (by omega) (by omega) (by omega) (.lst P3 :: [])
  have e10 := tail_ok H (a0 := some (.scr ns)) (a1 := some (.loc 0)) (a3 := some (.d (.int (m : Nat)))) (a4 := some (.d (tI t))) (a5 := some (.d (tI q))) (a6 := some (.d (.int x))) (a7 := none) (a8 := none) (a12 := w) (a13 := none) (a14 := none) (a15 := none) (a16 := none) (a17 := none) hp a b c na nb nc (by omega) (by omega) (by omega) (.lst P3 :: [])
  have f0 : exS Cl 1000000 ls0 (eW (some (.scr ns)) none none none none none none none none none none none none none none none none none) [] = some (.nx (eW (some (.scr ns)) (some (.loc 0)) none none none none none none none none none none none none none none none none) (.lst P :: [])) :=
    thaw_of ((call1 (s1 := []) (va := .scr ns) (by simp [ev_var])).trans e0)
  have f1 : exS Cl 1000000 ls1 (eW (some (.scr ns)) (some (.loc 0)) none none none none none none none none none none none none none none none none) (.lst P :: []) = some (.nx (eW (some (.scr ns)) (some (.loc 0)) (some (.d (.int p))) none none none none none none none none none none none none none none none) (.lst P1 :: [])) :=
    asg_of ((call2 (s1 := .lst P :: []) (s2 := .lst P :: []) (va := .loc 0) (vb := .d (.int 61)) (by simp [ev_var]) (by simp [ev_int])).trans e1) rfl
  rw [lbody, hst]
  exact back_of ((nx_of f0).trans ((nx_of f1).trans ((nx_of e2).trans ((nx_of e3).trans ((nx_of e4).trans ((nx_of e5).trans ((nx_of e6).trans ((nx_of e7).trans ((nx_of e8).trans ((nx_of e9).trans e10))))))))))
theorem main (ns : List Int) (h : ns.length ≤ 63) : callD T.defs 1000000 20 19 [.scr ns] [] = some (.d (.bool true), []) := by
  have e := c19 19 [.scr ns] []
  rw [show C (19 + 1) 19 [.scr ns] [] = callD T.defs 1000000 20 19 [.scr ns] [] from rfl] at e
  rw [e]
  exact (if_pos rfl).trans (law_ok (hAll 9) ns h)
end LAW
end
section
namespace LAW
open PySem PySem.Spec PyProof.Rows L2 PC
abbrev P0 : Program := PySem.Challenge.pw_curveroom_k10_whole_polynomials_of_a_pri
def top (i : Nat) : Stmt := P0.main.body.getD i (.Pass ⟨0, 0, 0, 0⟩)
def nm : List (PySem.Str × Nat) := [("inverse_of", 1), ("trimmed", 3), ("poly_sum", 4), ("poly_times", 5), ("poly_product", 6), ("divided", 7), ("poly_rest", 8), ("poly_at", 9), ("with_top_one", 10), ("shared_poly", 11), ("_law_same", 13), ("_law_pool", 14), ("_law_spread", 15), ("_law_draw", 16), ("_law_pick", 17), ("_law_prime", 18), ("_law_poly_mod", 19), ("_law_poly_mul", 20), ("_law_poly_value", 21), ("law", 22)]
theorem chk : allB T top T.defs nm = true := by decide +kernel
theorem bnd0 : BindP (top 1) := fun _ _ _ _ _ _ _ _ us hl => match us, hl with | [_, _], _ => rfl
theorem bnd1 : BindP (top 3) := fun _ _ _ _ _ _ _ _ us hl => match us, hl with | [_, _], _ => rfl
theorem bnd2 : BindP (top 4) := fun _ _ _ _ _ _ _ _ us hl => match us, hl with | [_, _, _], _ => rfl
theorem bnd3 : BindP (top 5) := fun _ _ _ _ _ _ _ _ us hl => match us, hl with | [_, _, _], _ => rfl
theorem bnd4 : BindP (top 6) := fun _ _ _ _ _ _ _ _ us hl => match us, hl with | [_, _, _], _ => rfl
theorem bnd5 : BindP (top 7) := fun _ _ _ _ _ _ _ _ us hl => match us, hl with | [_, _, _], _ => rfl
theorem bnd6 : BindP (top 8) := fun _ _ _ _ _ _ _ _ us hl => match us, hl with | [_, _, _], _ => rfl
theorem bnd7 : BindP (top 9) := fun _ _ _ _ _ _ _ _ us hl => match us, hl with | [_, _, _], _ => rfl
theorem bnd8 : BindP (top 10) := fun _ _ _ _ _ _ _ _ us hl => match us, hl with | [_, _], _ => rfl
theorem bnd9 : BindP (top 11) := fun _ _ _ _ _ _ _ _ us hl => match us, hl with | [_, _, _], _ => rfl
theorem bnd10 : BindP (top 13) := fun _ _ _ _ _ _ _ _ us hl => match us, hl with | [_, _], _ => rfl
theorem bnd11 : BindP (top 14) := fun _ _ _ _ _ _ _ _ us hl => match us, hl with | [_], _ => rfl
theorem bnd12 : BindP (top 15) := fun _ _ _ _ _ _ _ _ us hl => match us, hl with | [_], _ => rfl
theorem bnd13 : BindP (top 16) := fun _ _ _ _ _ _ _ _ us hl => match us, hl with | [_, _], _ => rfl
theorem bnd14 : BindP (top 17) := fun _ _ _ _ _ _ _ _ us hl => match us, hl with | [_, _], _ => rfl
theorem bnd15 : BindP (top 18) := fun _ _ _ _ _ _ _ _ us hl => match us, hl with | [_, _], _ => rfl
theorem bnd16 : BindP (top 19) := fun _ _ _ _ _ _ _ _ us hl => match us, hl with | [_, _], _ => rfl
theorem bnd17 : BindP (top 20) := fun _ _ _ _ _ _ _ _ us hl => match us, hl with | [_, _, _], _ => rfl
theorem bnd18 : BindP (top 21) := fun _ _ _ _ _ _ _ _ us hl => match us, hl with | [_, _, _], _ => rfl
theorem bnd19 : BindP (top 22) := fun _ _ _ _ _ _ _ _ us hl => match us, hl with | [_], _ => rfl
theorem bnds : BindAll top nm := ⟨bnd0, bnd1, bnd2, bnd3, bnd4, bnd5, bnd6, bnd7, bnd8, bnd9, bnd10, bnd11, bnd12, bnd13, bnd14, bnd15, bnd16, bnd17, bnd18, bnd19, trivial⟩
abbrev R : PySem.W.OpenRow := PySem.W.OpenLaw.row PySem.Challenge.rw_curveroom_k10_whole_polynomials_of_a_pri
def fa : List He.Fa := faOf nm
def fn : List He.DefD := nm.map (mkD top)
abbrev hk : PySem.W.Hook := hookG 4 fa fn T.globs
def ob (s : PySem.W.SharedT) : AlG := obsG 4 fa fn T.globs (HandSHeadRun.getT s)
theorem ob_eq (s : PySem.W.SharedT) : ob s = hk.obs s.abs := obsG_eq (HandSHeadRun.getT_eq s)
def loose : List PySem.Str := ["inverse_of", "trimmed", "poly_sum", "poly_times", "poly_product", "divided", "poly_rest", "poly_at", "with_top_one", "shared_poly", "_law_same", "_law_pool", "_law_spread", "_law_draw", "_law_pick", "_law_prime", "_law_poly_mod", "_law_poly_mul", "_law_poly_value"]
theorem run (w : World) : HandSHeadRun.RunEq R (PySem.W.view R.prog [22]) hk ob 20000 loose w := by
  intro os
  kernel_rfl
end LAW
end
namespace LAW
open PySem PySem.Spec PyProof.Rows L2 PC
end LAW
open PySem PySem.W PySem.Calls PyProof.Rows
theorem PySem.Challenge.cw_curveroom_k10_whole_polynomials_of_a_pri_holds : PySem.Challenge.rw_curveroom_k10_whole_polynomials_of_a_pri.Holds := by
  w_on; o_law
  refine HandSHeadRun.head_any (r := OpenLaw.row PySem.Challenge.rw_curveroom_k10_whole_polynomials_of_a_pri) (q := view (OpenLaw.row PySem.Challenge.rw_curveroom_k10_whole_polynomials_of_a_pri).prog [22]) (H := LAW.hk) (ob := LAW.ob) (M := 20000) (loose := LAW.loose) (d := HandSHeadRun.topDef (OpenLaw.row PySem.Challenge.rw_curveroom_k10_whole_polynomials_of_a_pri).prog 22) (kwd := []) LAW.ob_eq
    (by kernel_rfl) (fun s => by kernel_rfl) LAW.run (by kernel_rfl) (by kernel_rfl) (by kernel_rfl) (by rfl) (by first | assumption | decide +kernel) (by decide +kernel) ⟨rfl, rfl, rfl, rfl, rfl, by decide +kernel⟩ ?hw ?hc
  case hw => w_witness2
  case hc =>
    refine L2.walk_ofE (l := PySem.Challenge.rw_curveroom_k10_whole_polynomials_of_a_pri) (n := 63) (k := 20) (x := "script") (CX := L2.CX0) rfl (by decide) (by kernel_rfl) ⟨rfl, by decide, by decide⟩ ?F (fun _ _ _ _ z => z)
    intro w mg fa h Y G hmg0
    obtain ⟨K, KX, c⟩ := Y
    have hmg : mg ("law" : PySem.Str) = some (.ref fa) := by
      have e : (HandSHeadRun.topDef (OpenLaw.row PySem.Challenge.rw_curveroom_k10_whole_polynomials_of_a_pri).prog 22).name = ("law" : PySem.Str) := by kernel_rfl
      rw [← e]
      exact hmg0
    obtain ⟨fd, hb, hF⟩ := PC.law_of (P := (PySem.Challenge.rw_curveroom_k10_whole_polynomials_of_a_pri).prog) (w := w) (W := 1000000) (k := 20) (f := 19) KX G c LAW.chk LAW.bnds (d := LAW.d19) rfl rfl rfl hmg
    exact ⟨K, fd, _, KX, hb, fun H a ns hl hO hS => PC.sp_of hO hS (LAW.main ns hl), hF⟩
