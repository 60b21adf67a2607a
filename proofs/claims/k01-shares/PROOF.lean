import PyProof.Rows.All
import Wide.All
import OpenK.AllK
import Wide.FinOn
import KE.KStateDown
import HandS.ForMost
import HandS.Wide
import HandS.Deep
import HandS.Walk
import HandS.Zip
import HandS.TupAny
import HandS.TupMul
import HandS.SortInts
import HandS.Style
import HandS.WordsExc
import HandS.Defaults
import KE.KDictDisplayH
import KE.KDictWalk
import KE.SortData
import KE.DataMinMax
import HandS.Conv
import HandS.Lambda
import HandS.Flow
import HandS.IsInst
import HandS.Text
import HandS.ExcOwn
import HandS.More
import KE.GoesMore
import KE.GoesEnum
import KE.GoesZip
import HandS.DictComp
import HandS.SetFor
import HandS.Strs
import HandS.HeadHook4
import HandS.Head0
import HandS.Head1
import HandS.Head2
import HandS.HeadEnd
import HandS.HeadHook1
import HandS.HeadHook2
import HandS.HeadHook3
import HandS.HeadWalk
import HandS.NestedK
import PySem.Challenge.RW_oddsinfull_k01_shares_and_equations
set_option Elab.async false
set_option linter.all false
set_option maxRecDepth 100000
/-! The evaluator: a small Python over plain data. -/
namespace Q
open PySem PySem.Spec L2
open PyProof.Rows hiding St
abbrev D := PyData

/-- the tape of a law -/
structure Tp where
  cells : List Int
  pos : Nat
  left : Int
  seed : Int
  salt : Int

inductive Out (α : Type) where
  | ok (a : α) (t : Tp) | exc (c : Nat) (t : Tp) | bad
def Out.bind {α β : Type} (o : Out α) (f : α → Tp → Out β) : Out β := match o with
  | .ok a t => f a t
  | .exc c t => .exc c t
  | .bad => .bad
def Out.opt {α : Type} (o : Option α) (t : Tp) : Out α := match o with
  | some a => .ok a t
  | none => .bad

/-- no exception may leave a comprehension -/
def Out.nox {α : Type} (o : Out α) : Out α := match o with
  | .exc _ _ => .bad
  | o => o
/-- what a slot holds -/
inductive B where
  | un | val (d : D) | own (ds : List D) | owd (kb : Bool) (kvs : List (D × D)) | tape
abbrev QE := List B
def getB (env : QE) (i : Nat) : B := (env[i]?).getD .un

inductive BO where
  | add | sub | mul | fdiv | mod | shl
inductive CO where
  | lt | le | gt | ge | eq | ne | mem | nmem | is | isnt
inductive BF where
  | len | abs | int | tuple | list | any | all | sum | max2 | min2 | isTup | sorted | sortset | max1 | rg1 | str1
inductive MF where
  | get2 | index
inductive IK where
  | seq | rng1 | rng2 | enum | zip | rng3 | items

inductive TF where
  | cells | at | left | seed | salt

/-! targets -/
mutual
inductive Tg where
  | nm (i : Nat) | tp (ts : Tgs)
inductive Tgs where
  | nil | cons (t : Tg) (ts : Tgs)
end
mutual
inductive C where
  | var (i : Nat) | lit (d : D) | glo (x : Str)
  | bin (o : BO) (a b : C) | neg (a : C)
  | cmp (o : CO) (a b : C) | chain (o p : CO) (a b c : C)
  | not (a : C) | and (a b : C) | or (a b : C) | ite (t a b : C)
  | call (f : Nat) (as : Cs) | blt (f : BF) (as : Cs)
  | ix (a i : C) | slc (a : C) (lo hi : Cs)
  | lst (as : Cs) | tup (as : Cs)
  | lc (e : C) (t : Tg) (k : IK) (as : Cs) (cs : Cs) (ow : List Nat)
  | mth (m : MF) (a : C) (as : Cs)
  | tg (i : Nat) (f : TF)
  | rev (a : C) | chain3 (o p q : CO) (a b c d : C) | dget2 (a k d : C) | dgo (i : Nat) (k d : C)
  | dcp (k v : C) (t : Tg) (kd : IK) (as : Cs) (cs : Cs) (ow : List Nat)
  | dcpT (k v : C) (t : Tg) (kd : IK) (as : Cs) (cs : Cs) (ow : List Nat)
  | lc2 (e : C) (t : Tg) (kd : IK) (as : Cs) (cs : Cs) (t1 : Tg) (kd1 : IK) (as1 : Cs) (cs1 : Cs) (ow ow1 : List Nat)
  | rfs (a : C) (cs : List Nat)
inductive Cs where
  | nil | cons (a : C) (as : Cs)
end
mutual
inductive S where
  | set (i : Nat) (e : C) | setL (i : Nat) (e : C) | move (i j : Nat) | par (i j : Nat) (a b : C)
  | unp (t : Tg) (e : C) | app (i : Nat) (e : C) | ext (i : Nat) (e : C) | sub (i : Nat) (k e : C)
  | swp (i : Nat) (k1 k2 e1 e2 : C) | aug (i : Nat) (o : BO) (e : C)
  | ret (e : C) | ife (t : C) (a b : Ss) | for_ (t : Tg) (k : IK) (as : Cs) (b : Ss) | whl (t : C) (b : Ss)
  | ex (e : C) | cont | brk | pass | raise (c : Nat) | frz (i : Nat) | bad | tput (i : Nat) (f : TF) (e : C) | setD0 (i : Nat) (b : Bool) | setD (i : Nat) (ks vs : Cs) | dput (i : Nat) (k e : C)
  | try_ (b : Ss) (c : Nat) (s : Ss)
inductive Ss where
  | nil | cons (s : S) (ss : Ss)
end

/-! operations on data -/
def big (n : Nat) : Bool := Nat.ble n 16777216
def mulOk (i j : Int) : Bool := Nat.blt (i.natAbs.log2 + j.natAbs.log2) 1000000
def divOk (j : Int) : Bool := decide (0 < j) && Nat.blt j.natAbs.log2 9000
def shlOk (i j : Int) : Bool := decide (0 ≤ j) && decide (j ≤ 1000000) && Nat.blt i.natAbs 18446744073709551616
def sm62 (i : Int) : Bool := decide (-4611686018427387904 ≤ i) && decide (i < 4611686018427387904)
def grd {α : Type} (b : Bool) (x : α) : Option α := match b with
  | true => some x
  | false => none
def addD (d e : D) : Option D := match d, e with
  | .int i, .int j => some (.int (i + j))
  | .str x, .str y => grd (big (x.length + y.length)) (.str (x ++ y))
  | .list xs, .list ys => grd (big (xs.length + ys.length)) (.list (xs ++ ys))
  | .tuple xs, .tuple ys => grd (big (xs.length + ys.length)) (.tuple (xs ++ ys))
  | _, _ => none
def subD (d e : D) : Option D := match d, e with
  | .int i, .int j => some (.int (i - j))
  | _, _ => none
def repS (x : Str) (k : Int) : Str := match decide (k < 1) with
  | true => Str.empty
  | false => match k == 1 || x.length == 0 with
    | true => x
    | false => ⟨(List.replicate k.toNat x.cps).foldl (· ++ ·) #[]⟩
def mulD (d e : D) : Option D := match d, e with
  | .int i, .int j => grd (mulOk i j) (.int (i * j))
  | .str x, .int k => grd (decide (0 ≤ k) && decide (k ≤ 1000) && Nat.ble x.length 1000) (.str (repS x k))
  | .list xs, .int k => grd (sm62 k && big (xs.length * k.toNat)) (.list (List.replicate k.toNat xs).flatten)
  | .tuple xs, .int k => match decide (k = 1) with
    | true => some (.tuple xs)
    | false => grd (decide (2 ≤ k) && decide (k ≤ 1000) && Nat.ble xs.length 1000 && !xs.isEmpty) (.tuple (List.replicate k.toNat xs).flatten)
  | _, _ => none
def fdivD (d e : D) : Option D := match d, e with
  | .int i, .int j => grd (divOk j) (.int (i / j))
  | _, _ => none
def modD (d e : D) : Option D := match d, e with
  | .int i, .int j => grd (decide (0 < j)) (.int (i % j))
  | _, _ => none
def shlD (d e : D) : Option D := match d, e with
  | .int i, .int j => grd (shlOk i j) (.int (i * 2 ^ j.toNat))
  | _, _ => none
def binD : BO → D → D → Option D
  | .add => addD
  | .sub => subD
  | .mul => mulD
  | .fdiv => fdivD
  | .mod => modD
  | .shl => shlD
mutual
def noDct : D → Bool
  | .dict _ => false
  | .list xs => noDcts xs
  | .tuple xs => noDcts xs
  | _ => true
def noDcts : List D → Bool
  | [] => true
  | x :: xs => noDct x && noDcts xs
end
def eqD (d e : D) : Option Bool := match d, e with
  | .int i, .int j => some (i == j)
  | d, e => grd (SeqAt.shaped d && SeqAt.shaped e && (noDct d && noDct e)) (PyData.eqv d e)
/-- keys: ints and texts, tuples of these -/
def keyB : D → Bool
  | .int _ => true
  | .str _ => true
  | _ => false
mutual
/-- in tuples: ints, None, tuples of these -/
def kyN : D → Nat → Bool
  | .none, _ => true
  | .int _, _ => true
  | .tuple xs, n => match n with
    | 0 => false
    | n + 1 => kyNs xs n
  | _, _ => false
def kyNs : List D → Nat → Bool
  | [], _ => true
  | x :: xs, n => kyN x n && kyNs xs n
end
def keyT : D → Bool
  | .tuple xs => kyNs xs 7
  | _ => false
def keq1 : D → D → Bool
  | .int i, .int j => decide (i = j)
  | .str x, .str y => decide (x = y)
  | _, _ => false
mutual
def kqN : D → D → Bool
  | .none, e => match e with
    | .none => true
    | _ => false
  | .int i, e => match e with
    | .int j => decide (i = j)
    | _ => false
  | .tuple xs, e => match e with
    | .tuple ys => kqNs xs ys
    | _ => false
  | _, _ => false
def kqNs : List D → List D → Bool
  | [], e => match e with
    | [] => true
    | _ => false
  | x :: xs, e => match e with
    | y :: ys => kqN x y && kqNs xs ys
    | _ => false
end
def keq : D → D → Bool
  | .tuple xs, .tuple ys => kqNs xs ys
  | d, e => keq1 d e
def dget : List (D × D) → D → Option D
  | [], _ => none
  | (k, v) :: r, x => match keq k x with
    | true => some v
    | false => dget r x
def dput (kvs : List (D × D)) (x y : D) : List (D × D) := match kvs.any (fun p => keq p.1 x) with
  | true => kvs.map fun p => match keq p.1 x with
    | true => (p.1, y)
    | false => p
  | false => kvs ++ [(x, y)]
/-- ints and texts alone -/
def kindB (kvs : List (D × D)) (k : D) : Bool := keyB k && kvs.all fun p => keyB p.1
/-- tuples alone -/
def kindT (kvs : List (D × D)) (k : D) : Bool := keyT k && kvs.all fun p => keyT p.1
def kindD (kvs : List (D × D)) (k : D) : Bool := kindB kvs k || kindT kvs k
def memD (d e : D) : Option Bool := match e with
  | .list ds => grd (SeqAt.shaped d && SeqAt.shaped (.list ds) && (noDct d && noDcts ds)) (ds.any fun z => PyData.eqv z d)
  | .tuple ds => grd (SeqAt.shaped d && SeqAt.shaped (.tuple ds) && (noDct d && noDcts ds)) (ds.any fun z => PyData.eqv z d)
  | .str z => match d with
    | .str ⟨⟨[c]⟩⟩ => some (decide (c ∈ z.cps.toList))
    | _ => none
  | .dict kvs => grd (kindD kvs d && !kvs.isEmpty) (dget kvs d).isSome
  | _ => none
def noneD : D → Bool
  | .none => true
  | _ => false
def isD (d e : D) : Option Bool := match e with
  | .none => some (noneD d)
  | .bool b => match d with
    | .bool a => some (a == b)
    | _ => none
  | _ => none
def ltD (p : Int → Int → Bool) (d e : D) : Option Bool := match d, e with
  | .int i, .int j => some (p i j)
  | _, _ => none
def cmpD : CO → D → D → Option Bool
  | .lt, d, e => ltD (fun i j => decide (i < j)) d e
  | .le, d, e => ltD (fun i j => decide (i ≤ j)) d e
  | .gt, d, e => ltD (fun i j => decide (j < i)) d e
  | .ge, d, e => ltD (fun i j => decide (j ≤ i)) d e
  | .eq, d, e => eqD d e
  | .ne, d, e => (eqD d e).map (!·)
  | .mem, d, e => memD d e
  | .nmem, d, e => (memD d e).map (!·)
  | .is, d, e => isD d e
  | .isnt, d, e => (isD d e).map (!·)
def truD : D → Option Bool
  | .none => some false
  | .bool b => some b
  | .int i => some (i != 0)
  | .str x => grd (big x.length) ((x.length : Int) != 0)
  | .list xs => some (!xs.isEmpty)
  | .tuple xs => some (!xs.isEmpty)
  | .dict kvs => none
def intsOf : List D → Option (List Int)
  | [] => some []
  | .int i :: r => (intsOf r).map (i :: ·)
  | _ :: _ => none
def boolsOf : List D → Option (List Bool)
  | [] => some []
  | .bool i :: r => (boolsOf r).map (i :: ·)
  | _ :: _ => none
def insI (x : Int) : List Int → List Int
  | [] => [x]
  | y :: r => match decide (x ≤ y) with
    | true => x :: y :: r
    | false => y :: insI x r
def sortI : List Int → List Int
  | [] => []
  | x :: r => insI x (sortI r)
def dedI : List Int → List Int
  | [] => []
  | x :: r => match dedI r with
    | [] => [x]
    | y :: s => match decide (x = y) with
      | true => y :: s
      | false => x :: y :: s
/-- the greatest of some ints -/
def maxI : Int → List Int → Int
  | m, [] => m
  | m, x :: r => maxI (if m < x then x else m) r
/-- a range from 0 on, as a value: no other thing is told so -/
def rgD (n : Int) : D := .dict [(.none, .int n)]
/-- tuples of data that stand in their order -/
def pwB (p : D → D → Bool) : List D → Bool
  | [] => true
  | x :: r => r.all (fun y => p x y) && pwB p r
def tupB : D → Bool
  | .tuple (x :: r) => (intsOf (x :: r)).isSome
  | _ => false
def ordT (ks : List D) : Bool := ks.all tupB && pwB (fun d e => !PySem.W.dataLt e d) ks
def rngGo (lo : Int) : Nat → Nat → List D
  | _, 0 => []
  | i, n + 1 => .int (lo + (i : Nat)) :: rngGo lo (i + 1) n
def isTupD : D → Option D
  | .tuple _ => some (.bool true)
  | .dict _ => none
  | _ => some (.bool false)
def bltD : BF → List D → Option D
  | .len, [.list xs] => some (.int xs.length)
  | .len, [.tuple xs] => some (.int xs.length)
  | .len, [.str x] => grd (big x.length) (.int x.length)
  | .abs, [.int i] => some (.int (if i < 0 then -i else i))
  | .int, [.int i] => some (.int i)
  | .int, [.bool b] => some (.int (if b then 1 else 0))
  | .tuple, [.list xs] => some (.tuple xs)
  | .tuple, [.tuple xs] => some (.tuple xs)
  | .list, [.list xs] => some (.list xs)
  | .list, [.tuple xs] => some (.list xs)
  | .list, [.dict [(.none, .int n)]] => grd (sm62 n && big n.toNat) (.list (rngGo 0 0 n.toNat))
  | .any, [.list xs] => (boolsOf xs).map fun bs => .bool (bs.any id)
  | .all, [.list xs] => (boolsOf xs).map fun bs => .bool (bs.all id)
  | .sum, [.list xs] => (intsOf xs).map fun ns => .int ns.sum
  | .max2, [.int i, .int j] => some (.int (if j > i then j else i))
  | .min2, [.int i, .int j] => some (.int (if j < i then j else i))
  | .isTup, [d] => isTupD d
  | .sorted, [.list xs] => (intsOf xs).map fun ns => .list ((sortI ns).map .int)
  | .sorted, [.dict kvs] => match intsOf (kvs.map (·.1)) with
    | some ns => grd (!kvs.isEmpty && Nat.blt kvs.length 64) (.list ((sortI ns).map .int))
    | none => grd (ordT (kvs.map (·.1))) (.list (kvs.map (·.1)))
  | .max1, [.list xs] => match intsOf xs with
    | some (i :: ns) => some (.int (maxI i ns))
    | _ => none
  | .max1, [.tuple xs] => match intsOf xs with
    | some (i :: ns) => some (.int (maxI i ns))
    | _ => none
  | .rg1, [.int j] => some (rgD j)
  | .str1, [.int i] => grd (Nat.blt i.natAbs.log2 1920) (.str (toString i : String))
  | .sortset, [.tuple xs] => (intsOf xs).bind fun ns => grd (Nat.blt ns.length 64) (.list ((dedI (sortI ns)).map .int))
  | _, _ => none
def ixD : D → D → Option D
  | .list xs, .int i => atI xs i
  | .tuple xs, .int i => atI xs i
  | .str z, .int i => match big z.length with
    | true => (atI z.cps.toList i).map fun c => .str ⟨#[c]⟩
    | false => none
  | .dict kvs, k => match kindD kvs k with
    | true => dget kvs k
    | false => none
  | _, _ => none
def revD : D → Option D
  | .list xs => some (.list xs.reverse)
  | .tuple xs => some (.tuple xs.reverse)
  | _ => none
/-- d.get(k, x) of a dict that is not empty -/
def getD2 (kvs : List (D × D)) (k x : D) : Option D := grd (kindD kvs k && !kvs.isEmpty) ((dget kvs k).getD x)
def keyK : Bool → D → Bool
  | true, k => keyB k
  | false, k => keyT k
/-- the first key is not the tape's -/
def fstB : List (D × D) → Bool
  | (.str x, _) :: _ => decide (x ≠ Str.ofString "cells")
  | _ => true
def cutA {α : Type} (xs : List α) (lo hi : Option Int) : List α := (xs.drop (HT.sIx xs.length 0 lo)).take (HT.sIx xs.length xs.length hi - HT.sIx xs.length 0 lo)
/-- a part of a slice: none written, or an int -/
def partD : List D → Option (Option Int)
  | [] => some none
  | [.int i] => some (some i)
  | _ => none
def slcD : D → Option Int → Option Int → Option D
  | .list xs, lo, hi => some (.list (cutA xs lo hi))
  | .tuple xs, lo, hi => some (.tuple (cutA xs lo hi))
  | .str z, lo, hi => grd (big z.length) (.str (cutS z lo hi))
  | _, _, _ => none
def enumGo : Nat → List D → List D
  | _, [] => []
  | i, x :: xs => .tuple [.int (i : Nat), x] :: enumGo (i + 1) xs
def zipGo : List D → List D → List D
  | x :: xs, y :: ys => .tuple [x, y] :: zipGo xs ys
  | _, _ => []
def seqOf : D → Option (List D)
  | .list xs => some xs
  | .tuple xs => some xs
  | _ => none
def seq1D : List D → Option (List D)
  | [.str x] => grd (big x.length) (x.cps.toList.map fun c => .str ⟨#[c]⟩)
  | [.dict [(.none, .int n)]] => grd (sm62 n && big n.toNat) (rngGo 0 0 n.toNat)
  | [d] => seqOf d
  | _ => none
def rng1D : List D → Option (List D)
  | [.int j] => grd (sm62 j && big j.toNat) (rngGo 0 0 j.toNat)
  | _ => none
def rng2D : List D → Option (List D)
  | [.int i, .int j] => grd (sm62 i && sm62 j && big (j - i).toNat) (rngGo i 0 (j - i).toNat)
  | _ => none
def enumD : List D → Option (List D)
  | [d] => (seqOf d).map (enumGo 0)
  | _ => none
def zipD : List D → Option (List D)
  | [d, e] => (seqOf d).bind fun xs => (seqOf e).map fun ys => zipGo xs ys
  | _ => none
def downGo (lo : Int) : Nat → Nat → List D
  | _, 0 => []
  | i, n + 1 => .int (lo + (i : Nat) * -1) :: downGo lo (i + 1) n
def rng3D : List D → Option (List D)
  | [.int i, .int j, .int c] => grd (decide (c = -1) && sm62 i && sm62 j && big (i - j).toNat) (downGo i 0 (i - j).toNat)
  | _ => none
def noRg : List (D × D) → Bool
  | (.none, _) :: _ => false
  | _ => true
def itemsD : List D → Option (List D)
  | [.dict kvs] => grd (noRg kvs) (kvs.map fun p => .tuple [p.1, p.2])
  | _ => none
def itemsOf : IK → List D → Option (List D)
  | .seq => seq1D
  | .rng1 => rng1D
  | .rng2 => rng2D
  | .enum => enumD
  | .zip => zipD
  | .rng3 => rng3D
  | .items => itemsD
def dctD : D → Option (List (D × D))
  | .dict kvs => grd (noRg kvs) kvs
  | _ => none
def mthD : MF → D → List D → Option D
  | _, _, _ => none
mutual
def noLst : D → Bool
  | .list _ => false
  | .dict _ => false
  | .tuple xs => noLsts xs
  | _ => true
def noLsts : List D → Bool
  | [] => true
  | x :: xs => noLst x && noLsts xs
end

/-! targets bound -/
mutual
def bindT : Tg → D → QE → Option QE
  | .nm i, d, env => some (env.set i (.val d))
  | .tp ts, .tuple ds, env => bindTs ts ds env
  | _, _, _ => none
def bindTs : Tgs → List D → QE → Option QE
  | .nil, [], env => some env
  | .cons t ts, d :: ds, env => (bindT t d env).bind fun e => bindTs ts ds e
  | _, _, _ => none
end
def wipeB (env : QE) : List Nat → QE
  | [] => env
  | v :: vs => (wipeB env vs).set v .un

/-- what the code stands in: the defs' values, the constants -/
structure Sm where
  call : Nat → List B → Tp → Out D
  glob : Str → Option D

def lcGo (f : D → Tp → Out (Option D)) : List D → List D → Tp → Out (List D)
  | [], acc, tp => .ok acc tp
  | x :: xs, acc, tp => (f x tp).bind fun o tp1 => match o with
    | some y => lcGo f xs (acc ++ [y]) tp1
    | none => lcGo f xs acc tp1
def dcGo (f : D → Tp → Out (Option (D × D))) : List D → List (D × D) → Tp → Out (List (D × D))
  | [], acc, tp => .ok acc tp
  | x :: xs, acc, tp => (f x tp).bind fun o tp1 => match o with
    | some y => dcGo f xs (dput acc y.1 y.2) tp1
    | none => dcGo f xs acc tp1
/-- a comprehension of two clauses -/
def lcGo2 (f : D → List D → Tp → Out (List D)) : List D → List D → Tp → Out (List D)
  | [], acc, tp => .ok acc tp
  | x :: xs, acc, tp => (f x acc tp).bind fun acc tp1 => lcGo2 f xs acc tp1
def isOwn : B → Bool
  | .own _ => true
  | .owd _ _ => true
  | _ => false
/-- an argument that is a name of the tape, or of a list of one's own -/
def argB : C → QE → Option B
  | .var i, env => match getB env i with
    | .tape => some .tape
    | .own ds => some (.own ds)
    | _ => none
  | _, _ => none
def unown : B → B
  | .own ds => .val (.list ds)
  | .owd kb kvs => .val (.dict kvs)
  | b => b
/-- how an expression is asked for: its value (kept), its value (read alone), its truth -/
inductive M where
  | v | r | t
def fin (m : M) (o : Out D) : Out D := match m with
  | .t => o.bind fun x t => .opt ((truD x).map .bool) t
  | _ => o
def M.isR : M → Bool
  | .v => false
  | _ => true
/-- a dict's items are asked for as a value -/
def IK.md : IK → M
  | .items => .v
  | _ => .r
def M.op : M → M
  | .t => .t
  | _ => .r
/-- the tape's fields -/
def tapeG : TF → Tp → D
  | .cells, t => .list (t.cells.map .int)
  | .at, t => .int (t.pos : Nat)
  | .left, t => .int t.left
  | .seed, t => .int t.seed
  | .salt, t => .int t.salt
def tapeP : TF → D → Tp → Option Tp
  | .at, .int (.ofNat k), t => some ⟨t.cells, k, t.left, t.seed, t.salt⟩
  | .left, .int k, t => some ⟨t.cells, t.pos, k, t.seed, t.salt⟩
  | .seed, .int k, t => some ⟨t.cells, t.pos, t.left, k, t.salt⟩
  | .salt, .int k, t => some ⟨t.cells, t.pos, t.left, t.seed, k⟩
  | _, _, _ => none
mutual
def ev (Γ : Sm) (m : M) : C → QE → Tp → Out D
  | .var i, env, tp => fin m (match getB env i with
    | .val d => .ok d tp
    | .own ds => match m.isR with
      | true => .ok (.list ds) tp
      | false => .bad
    | .owd kb kvs => match m.isR with
      | true => .ok (.dict kvs) tp
      | false => .bad
    | _ => .bad)
  | .lit d, _, tp => fin m (.ok d tp)
  | .glo x, _, tp => fin m (.opt (Γ.glob x) tp)
  | .bin o a b, env, tp => fin m ((ev Γ .r a env tp).bind fun x t1 => (ev Γ .r b env t1).bind fun y t2 => .opt (binD o x y) t2)
  | .neg a, env, tp => fin m ((ev Γ .r a env tp).bind fun x t1 => match x with
    | .int i => .ok (.int (-i)) t1
    | _ => .bad)
  | .cmp o a b, env, tp => (ev Γ .r a env tp).bind fun x t1 => (ev Γ .r b env t1).bind fun y t2 => .opt ((cmpD o x y).map .bool) t2
  | .chain o p a b c, env, tp => (ev Γ .r a env tp).bind fun x t1 => (ev Γ .r b env t1).bind fun y t2 => (Out.opt (cmpD o x y) t2).bind fun k t3 => match k with
    | true => (ev Γ .r c env t3).bind fun z t4 => .opt ((cmpD p y z).map .bool) t4
    | false => .ok (.bool false) t3
  | .not a, env, tp => match m with
    | .t => (ev Γ .t a env tp).bind fun x t1 => match x with
      | .bool c => .ok (.bool (!c)) t1
      | _ => .bad
    | _ => (ev Γ .r a env tp).bind fun x t1 => .opt ((truD x).map fun b => .bool (!b)) t1
  | .and a b, env, tp => (ev Γ m.op a env tp).bind fun x t1 => match x with
    | .bool true => ev Γ m b env t1
    | .bool false => .ok (.bool false) t1
    | _ => .bad
  | .or a b, env, tp => (ev Γ m.op a env tp).bind fun x t1 => match x with
    | .bool true => .ok (.bool true) t1
    | .bool false => ev Γ m b env t1
    | _ => .bad
  | .ite t a b, env, tp => (ev Γ .t t env tp).bind fun x t1 => match x with
    | .bool true => ev Γ m a env t1
    | .bool false => ev Γ m b env t1
    | _ => .bad
  | .call f as, env, tp => fin m ((evA Γ as env tp).bind fun bs t1 => (Γ.call f (bs.map unown) t1).bind fun d t2 => match bs.any isOwn && !noLst d with
    | true => .bad
    | false => .ok d t2)
  | .blt f as, env, tp => fin m ((evs Γ .r as env tp).bind fun ds t1 => .opt (bltD f ds) t1)
  | .ix a i, env, tp => fin m ((ev Γ .r a env tp).bind fun x t1 => (ev Γ .r i env t1).bind fun y t2 => .opt (ixD x y) t2)
  | .slc a lo hi, env, tp => fin m ((ev Γ .r a env tp).bind fun x t1 => ((evs Γ .r lo env t1).bind fun l t => .opt (partD l) t).bind fun l t2 => ((evs Γ .r hi env t2).bind fun h t => .opt (partD h) t).bind fun h t3 =>
    .opt (slcD x l h) t3)
  | .lst as, env, tp => fin m ((evs Γ .v as env tp).bind fun ds t1 => .opt (grd (big ds.length) (.list ds)) t1)
  | .tup as, env, tp => fin m ((evs Γ .v as env tp).bind fun ds t1 => .opt (grd (big ds.length) (.tuple ds)) t1)
  | .lc e t k as cs ow, env, tp => fin m ((evs Γ k.md as env tp).bind fun ds t1 => (Out.opt (itemsOf k ds) t1).bind fun xs t2 => match big xs.length with
    | true => (lcGo (fun x tp => match bindT t x (wipeB env ow) with
      | none => .bad
      | some env1 => ((evC Γ cs env1 tp).bind fun b tp2 => match b with
        | true => (ev Γ .v e env1 tp2).bind fun d tp3 => .ok (some d) tp3
        | false => .ok none tp2).nox) xs [] t2).bind fun r t3 => .ok (.list r) t3
    | false => .bad)
  | .mth f a as, env, tp => fin m ((ev Γ .r a env tp).bind fun x t1 => (evs Γ .r as env t1).bind fun ds t2 => .opt (mthD f x ds) t2)
  | .tg i f, env, tp => fin m (match getB env i with
    | .tape => .ok (tapeG f tp) tp
    | _ => .bad)
  | .rev a, env, tp => fin m ((ev Γ .r a env tp).bind fun x t => .opt (revD x) t)
  | .chain3 o p q a b c d, env, tp => (ev Γ .r a env tp).bind fun x t1 => (ev Γ .r b env t1).bind fun y t2 => (Out.opt (cmpD o x y) t2).bind fun k t3 => match k with
    | true => (ev Γ .r c env t3).bind fun z t4 => (Out.opt (cmpD p y z) t4).bind fun k t5 => match k with
      | true => (ev Γ .r d env t5).bind fun u t6 => .opt ((cmpD q z u).map .bool) t6
      | false => .ok (.bool false) t5
    | false => .ok (.bool false) t3
  | .dget2 a k d, env, tp => fin m ((ev Γ .r a env tp).bind fun x t1 => match dctD x with
    | some kvs => (ev Γ .r k env t1).bind fun y t2 => (ev Γ .v d env t2).bind fun z t3 => .opt (getD2 kvs y z) t3
    | none => .bad)
  | .dgo i k d, env, tp => fin m (match getB env i with
    | .owd kb kvs => (ev Γ .r k env tp).bind fun y t2 => (ev Γ .v d env t2).bind fun z t3 => .opt (grd (keyK kb y) ((dget kvs y).getD z)) t3
    | _ => .bad)
  | .dcp k v t kd as cs ow, env, tp => fin m ((evs Γ kd.md as env tp).bind fun ds t1 => (Out.opt (itemsOf kd ds) t1).bind fun xs t2 => match big xs.length with
    | true => (dcGo (fun x tp => match bindT t x (wipeB env ow) with
      | none => .bad
      | some env1 => ((evC Γ cs env1 tp).bind fun b tp2 => match b with
        | true => (ev Γ .r k env1 tp2).bind fun y tp3 => (ev Γ .v v env1 tp3).bind fun z tp4 => .opt (grd (keyB y) (some (y, z))) tp4
        | false => .ok none tp2).nox) xs [] t2).bind fun r t3 => .ok (.dict r) t3
    | false => .bad)
  | .dcpT k v t kd as cs ow, env, tp => fin m ((evs Γ kd.md as env tp).bind fun ds t1 => (Out.opt (itemsOf kd ds) t1).bind fun xs t2 => match big xs.length with
    | true => (dcGo (fun x tp => match bindT t x (wipeB env ow) with
      | none => .bad
      | some env1 => ((evC Γ cs env1 tp).bind fun b tp2 => match b with
        | true => (ev Γ .r k env1 tp2).bind fun y tp3 => (ev Γ .v v env1 tp3).bind fun z tp4 => .opt (grd (keyT y) (some (y, z))) tp4
        | false => .ok none tp2).nox) xs [] t2).bind fun r t3 => .ok (.dict r) t3
    | false => .bad)
  | .lc2 e t k as cs t1 k1 as1 cs1 ow ow1, env, tp => fin m ((evs Γ k.md as env tp).bind fun ds t1_ => (Out.opt (itemsOf k ds) t1_).bind fun xs t2 => match big xs.length with
    | true => (lcGo2 (fun x acc tp => match bindT t x (wipeB env ow) with
      | none => .bad
      | some env1 => ((evC Γ cs env1 tp).bind fun b tp2 => match b with
        | true => (evs Γ .v as1 env1 tp2).bind fun ds1 tp3 => (Out.opt (itemsOf k1 ds1) tp3).bind fun ys tp4 => match big (acc.length + ys.length) with
          | true => lcGo (fun y tp => match bindT t1 y (wipeB env1 ow1) with
            | none => .bad
            | some env2 => ((evC Γ cs1 env2 tp).bind fun b tp5 => match b with
              | true => (ev Γ .v e env2 tp5).bind fun d tp6 => .ok (some d) tp6
              | false => .ok none tp5).nox) ys acc tp4
          | false => .bad
        | false => .ok acc tp2).nox) xs [] t2).bind fun r t3 => .ok (.list r) t3
    | false => .bad)
  | .rfs a cs, env, tp => fin m (match ev Γ .r a env tp with
    | .ok _ t => .ok (.bool false) t
    | .exc c t => match cs.contains c with
      | true => .ok (.bool true) t
      | false => .bad
    | .bad => .bad)
def evs (Γ : Sm) (m : M) : Cs → QE → Tp → Out (List D)
  | .nil, _, tp => .ok [] tp
  | .cons a as, env, tp => (ev Γ m a env tp).bind fun x t1 => (evs Γ m as env t1).bind fun xs t2 => .ok (x :: xs) t2
/-- arguments of a def: the tape may be among them -/
def evA (Γ : Sm) : Cs → QE → Tp → Out (List B)
  | .nil, _, tp => .ok [] tp
  | .cons a as, env, tp => (match argB a env with
    | some b => Out.ok b tp
    | none => (ev Γ .v a env tp).bind fun x t => Out.ok (B.val x) t).bind fun b t1 => (evA Γ as env t1).bind fun xs t2 => .ok (b :: xs) t2
/-- a comprehension's conditions -/
def evC (Γ : Sm) : Cs → QE → Tp → Out Bool
  | .nil, _, tp => .ok true tp
  | .cons a .nil, env, tp => (ev Γ .t a env tp).bind fun x t1 => match x with
    | .bool c => .ok c t1
    | _ => .bad
  | .cons _ (.cons _ _), _, _ => .bad
end

/-! statements -/
inductive SO where
  | nx (env : QE) (t : Tp) | rt (d : D) (t : Tp) | br (env : QE) (t : Tp) | ct (env : QE) (t : Tp) | exc (c : Nat) (t : Tp) | bad
def Out.so {α : Type} (o : Out α) (f : α → Tp → SO) : SO := match o with
  | .ok a t => f a t
  | .exc c t => .exc c t
  | .bad => .bad
def forGo (f : D → QE → Tp → SO) : List D → QE → Tp → SO
  | [], env, tp => .nx env tp
  | x :: xs, env, tp => match f x env tp with
    | .nx e t => forGo f xs e t
    | .ct e t => forGo f xs e t
    | .br e t => .nx e t
    | .rt d t => .rt d t
    | .exc c t => .exc c t
    | .bad => .bad
def whGo (c : QE → Tp → Out D) (f : QE → Tp → SO) : Nat → QE → Tp → SO
  | 0, _, _ => .bad
  | n + 1, env, tp => (c env tp).so fun x t => match x with
    | .bool true => match f env t with
      | .nx e t => whGo c f n e t
      | .ct e t => whGo c f n e t
      | .br e t => .nx e t
      | .rt d t => .rt d t
      | .exc c t => .exc c t
      | .bad => .bad
    | .bool false => .nx env t
    | _ => .bad
/-- a tuple written -/
def isTupC : C → Bool
  | .tup _ => true
  | _ => false
def envU (env : QE) : QE := env.map fun _ => .un
mutual
def exS (Γ : Sm) (n : Nat) : S → QE → Tp → SO
  | .set i e, env, tp => (ev Γ .v e env tp).so fun d t => .nx (env.set i (.val d)) t
  | .setL i e, env, tp => (ev Γ .v e env tp).so fun d t => match d with
    | .list ds => .nx (env.set i (.own ds)) t
    | _ => .bad
  | .move i j, env, tp => match getB env j with
    | .own ds => .nx ((env.set j .un).set i (.own ds)) tp
    | .owd kb kvs => .nx ((env.set j .un).set i (.owd kb kvs)) tp
    | _ => .bad
  | .par i j a b, env, tp => (ev Γ .v a env tp).so fun x t => (ev Γ .v b env t).so fun y t => .nx ((env.set i (.val x)).set j (.val y)) t
  | .unp g e, env, tp => (ev Γ .v e env tp).so fun d t => match bindT g d env with
    | some env1 => .nx env1 t
    | none => .bad
  | .app i e, env, tp => match getB env i with
    | .own ds => (ev Γ .v e env tp).so fun d t => match big (ds.length + 1) with
      | true => .nx (env.set i (.own (ds ++ [d]))) t
      | false => .bad
    | _ => .bad
  | .ext i e, env, tp => match getB env i with
    | .own ds => (ev Γ .v e env tp).so fun d t => match d with
      | .list es => match big (ds.length + es.length) with
        | true => .nx (env.set i (.own (ds ++ es))) t
        | false => .bad
      | _ => .bad
    | _ => .bad
  | .sub i k e, env, tp => match getB env i with
    | .own ds => (ev Γ .v e env tp).so fun d t => (ev Γ .r k env t).so fun x t => match x with
      | .int a => match ixN ds.length a with
        | some j => .nx (env.set i (.own (ds.set j d))) t
        | none => .bad
      | _ => .bad
    | _ => .bad
  | .swp i k1 k2 e1 e2, env, tp => match getB env i with
    | .own ds => (ev Γ .v (.tup (.cons e1 (.cons e2 .nil))) env tp).so fun d t => match d with
      | .tuple [d1, d2] => (ev Γ .r k1 env t).so fun x t => match x with
        | .int a => match ixN ds.length a with
          | some j => (ev Γ .r k2 (env.set i (.own (ds.set j d1))) t).so fun y t => match y with
            | .int b => match ixN (ds.set j d1).length b with
              | some l => .nx (env.set i (.own ((ds.set j d1).set l d2))) t
              | none => .bad
            | _ => .bad
          | none => .bad
        | _ => .bad
      | _ => .bad
    | _ => .bad
  | .setD0 i b, env, tp => .nx (env.set i (.owd b [])) tp
  | .setD i ks vs, env, tp => match ks, vs with
    | .cons k .nil, .cons v .nil => match isTupC k with
      | true => (ev Γ .r k env tp).so fun y t => (ev Γ .v v env t).so fun z t => match keyT y with
        | true => .nx (env.set i (.owd false [(y, z)])) t
        | false => .bad
      | false => (ev Γ .r k env tp).so fun y t => (ev Γ .v v env t).so fun z t => match keyB y && fstB [(y, z)] with
        | true => .nx (env.set i (.owd true [(y, z)])) t
        | false => .bad
    | _, _ => .bad
  | .dput i k e, env, tp => match getB env i with
    | .owd kb kvs => (ev Γ .v e env tp).so fun z t => (ev Γ .r k env t).so fun y t => match keyK kb y && Nat.blt kvs.length 16777216 && (!kb || fstB (dput kvs y z)) with
      | true => .nx (env.set i (.owd kb (dput kvs y z))) t
      | false => .bad
    | _ => .bad
  | .aug i o e, env, tp => match getB env i with
    | .val (.int x) => (ev Γ .r e env tp).so fun y t => match y with
      | .int y => match binD o (.int x) (.int y) with
        | some z => .nx (env.set i (.val z)) t
        | none => .bad
      | _ => .bad
    | _ => .bad
  | .ret e, env, tp => (ev Γ .v e env tp).so fun d t => .rt d t
  | .ife c a b, env, tp => (ev Γ .t c env tp).so fun x t => match x with
    | .bool true => exSs Γ n a env t
    | .bool false => exSs Γ n b env t
    | _ => .bad
  | .for_ g k as b, env, tp => ((evs Γ .v as env tp).bind fun ds t => Out.opt (itemsOf k ds) t).so fun xs t => forGo (fun x env tp => match bindT g x env with
      | some env1 => exSs Γ n b env1 tp
      | none => .bad) xs env t
  | .whl c b, env, tp => whGo (fun env tp => ev Γ .t c env tp) (fun env tp => exSs Γ n b env tp) n env tp
  | .ex e, env, tp => (ev Γ .r e env tp).so fun _ t => .nx env t
  | .cont, env, tp => .ct env tp
  | .brk, env, tp => .br env tp
  | .pass, env, tp => .nx env tp
  | .raise c, _, tp => .exc c tp
  | .frz i, env, tp => match getB env i with
    | .own ds => .nx (env.set i (.val (.list ds))) tp
    | .owd kb kvs => .nx (env.set i (.val (.dict kvs))) tp
    | _ => .nx env tp
  | .bad, _, _ => .bad
  | .tput i f e, env, tp => match getB env i with
    | .tape => (ev Γ .v e env tp).so fun d t => match tapeP f d t with
      | some t' => .nx env t'
      | none => .bad
    | _ => .bad
  | .try_ b _ _, env, tp => match exSs Γ n b env tp with
    | .exc _ _ => .bad
    | o => o
def exSs (Γ : Sm) (n : Nat) : Ss → QE → Tp → SO
  | .nil, env, tp => .nx env tp
  | .cons s ss, env, tp => match exS Γ n s env tp with
    | .nx e t => exSs Γ n ss e t
    | o => o
end
end Q

set_option Elab.async false
set_option linter.all false
set_option maxRecDepth 100000
namespace Q
open PySem PySem.Spec L2
open PyProof.Rows hiding St
/-! what the heap holds of data -/
/-- not shaped as the tape -/
def hdK : List (L2.Key × V) → Prop
  | (k, _) :: _ => k ≠ Sum.inr (Str.ofString "cells")
  | [] => True
def kD : L2.Key → D
  | .inl i => .int i
  | .inr x => .str x
mutual
/-- a key in a dict of tuples -/
def kN : D → NestedKey
  | .int i => .num i
  | .tuple xs => .tup (kNs xs)
  | _ => .none
def kNs : List D → List NestedKey
  | [] => []
  | x :: xs => kN x :: kNs xs
end
/-- the dict at a, with these entries -/
def tdO (a : Addr) (es : Array DictEntry) (ep : Nat) : HO := .ext fun h => h.DictRaw a es ep
def IsTd (φ : Heap → Prop) : Prop := ∃ a es ep, φ = fun h => Heap.DictRaw h a es ep
/-- the entries of a dict of tuples -/
structure TE0 (a : Addr) (es : Array DictEntry) (xs : List (NestedKey × Addr × Value)) : Prop where
  ent : ∀ w : PySem.World, es.toList = xs.map fun x => (⟨NestedKey.hash w x.1, .ref x.2.1, x.2.2⟩ : DictEntry)
  nd : (xs.map (·.1)).Nodup
  sz : xs.length ≤ sizeLine
  sys : (a == sysModules) = false
structure TD (xs : List (NestedKey × Addr × Value)) (vs : List V) (ds : List (D × D)) : Prop where
  key : xs.map (·.1) = ds.map fun p => kN p.1
  ok : ∀ p ∈ ds, keyT p.1 = true
  val : Vals vs (xs.map (·.2.2))
mutual
/-- v stands for d; the lists at F are not part of it -/
inductive Rep (K : PySem.W.Frag) (H : Hp) (F : Addr → Prop) : V → D → Prop where
  | non : Rep K H F .non .none
  | bl (b : Bool) : Rep K H F (.bl b) (.bool b)
  | int (i : Int) : Rep K H F (.int i) (.int i)
  | str (x : Str) : Rep K H F (.str x) (.str x)
  | lst {a : Addr} {xs : List V} {ds : List D} : H a = some (.lst xs) → ¬ F a → Reps K H F xs ds → Rep K H F (.ref a) (.list ds)
  | tup {a : Addr} {xs : List V} {ds : List D} : SqT K H a xs → Reps K H F xs ds → Rep K H F (.ref a) (.tuple ds)
  | dcK {a : Addr} {o : Obj} {kvs : List (L2.Key × V)} {ds : List (D × D)} : H a = some (.frz o (.dK kvs)) → ds.map (·.1) = kvs.map (fun p => kD p.1) → Reps K H F (kvs.map (·.2)) (ds.map (·.2)) → Rep K H F (.ref a) (.dict ds)
  | rng {a : Addr} {n : Int} : H a = some (.rng 0 n) → Rep K H F (.ref a) (.dict [(.none, .int n)])
  | dcT {a : Addr} {es : Array DictEntry} {ep : Nat} {xs : List (NestedKey × Addr × Value)} {vs : List V} {ds : List (D × D)} : H a = some (tdO a es ep) → ¬ F a → TE0 a es xs → TD xs vs ds → Reps K H F (xs.map fun x => V.ref x.2.1) (ds.map (·.1)) → Reps K H F vs (ds.map (·.2)) → Rep K H F (.ref a) (.dict ds)
inductive Reps (K : PySem.W.Frag) (H : Hp) (F : Addr → Prop) : List V → List D → Prop where
  | nil : Reps K H F [] []
  | cons {v : V} {vs : List V} {d : D} {ds : List D} : Rep K H F v d → Reps K H F vs ds → Reps K H F (v :: vs) (d :: ds)
end
/-- .. read alone: a list of F itself, too -/
inductive RepR (K : PySem.W.Frag) (H : Hp) (F : Addr → Prop) : V → D → Prop where
  | of {v : V} {d : D} : Rep K H F v d → RepR K H F v d
  | lst {a : Addr} {xs : List V} {ds : List D} : H a = some (.lst xs) → Reps K H F xs ds → RepR K H F (.ref a) (.list ds)
  | dcK {a : Addr} {kvs : List (L2.Key × V)} {ds : List (D × D)} : H a = some (.dK kvs) → hdK kvs → ds.map (·.1) = kvs.map (fun p => kD p.1) → Reps K H F (kvs.map (·.2)) (ds.map (·.2)) → RepR K H F (.ref a) (.dict ds)
  | dcT {a : Addr} {es : Array DictEntry} {ep : Nat} {xs : List (NestedKey × Addr × Value)} {vs : List V} {ds : List (D × D)} : H a = some (tdO a es ep) → TE0 a es xs → TD xs vs ds → Reps K H F (xs.map fun x => V.ref x.2.1) (ds.map (·.1)) → Reps K H F vs (ds.map (·.2)) → RepR K H F (.ref a) (.dict ds)
inductive RepRs (K : PySem.W.Frag) (H : Hp) (F : Addr → Prop) : List V → List D → Prop where
  | nil : RepRs K H F [] []
  | cons {v : V} {vs : List V} {d : D} {ds : List D} : RepR K H F v d → RepRs K H F vs ds → RepRs K H F (v :: vs) (d :: ds)
def RepM (m : M) (K : PySem.W.Frag) (H : Hp) (F : Addr → Prop) (v : V) (d : D) : Prop := match m with
  | .v => Rep K H F v d
  | _ => RepR K H F v d
def RepMs (m : M) (K : PySem.W.Frag) (H : Hp) (F : Addr → Prop) (v : List V) (d : List D) : Prop := match m with
  | .v => Reps K H F v d
  | _ => RepRs K H F v d
/-- what may not be changed -/
def Fix (ta b : Addr) : HO → Prop
  | .dK kvs => b ≠ ta ∨ hdK kvs
  | .tbl _ => False
  | _ => True
def St8 (F : Addr → Prop) (ta : Addr) (H H' : Hp) : Prop := ∀ b o, ¬ F b → H b = some o → Fix ta b o → H' b = some o
abbrev Ext (ta : Addr) (H H' : Hp) : Prop := St8 (fun _ => False) ta H H'
def MutK : Option HO → Prop
  | some (.lst _) => True
  | some (.dK _) => True
  | some (.dT _) => True
  | some (.ext φ) => IsTd φ
  | _ => False
/-- no tuple -/
def NT : Option HO → Prop
  | some (.tup _) => False
  | some (.frz _ _) => False
  | some (.rng _ _) => False
  | _ => True
theorem mutTd {a : Addr} {es : Array DictEntry} {ep : Nat} : MutK (some (tdO a es ep)) := ⟨a, es, ep, rfl⟩
theorem MutK.nt {o : Option HO} (h : MutK o) : NT o := by
  unfold MutK at h
  split at h <;> first | exact True.intro | exact h.elim
theorem St8.refl (F : Addr → Prop) (ta : Addr) (H : Hp) : St8 F ta H H := fun _ _ _ h _ => h
theorem St8.trans {F : Addr → Prop} {ta : Addr} {H H1 H2 : Hp} (a : St8 F ta H H1) (b : St8 F ta H1 H2) : St8 F ta H H2 := fun c o n h f => b c o n (a c o n h f) f
theorem St8.mono {F F' : Addr → Prop} {ta : Addr} {H H1 : Hp} (a : St8 F ta H H1) (h : ∀ x, F x → F' x) : St8 F' ta H H1 := fun c o n e f => a c o (fun z => n (h c z)) e f
theorem St8.new {F : Addr → Prop} {ta : Addr} {H : Hp} {p : Addr} {o : HO} (h : H p = none) : St8 F ta H (upd H p o) := fun c u _ e _ => by
  rw [upd_ne (ne_of_none e h)]
  exact e
theorem St8.own {F : Addr → Prop} {ta : Addr} {H : Hp} {p : Addr} {o : HO} (h : F p) : St8 F ta H (upd H p o) := fun c u n e _ => by
  rw [upd_ne fun z => n (by rw [z]; exact h)]
  exact e
/-- a step where fresh ones are free too -/
theorem St8.transF {F F' : Addr → Prop} {ta : Addr} {H H1 H2 : Hp} (a : St8 F ta H H1) (b : St8 F' ta H1 H2) (h : ∀ x o, F' x → H x = some o → F x) : St8 F ta H H2 := fun c o n e f => b c o (fun z => n (h c o z e)) (a c o n e f) f
theorem SqT.step {K : PySem.W.Frag} {F : Addr → Prop} {ta a : Addr} {H H' : Hp} {xs : List V} (t : ∀ a, F a → NT (H a)) (e : St8 F ta H H') (h : SqT K H a xs) : SqT K H' a xs := by
  rcases h with (h | ⟨o, h⟩) | h
  · refine .inl (.inl (e a _ (fun z => ?_) h True.intro))
    have := t a z
    rw [h] at this
    exact this
  · refine .inl (.inr ⟨o, e a _ (fun z => ?_) h True.intro⟩)
    have := t a z
    rw [h] at this
    exact this
  · exact .inr h
section
variable {K : PySem.W.Frag} {H H' : Hp} {F F' : Addr → Prop} {ta : Addr}
theorem frz_keep {a : Addr} {o : Obj} {u : HO} (t : ∀ a, F a → NT (H a)) (e : St8 F ta H H') (h : H a = some (.frz o u)) : H' a = some (.frz o u) := by
  refine e a _ (fun z => ?_) h True.intro
  have := t a z
  rw [h] at this
  exact this
theorem rng_keep {a : Addr} {i j : Int} (t : ∀ a, F a → NT (H a)) (e : St8 F ta H H') (h : H a = some (.rng i j)) : H' a = some (.rng i j) := by
  refine e a _ (fun z => ?_) h True.intro
  have := t a z
  rw [h] at this
  exact this
mutual
theorem Rep.step (t : ∀ a, F a → NT (H a)) (e : St8 F ta H H') : ∀ {v : V} {d : D}, Rep K H F v d → Rep K H' F v d
  | _, _, .non => .non
  | _, _, .bl b => .bl b
  | _, _, .int i => .int i
  | _, _, .str x => .str x
  | _, _, .lst h n r => .lst (e _ _ n h True.intro) n (Reps.step t e r)
  | _, _, .tup h r => .tup (SqT.step t e h) (Reps.step t e r)
  | _, _, .dcK h q r => .dcK (frz_keep t e h) q (Reps.step t e r)
  | _, _, .rng h => .rng (rng_keep t e h)
  | _, _, .dcT h n z q r r' => .dcT (e _ _ n h True.intro) n z q (Reps.step t e r) (Reps.step t e r')
theorem Reps.step (t : ∀ a, F a → NT (H a)) (e : St8 F ta H H') : ∀ {v : List V} {d : List D}, Reps K H F v d → Reps K H' F v d
  | _, _, .nil => .nil
  | _, _, .cons r s => .cons (Rep.step t e r) (Reps.step t e s)
end
mutual
theorem Rep.mono (h : ∀ x, F' x → F x) : ∀ {v : V} {d : D}, Rep K H F v d → Rep K H F' v d
  | _, _, .non => .non
  | _, _, .bl b => .bl b
  | _, _, .int i => .int i
  | _, _, .str x => .str x
  | _, _, .lst e n r => .lst e (fun z => n (h _ z)) (Reps.mono h r)
  | _, _, .tup e r => .tup e (Reps.mono h r)
  | _, _, .dcK e q r => .dcK e q (Reps.mono h r)
  | _, _, .rng e => .rng e
  | _, _, .dcT e n z q r r' => .dcT e (fun z => n (h _ z)) z q (Reps.mono h r) (Reps.mono h r')
theorem Reps.mono (h : ∀ x, F' x → F x) : ∀ {v : List V} {d : List D}, Reps K H F v d → Reps K H F' v d
  | _, _, .nil => .nil
  | _, _, .cons r s => .cons (Rep.mono h r) (Reps.mono h s)
end
mutual
theorem Rep.chF (h : ∀ a, F' a → F a ∨ H a = none) : ∀ {v : V} {d : D}, Rep K H F v d → Rep K H F' v d
  | _, _, .non => .non
  | _, _, .bl b => .bl b
  | _, _, .int i => .int i
  | _, _, .str x => .str x
  | _, _, .lst e n r => .lst e (fun z => (h _ z).elim n fun q => by rw [q] at e; cases e) (Reps.chF h r)
  | _, _, .tup e r => .tup e (Reps.chF h r)
  | _, _, .dcK e q r => .dcK e q (Reps.chF h r)
  | _, _, .rng e => .rng e
  | _, _, .dcT e n z q r r' => .dcT e (fun z => (h _ z).elim n fun q => by rw [q] at e; cases e) z q (Reps.chF h r) (Reps.chF h r')
theorem Reps.chF (h : ∀ a, F' a → F a ∨ H a = none) : ∀ {v : List V} {d : List D}, Reps K H F v d → Reps K H F' v d
  | _, _, .nil => .nil
  | _, _, .cons r s => .cons (Rep.chF h r) (Reps.chF h s)
end
/-- F may take in what is not tracked (now) -/
theorem not_new {p : Addr} (h : H p = none) {a : Addr} {o : HO} (e : H a = some o) (n : ¬ F a) : ¬ (F a ∨ a = p) := fun z => by
  rcases z with z | z
  · exact n z
  · rw [z, h] at e
    cases e
mutual
theorem Rep.addF {p : Addr} (h : H p = none) : ∀ {v : V} {d : D}, Rep K H F v d → Rep K H (fun a => F a ∨ a = p) v d
  | _, _, .non => .non
  | _, _, .bl b => .bl b
  | _, _, .int i => .int i
  | _, _, .str x => .str x
  | _, _, .lst e n r => .lst e (not_new h e n) (Reps.addF h r)
  | _, _, .tup e r => .tup e (Reps.addF h r)
  | _, _, .dcK e q r => .dcK e q (Reps.addF h r)
  | _, _, .rng e => .rng e
  | _, _, .dcT e n z q r r' => .dcT e (not_new h e n) z q (Reps.addF h r) (Reps.addF h r')
theorem Reps.addF {p : Addr} (h : H p = none) : ∀ {v : List V} {d : List D}, Reps K H F v d → Reps K H (fun a => F a ∨ a = p) v d
  | _, _, .nil => .nil
  | _, _, .cons r s => .cons (Rep.addF h r) (Reps.addF h s)
end
mutual
/-- data without lists -/
theorem Rep.anyF : ∀ {v : V} {d : D}, Rep K H F v d → noLst d = true → Rep K H F' v d
  | _, _, .non, _ => .non
  | _, _, .bl b, _ => .bl b
  | _, _, .int i, _ => .int i
  | _, _, .str x, _ => .str x
  | _, _, .lst e n r, h => by simp [noLst] at h
  | _, _, .tup e r, h => .tup e (Reps.anyF r (by simpa [noLst] using h))
  | _, _, .dcK e q r, h => by simp [noLst] at h
  | _, _, .rng e, h => by simp [noLst] at h
  | _, _, .dcT e n z q r r', h => by simp [noLst] at h
theorem Reps.anyF : ∀ {v : List V} {d : List D}, Reps K H F v d → noLsts d = true → Reps K H F' v d
  | _, _, .nil, _ => .nil
  | _, _, .cons r s, h => by
    rw [noLsts, Bool.and_eq_true] at h
    exact .cons (Rep.anyF r h.1) (Reps.anyF s h.2)
end
theorem SqL.ofL {a : Addr} {xs : List V} (h : H a = some (.lst xs)) : SqL K H a xs := .inl (.inl h)
mutual
theorem Rep.dp : ∀ {v : V} {d : D}, Rep K H F v d → noDct d = true → Dp K H v d
  | _, _, .non, _ => .non
  | _, _, .bl b, _ => .bl b
  | _, _, .int i, _ => .int i
  | _, _, .str x, _ => .str x
  | _, _, .lst e n r, h => .lst (SqL.ofL e) (Reps.dp r (by simpa [noDct] using h))
  | _, _, .tup e r, h => .tup e (Reps.dp r (by simpa [noDct] using h))
  | _, _, .dcK e q r, h => by simp [noDct] at h
  | _, _, .rng e, h => by simp [noDct] at h
  | _, _, .dcT e n z q r r', h => by simp [noDct] at h
theorem Reps.dp : ∀ {v : List V} {d : List D}, Reps K H F v d → noDcts d = true → DpAll K H v d
  | _, _, .nil, _ => .nil
  | _, _, .cons r s, h => by
    rw [noDcts, Bool.and_eq_true] at h
    exact .cons (Rep.dp r h.1) (Reps.dp s h.2)
end
theorem RepR.dp {v : V} {d : D} (r : RepR K H F v d) (h : noDct d = true) : Dp K H v d := by
  cases r with
  | of r => exact r.dp h
  | lst e r => exact .lst (SqL.ofL e) (r.dp (by simpa [noDct] using h))
  | dcK e n q r => simp [noDct] at h
  | dcT e z q r r' => simp [noDct] at h
theorem RepR.step (t : ∀ a, F a → NT (H a)) (e : Ext ta H H') {v : V} {d : D} (r : RepR K H F v d) : RepR K H' F v d := by
  cases r with
  | of r => exact .of (r.step t (e.mono fun _ z => z.elim))
  | lst h r => exact .lst (e _ _ (fun z => z) h True.intro) (r.step t (e.mono fun _ z => z.elim))
  | dcK h n q r => exact .dcK (e _ _ (fun z => z) h (.inr n)) n q (r.step t (e.mono fun _ z => z.elim))
  | dcT h z q r r' => exact .dcT (e _ _ (fun z => z) h True.intro) z q (r.step t (e.mono fun _ z => z.elim)) (r'.step t (e.mono fun _ z => z.elim))
theorem RepRs.step (t : ∀ a, F a → NT (H a)) (e : Ext ta H H') {v : List V} {d : List D} (r : RepRs K H F v d) : RepRs K H' F v d := by
  induction r with
  | nil => exact .nil
  | cons r s ih => exact .cons (r.step t e) ih
theorem RepM.step {m : M} (t : ∀ a, F a → NT (H a)) (e : Ext ta H H') {v : V} {d : D} (r : RepM m K H F v d) : RepM m K H' F v d := by
  cases m with
  | v => exact Rep.step t (e.mono fun _ z => z.elim) r
  | r => exact RepR.step t e r
  | t => exact RepR.step t e r
theorem RepM.r {m : M} {v : V} {d : D} (r : RepM m K H F v d) : RepR K H F v d := by
  cases m with
  | v => exact .of r
  | r => exact r
  | t => exact r
theorem RepM.of {m : M} {v : V} {d : D} (r : Rep K H F v d) : RepM m K H F v d := by
  cases m with
  | v => exact r
  | r => exact RepR.of r
  | t => exact RepR.of r
theorem RepMs.cons {m : M} {v : V} {d : D} {vs : List V} {ds : List D} (r : RepM m K H F v d) (s : RepMs m K H F vs ds) : RepMs m K H F (v :: vs) (d :: ds) := by
  cases m with
  | v => exact Reps.cons r s
  | r => exact RepRs.cons r s
  | t => exact RepRs.cons r s
theorem RepMs.nil {m : M} : RepMs m K H F [] [] := by
  cases m with
  | v => exact Reps.nil
  | r => exact RepRs.nil
  | t => exact RepRs.nil
theorem Reps.length {vs : List V} {ds : List D} (r : Reps K H F vs ds) : vs.length = ds.length := by
  induction vs generalizing ds with
  | nil => cases r; rfl
  | cons v vs ih => cases r with
    | cons a b => simp [ih b]
theorem Reps.get {vs : List V} {ds : List D} (r : Reps K H F vs ds) {i : Nat} {d : D} (h : ds[i]? = some d) : ∃ v, vs[i]? = some v ∧ Rep K H F v d := by
  induction vs generalizing ds i with
  | nil => cases r; simp at h
  | cons v vs ih => cases r with
    | cons a b => cases i with
      | zero =>
        simp at h
        subst h
        exact ⟨v, rfl, a⟩
      | succ i => exact ih b (by simpa using h)
theorem Reps.getV {vs : List V} {ds : List D} (r : Reps K H F vs ds) {i : Nat} {v : V} (h : vs[i]? = some v) : ∃ d, ds[i]? = some d ∧ Rep K H F v d := by
  induction vs generalizing ds i with
  | nil => cases r; simp at h
  | cons w vs ih => cases r with
    | cons a b => cases i with
      | zero =>
        simp at h
        subst h
        exact ⟨_, rfl, a⟩
      | succ i => exact ih b (by simpa using h)
theorem Reps.append {vs ws : List V} {ds es : List D} (r : Reps K H F vs ds) (s : Reps K H F ws es) : Reps K H F (vs ++ ws) (ds ++ es) := by
  induction vs generalizing ds with
  | nil => cases r; exact s
  | cons v vs ih => cases r with
    | cons a b => exact .cons a (ih b)
theorem Reps.drop {vs : List V} {ds : List D} (r : Reps K H F vs ds) (n : Nat) : Reps K H F (vs.drop n) (ds.drop n) := by
  induction n generalizing vs ds with
  | zero => exact r
  | succ n ih => cases r with
    | nil => simp; exact .nil
    | cons a b => exact ih b
theorem Reps.take {vs : List V} {ds : List D} (r : Reps K H F vs ds) (n : Nat) : Reps K H F (vs.take n) (ds.take n) := by
  induction n generalizing vs ds with
  | zero => simp; exact .nil
  | succ n ih => cases r with
    | nil => simp; exact .nil
    | cons a b => exact .cons a (ih b)
theorem Reps.set {vs : List V} {ds : List D} (r : Reps K H F vs ds) (i : Nat) {v : V} {d : D} (h : Rep K H F v d) : Reps K H F (vs.set i v) (ds.set i d) := by
  induction i generalizing vs ds with
  | zero => cases r with
    | nil => exact .nil
    | cons a b => exact .cons h b
  | succ i ih => cases r with
    | nil => exact .nil
    | cons a b => exact .cons a (ih b)
theorem Reps.rep {vs : List V} {ds : List D} (r : Reps K H F vs ds) (n : Nat) : Reps K H F (List.replicate n vs).flatten (List.replicate n ds).flatten := by
  induction n with
  | zero => exact .nil
  | succ n ih =>
    rw [List.replicate_succ, List.replicate_succ, List.flatten_cons, List.flatten_cons]
    exact r.append ih
theorem Reps.cut {vs : List V} {ds : List D} (r : Reps K H F vs ds) (lo hi : Option Int) : Reps K H F (cutV vs lo hi) (cutA ds lo hi) := by
  unfold cutV cutA
  rw [r.length]
  exact (r.drop _).take _
theorem Reps.ints {vs : List V} {ds : List D} (r : Reps K H F vs ds) {ns : List Int} (h : intsOf ds = some ns) : vs = ns.map V.int := by
  induction vs generalizing ds ns with
  | nil => cases r; simp [intsOf] at h; subst h; rfl
  | cons v vs ih => cases r with
    | cons a b => cases a <;> simp [intsOf] at h
                  obtain ⟨ms, h1, h2⟩ := h
                  subst h2
                  rw [ih b h1]
                  rfl
theorem Reps.bools {vs : List V} {ds : List D} (r : Reps K H F vs ds) {ns : List Bool} (h : boolsOf ds = some ns) : vs = ns.map V.bl := by
  induction vs generalizing ds ns with
  | nil => cases r; simp [boolsOf] at h; subst h; rfl
  | cons v vs ih => cases r with
    | cons a b => cases a <;> simp [boolsOf] at h
                  obtain ⟨ms, h1, h2⟩ := h
                  subst h2
                  rw [ih b h1]
                  rfl
theorem Reps.ofInts (ns : List Int) : Reps K H F (ns.map V.int) (ns.map PyData.int) := by
  induction ns with
  | nil => exact .nil
  | cons n ns ih => exact .cons (.int n) ih
end
/-! the world and the slots -/
/-- what a law stands in: its classes of exceptions; T: the tables of its lambdas -/
structure G where
  cls : Nat → Value
  T : Hp → Prop
  TS : ∀ {F : Addr → Prop} {ta : Addr} {H H' : Hp}, F ta → (∀ a, F a → MutK (H a)) → (∀ b o, ¬ F b → H b = some o → b ≠ ta → H' b = some o) → T H → T H'
  TK : ∀ {H H' : Hp}, (∀ b o, H b = some o → H' b = some o) → T H → T H'
def tapeK (ca : Addr) (tp : Tp) : List (Key × V) :=
  [(Sum.inr (Str.ofString "cells"), .ref ca), (Sum.inr (Str.ofString "at"), .int (tp.pos : Nat)), (Sum.inr (Str.ofString "left"), .int tp.left), (Sum.inr (Str.ofString "seed"), .int tp.seed), (Sum.inr (Str.ofString "salt"), .int tp.salt)]
structure World (g : G) (F : Addr → Prop) (ta ca : Addr) (H : Hp) (tp : Tp) : Prop where
  trk : ∀ a, F a → MutK (H a)
  hta : F ta
  tape : H ta = some (.dK (tapeK ca tp))
  nca : ¬ F ca
  cells : H ca = some (.lst (tp.cells.map V.int))
  tabs : g.T H
theorem World.nt {g : G} {F : Addr → Prop} {ta ca : Addr} {H : Hp} {tp : Tp} (w : World g F ta ca H tp) : ∀ a, F a → NT (H a) := fun a z => (w.trk a z).nt
/-- a dict of one's own -/
inductive OwD (K : PySem.W.Frag) (H : Hp) (F : Addr → Prop) (a : Addr) : Bool → List (D × D) → Prop where
  | k {kvs : List (L2.Key × V)} {ds : List (D × D)} : H a = some (.dK kvs) → hdK kvs → ds.map (·.1) = kvs.map (fun p => kD p.1) → Reps K H F (kvs.map (·.2)) (ds.map (·.2)) → OwD K H F a true ds
  | t {es : Array DictEntry} {ep : Nat} {xs : List (NestedKey × Addr × Value)} {vs : List V} {ds : List (D × D)} : H a = some (tdO a es ep) → TE0 a es xs → TD xs vs ds → Reps K H F (xs.map fun x => V.ref x.2.1) (ds.map (·.1)) → Reps K H F vs (ds.map (·.2)) → OwD K H F a false ds
theorem OwD.r {K : PySem.W.Frag} {H : Hp} {F : Addr → Prop} {a : Addr} {kb : Bool} {ds : List (D × D)} (h : OwD K H F a kb ds) : RepR K H F (.ref a) (.dict ds) := by
  cases h with
  | k e n q r => exact .dcK e n q r
  | t e z q r r' => exact .dcT e z q r r'
/-- what slot i holds, as B tells -/
def SlotOk (K : PySem.W.Frag) (F : Addr → Prop) (ta : Addr) (H : Hp) (σ : St) (i : Nat) : B → Prop
  | .un => True
  | .val d => ∃ v, σ[i]? = some (some v) ∧ Rep K H F v d
  | .own ds => ∃ a vs, σ[i]? = some (some (.ref a)) ∧ F a ∧ a ≠ ta ∧ H a = some (.lst vs) ∧ Reps K H F vs ds
  | .owd kb ds => ∃ a, σ[i]? = some (some (.ref a)) ∧ F a ∧ a ≠ ta ∧ OwD K H F a kb ds
  | .tape => σ[i]? = some (some (.ref ta))
structure EnvOk (g : G) (K : PySem.W.Frag) (F : Addr → Prop) (ta ca : Addr) (H : Hp) (σ : St) (env : QE) (tp : Tp) : Prop where
  len : env.length = σ.length
  wd : World g F ta ca H tp
  slot : ∀ i, SlotOk K F ta H σ i (getB env i)
  uniq : ∀ i j a, isOwn (getB env i) = true → isOwn (getB env j) = true → σ[i]? = some (some (.ref a)) → σ[j]? = some (some (.ref a)) → i = j
section
variable {g : G} {K : PySem.W.Frag} {F F' : Addr → Prop} {ta ca : Addr} {H H' : Hp} {σ : St} {env : QE} {tp tp' : Tp}
theorem SlotOk.ext {i : Nat} {b : B} (t : ∀ a, F a → NT (H a)) (e : Ext ta H H') (h : SlotOk K F ta H σ i b) : SlotOk K F ta H' σ i b := by
  cases b with
  | un => trivial
  | val d =>
    obtain ⟨v, h1, h2⟩ := h
    exact ⟨v, h1, h2.step t (e.mono fun _ z => z.elim)⟩
  | own ds =>
    obtain ⟨a, vs, h1, h2, h3, h4, h5⟩ := h
    exact ⟨a, vs, h1, h2, h3, e _ _ (fun z => z) h4 True.intro, h5.step t (e.mono fun _ z => z.elim)⟩
  | owd kb k =>
    obtain ⟨a, h1, h2, h3, h4⟩ := h
    refine ⟨a, h1, h2, h3, ?_⟩
    cases h4 with
    | k e1 n q r => exact .k (e _ _ (fun z => z) e1 (.inl h3)) n q (r.step t (e.mono fun _ z => z.elim))
    | t e1 z q r r' => exact .t (e _ _ (fun z => z) e1 True.intro) z q (r.step t (e.mono fun _ z => z.elim)) (r'.step t (e.mono fun _ z => z.elim))
  | tape => exact h
theorem EnvOk.ext (E : EnvOk g K F ta ca H σ env tp) (e : Ext ta H H') (w : World g F ta ca H' tp') : EnvOk g K F ta ca H' σ env tp' :=
  ⟨E.len, w, fun i => (E.slot i).ext E.wd.nt e, E.uniq⟩
theorem getB_some {i : Nat} {b : B} (h : getB env i = b) (hb : b ≠ .un) : env[i]? = some b := by
  unfold getB at h
  cases q : env[i]? with
  | none => rw [q] at h; exact absurd h.symm hb
  | some c => rw [q] at h; exact congrArg some h
theorem getB_set_same {i : Nat} {b : B} (h : i < env.length) : getB (env.set i b) i = b := by
  unfold getB
  rw [List.getElem?_set_self h]
  rfl
theorem getB_set_ne {i j : Nat} {b : B} (h : i ≠ j) : getB (env.set i b) j = getB env j := by
  unfold getB
  rw [List.getElem?_set_ne h]
theorem getB_set_out {i j : Nat} {b : B} (h : ¬ i < env.length) : getB (env.set i b) j = getB env j := by
  unfold getB
  rw [List.set_eq_of_length_le (by omega)]
theorem getB_out {i : Nat} (h : ¬ i < env.length) : getB env i = .un := by
  unfold getB
  rw [List.getElem?_eq_none (by omega)]
  rfl
theorem World.fresh (w : World g F ta ca H tp) {p : Addr} (h : H p = none) : ¬ F p := fun z => by
  have := w.trk p z
  rw [h] at this
  exact this
theorem World.new (w : World g F ta ca H tp) {p : Addr} {o : HO} (h : H p = none) : World g F ta ca (upd H p o) tp := by
  have n : ∀ b u, H b = some u → upd H p o b = some u := fun b u e => by
    rw [upd_ne (ne_of_none e h)]
    exact e
  refine ⟨fun a z => ?_, w.hta, n _ _ w.tape, w.nca, n _ _ w.cells, g.TS (ta := ta) w.hta w.trk (fun b u _ e _ => n b u e) w.tabs⟩
  have := w.trk a z
  cases q : H a with
  | none =>
    rw [q] at this
    exact this.elim
  | some u =>
    rw [q] at this
    rw [n a u q]
    exact this
theorem Ext.new {p : Addr} {o : HO} (h : H p = none) : Ext ta H (upd H p o) := St8.new h
theorem World.stepR {v : V} {d : D} (w : World g F ta ca H tp) (e : Ext ta H H') (r : Rep K H F v d) : Rep K H' F v d := r.step w.nt (e.mono fun _ z => z.elim)
theorem World.stepRs {v : List V} {d : List D} (w : World g F ta ca H tp) (e : Ext ta H H') (r : Reps K H F v d) : Reps K H' F v d := r.step w.nt (e.mono fun _ z => z.elim)
/-- a new list, a new tuple of data -/
theorem new_lst (w : World g F ta ca H tp) {vs : List V} {ds : List D} (r : Reps K H F vs ds) {p : Addr} (h : H p = none) : Rep K (upd H p (.lst vs)) F (.ref p) (.list ds) :=
  .lst upd_same (w.fresh h) (w.stepRs (Ext.new h) r)
theorem new_tup (w : World g F ta ca H tp) {vs : List V} {ds : List D} (r : Reps K H F vs ds) {p : Addr} (h : H p = none) : Rep K (upd H p (.tup vs)) F (.ref p) (.tuple ds) :=
  .tup (.inl (.inl upd_same)) (w.stepRs (Ext.new h) r)
end
end Q

set_option Elab.async false
set_option linter.all false
set_option maxRecDepth 100000
namespace Q
open PySem PySem.Spec L2
open PyProof.Rows hiding St
/-! readings -/
section
variable {α β : Type} {g : G} {W : WX} {F : Addr → Prop} {ta ca : Addr} {H H1 : Hp} {σ : St}
def HdG (g : G) (W : WX) (F : Addr → Prop) (ta ca : Addr) (H : Hp) (σ : St) (o : Out α) (R : α → Tp → Hp → Prop) : Prop := match o with
  | .ok a tp' => ∀ H', Ext ta H H' → World g F ta ca H' tp' → R a tp' H'
  | .exc c tp' => ∀ H', Ext ta H H' → World g F ta ca H' tp' → W (g.cls c) none σ H'
  | .bad => False
theorem HdG.mono {o : Out α} {R R' : α → Tp → Hp → Prop} (h : HdG g W F ta ca H σ o R) (f : ∀ a tp' H', Ext ta H H' → World g F ta ca H' tp' → R a tp' H' → R' a tp' H') : HdG g W F ta ca H σ o R' := by
  cases o with
  | ok a tp' => exact fun H' e w => f _ _ _ e w (h H' e w)
  | exc c tp' => exact h
  | bad => exact h
theorem HdG.bind {o : Out α} {f : α → Tp → Out β} {R : β → Tp → Hp → Prop} (h : HdG g W F ta ca H σ (o.bind f) R) : HdG g W F ta ca H σ o fun a tp1 H1 => HdG g W F ta ca H1 σ (f a tp1) R := by
  cases o with
  | ok a tp' =>
    intro H1 e1 w1
    have h : HdG g W F ta ca H σ (f a tp') R := h
    show HdG g W F ta ca H1 σ (f a tp') R
    cases q : f a tp' with
    | ok b tp2 =>
      rw [q] at h
      exact fun H2 e2 w2 => h H2 (e1.trans e2) w2
    | exc c tp2 =>
      rw [q] at h
      exact fun H2 e2 w2 => h H2 (e1.trans e2) w2
    | bad =>
      rw [q] at h
      exact h
  | exc c tp' => exact h
  | bad => exact h
theorem HdG.opt {o : Option α} {tp : Tp} {R : α → Tp → Hp → Prop} (h : HdG g W F ta ca H σ (Out.opt o tp) R) : ∃ a, o = some a ∧ ∀ H', Ext ta H H' → World g F ta ca H' tp → R a tp H' := by
  cases o with
  | none => exact h.elim
  | some a => exact ⟨a, rfl, h⟩
theorem HdG.now {a : α} {tp : Tp} {R : α → Tp → Hp → Prop} (h : HdG g W F ta ca H σ (Out.ok a tp) R) (w : World g F ta ca H tp) : R a tp H := h H (.refl _ _ _) w
theorem HdG.ok {a : α} {tp : Tp} {R : α → Tp → Hp → Prop} (h : HdG g W F ta ca H σ (Out.ok a tp) R) : ∀ H', Ext ta H H' → World g F ta ca H' tp → R a tp H' := h
end
def rdE (g : G) (K : PySem.W.Frag) (W : WX) (Γ : Sm) (m : M) (c : C) : TE := fun σ H Q => ∃ F ta ca env tp, EnvOk g K F ta ca H σ env tp ∧ HdG g W F ta ca H σ (ev Γ m c env tp) fun d _ H' => ∀ v, RepM m K H' F v d → Q v H'
def rdT (g : G) (K : PySem.W.Frag) (W : WX) (Γ : Sm) (c : C) : TT := fun σ H Q => ∃ F ta ca env tp, EnvOk g K F ta ca H σ env tp ∧ HdG g W F ta ca H σ (ev Γ .t c env tp) fun d _ H' => ∀ b, d = .bool b → Q b H'
def rdEs (g : G) (K : PySem.W.Frag) (W : WX) (Γ : Sm) (m : M) (cs : Cs) : TA := fun σ H Q => ∃ F ta ca env tp, EnvOk g K F ta ca H σ env tp ∧ HdG g W F ta ca H σ (evs Γ m cs env tp) fun ds _ H' => ∀ vs, RepMs m K H' F vs ds → Q vs H'
theorem PE.imp {X : Cx} {e : Expr} {t t' : TE} (h : PE X e t) (f : ∀ σ H Q, t' σ H Q → t σ H Q) : PE X e t' := ⟨fun pins s σ H Q I q => h.run pins s σ H Q I (f σ H Q q)⟩
theorem PT.imp {X : Cx} {e : Expr} {t t' : TT} (h : PT X e t) (f : ∀ σ H Q, t' σ H Q → t σ H Q) : PT X e t' := ⟨fun pins s σ H Q I q => h.run pins s σ H Q I (f σ H Q q)⟩
theorem PW.imp {X : Cx} {e : Expr} {t t' : TT} (h : PW X e t) (f : ∀ σ H Q, t' σ H Q → t σ H Q) : PW X e t' := ⟨fun wh pins s σ H Q I q => h.run wh pins s σ H Q I (f σ H Q q)⟩
theorem PA.imp {X : Cx} {e : List Expr} {t t' : TA} (h : PA X e t) (f : ∀ σ H Q, t' σ H Q → t σ H Q) : PA X e t' := ⟨fun pos pins s σ H Q I q => h.run pos pins s σ H Q I (f σ H Q q)⟩
theorem OpR.imp {X : Cx} {f : Value → Value → Sem Value} {r r' : R2} (h : OpR X f r) (i : ∀ x y H Q, r' x y H Q → r x y H Q) : OpR X f r' := fun pins s σ H x y v u Q I rx ry q => h pins s σ H x y v u Q I rx ry (i _ _ _ _ q)
theorem OpR.or {X : Cx} {f : Value → Value → Sem Value} {r r' : R2} (h : OpR X f r) (h' : OpR X f r') : OpR X f (fun x y H Q => r x y H Q ∨ r' x y H Q) := fun pins s σ H x y v u Q I rx ry q => q.elim (fun q => h pins s σ H x y v u Q I rx ry q) fun q => h' pins s σ H x y v u Q I rx ry q
end Q

set_option Elab.async false
set_option linter.all false
set_option maxRecDepth 100000
/-! dicts whose keys are tuples -/
namespace Q
open PySem PySem.Spec L2
open PyProof.Rows hiding St
section
mutual
theorem kyN_depth : ∀ (d : PyData) (n : Nat), kyN d n = true → (kN d).depth ≤ n
  | .none, n, _ => Nat.zero_le _
  | .int _, n, _ => Nat.zero_le _
  | .tuple xs, 0, h => by simp [kyN] at h
  | .tuple xs, n + 1, h => by
    have := kyNs_depth xs n (by simpa [kyN] using h)
    show NestedKey.depthAll (kNs xs) + 1 ≤ n + 1
    omega
  | .bool _, _, h => by simp [kyN] at h
  | .str _, _, h => by simp [kyN] at h
  | .list _, _, h => by simp [kyN] at h
  | .dict _, _, h => by simp [kyN] at h
theorem kyNs_depth : ∀ (d : List PyData) (n : Nat), kyNs d n = true → NestedKey.depthAll (kNs d) ≤ n
  | [], _, _ => Nat.zero_le _
  | x :: xs, n, h => by
    rw [kyNs, Bool.and_eq_true] at h
    have h1 := kyN_depth x n h.1
    have h2 := kyNs_depth xs n h.2
    show max (kN x).depth (NestedKey.depthAll (kNs xs)) ≤ n
    omega
end
mutual
theorem kyN_hash (w w' : PySem.World) : ∀ (d : PyData) (n : Nat), kyN d n = true → (kN d).hash w = (kN d).hash w'
  | .none, n, _ => rfl
  | .int _, n, _ => rfl
  | .tuple xs, 0, h => by simp [kyN] at h
  | .tuple xs, n + 1, h => by
    have := kyNs_hash w w' xs n (by simpa [kyN] using h)
    show reduceHash (Builtin.Tuple.tupleHashOf (NestedKey.hashes w (kNs xs))) = reduceHash (Builtin.Tuple.tupleHashOf (NestedKey.hashes w' (kNs xs)))
    rw [this]
  | .bool _, _, h => by simp [kyN] at h
  | .str _, _, h => by simp [kyN] at h
  | .list _, _, h => by simp [kyN] at h
  | .dict _, _, h => by simp [kyN] at h
theorem kyNs_hash (w w' : PySem.World) : ∀ (d : List PyData) (n : Nat), kyNs d n = true → NestedKey.hashes w (kNs d) = NestedKey.hashes w' (kNs d)
  | [], _, _ => rfl
  | x :: xs, n, h => by
    rw [kyNs, Bool.and_eq_true] at h
    show (kN x).hash w :: NestedKey.hashes w (kNs xs) = (kN x).hash w' :: NestedKey.hashes w' (kNs xs)
    rw [kyN_hash w w' x n h.1, kyNs_hash w w' xs n h.2]
end
mutual
theorem kqN_eq : ∀ (d e : PyData) (n m : Nat), kyN d n = true → kyN e m = true → kqN d e = NestedKey.beq (kN d) (kN e)
  | .none, .none, _, _, _, _ => rfl
  | .none, .int _, _, _, _, _ => rfl
  | .none, .tuple _, _, _, _, _ => rfl
  | .int _, .none, _, _, _, _ => rfl
  | .int _, .int _, _, _, _, _ => rfl
  | .int _, .tuple _, _, _, _, _ => rfl
  | .tuple _, .none, _, _, _, _ => rfl
  | .tuple _, .int _, _, _, _, _ => rfl
  | .tuple xs, .tuple ys, 0, _, h, _ => by simp [kyN] at h
  | .tuple xs, .tuple ys, n + 1, 0, _, h => by simp [kyN] at h
  | .tuple xs, .tuple ys, n + 1, m + 1, h, h' => by
    show kqNs xs ys = NestedKey.beqAll (kNs xs) (kNs ys)
    exact kqNs_eq xs ys n m (by simpa [kyN] using h) (by simpa [kyN] using h')
  | .bool _, _, _, _, h, _ => by simp [kyN] at h
  | .str _, _, _, _, h, _ => by simp [kyN] at h
  | .list _, _, _, _, h, _ => by simp [kyN] at h
  | .dict _, _, _, _, h, _ => by simp [kyN] at h
  | _, .bool _, _, _, _, h => by simp [kyN] at h
  | _, .str _, _, _, _, h => by simp [kyN] at h
  | _, .list _, _, _, _, h => by simp [kyN] at h
  | _, .dict _, _, _, _, h => by simp [kyN] at h
theorem kqNs_eq : ∀ (d e : List PyData) (n m : Nat), kyNs d n = true → kyNs e m = true → kqNs d e = NestedKey.beqAll (kNs d) (kNs e)
  | [], [], _, _, _, _ => rfl
  | [], _ :: _, _, _, _, _ => rfl
  | _ :: _, [], _, _, _, _ => rfl
  | x :: xs, y :: ys, n, m, h, h' => by
    rw [kyNs, Bool.and_eq_true] at h h'
    show (kqN x y && kqNs xs ys) = (NestedKey.beq (kN x) (kN y) && NestedKey.beqAll (kNs xs) (kNs ys))
    rw [kqN_eq x y n m h.1 h'.1, kqNs_eq xs ys n m h.2 h'.2]
end
theorem keyT_ky {d : PyData} (h : keyT d = true) : kyN d 8 = true := by
  cases d <;> first | exact h | cases h
theorem keq_T {d e : PyData} (h : keyT d = true) (h' : keyT e = true) : keq d e = decide (kN d = kN e) := by
  rw [NestedKey.decide_eq, ← kqN_eq d e 8 8 (keyT_ky h) (keyT_ky h')]
  cases d <;> first | (cases e <;> first | rfl | cases h') | cases h
end
section
variable {K : PySem.W.Frag} {H : Hp} {F : Addr → Prop} {X : Cx} {pins : List (Addr × Obj)} {σ : L2.St} {s : Shared}
mutual
theorem ky_is (I : Inv X pins σ H s) : ∀ (d : PyData) (n : Nat) (v : V) (u : Value), kyN d n = true → Rep X.K H F v d → RelV v u → NestedIs s.heap (kN d) u
  | .none, n, v, u, _, r, ru => by
    cases r
    cases ru
    exact .none
  | .int i, n, v, u, _, r, ru => by
    cases r
    obtain ⟨t, rfl⟩ := (show ∃ t, u = Value.int i t from ru)
    exact .int i t
  | .tuple xs, 0, _, _, h, _, _ => by simp [kyN] at h
  | .tuple xs, n + 1, v, u, h, r, ru => by
    cases r with
    | tup hq rs =>
      cases ru
      obtain ⟨its, rv, ⟨o, ho, hc, m, hd⟩, _⟩ := I.tuple hq
      exact .tup ho hc hd (by
        have := kys_is I xs n _ its (by simpa [kyN] using h) rs rv
        simpa using this)
  | .bool _, _, _, _, h, _, _ => by simp [kyN] at h
  | .str _, _, _, _, h, _, _ => by simp [kyN] at h
  | .list _, _, _, _, h, _, _ => by simp [kyN] at h
  | .dict _, _, _, _, h, _, _ => by simp [kyN] at h
theorem kys_is (I : Inv X pins σ H s) : ∀ (d : List PyData) (n : Nat) (v : List V) (u : List Value), kyNs d n = true → Reps X.K H F v d → Vals v u → NestedAll s.heap (kNs d) u
  | [], _, _, _, _, r, ru => by
    cases r
    cases ru
    exact .nil
  | x :: xs, n, _, _, h, r, ru => by
    rw [kyNs, Bool.and_eq_true] at h
    cases r with
    | cons r1 r2 =>
      cases ru with
      | cons u1 u2 => exact .cons (ky_is I x n _ _ h.1 r1 u1) (kys_is I xs n _ _ h.2 r2 u2)
end
def KeyAt (K : PySem.W.Frag) (H : Hp) (b : Addr) (k : NestedKey) : Prop := ∃ F d, Rep K H F (.ref b) d ∧ keyT d = true ∧ k = kN d
theorem KeyAt.is (I : Inv X pins σ H s) {b : Addr} {k : NestedKey} (h : KeyAt X.K H b k) : (nestedKind X.prog X.w).is s.heap k b := by
  obtain ⟨F, d, r, hk, rfl⟩ := h
  exact ⟨ky_is I d 8 _ _ (keyT_ky hk) r rfl, kyN_depth d 8 (keyT_ky hk)⟩
def TdR (K : PySem.W.Frag) (H : Hp) (a : Addr) (xs : List (NestedKey × Addr × Value)) : Prop := ∃ es ep, H a = some (tdO a es ep) ∧ TE0 a es xs ∧ ∀ x ∈ xs, KeyAt K H x.2.1 x.1
theorem td_raw (I : Inv X pins σ H s) {a : Addr} {es : Array DictEntry} {ep : Nat} (e : H a = some (tdO a es ep)) : s.heap.DictRaw a es ep :=
  (show ObjOk X.prog X.w H s.heap a (tdO a es ep) from I.hok a _ e).1
theorem TdR.dict (I : Inv X pins σ H s) {a : Addr} {xs : List (NestedKey × Addr × Value)} (t : TdR X.K H a xs) : s.heap.DictOfH (nestedKind X.prog X.w) a xs := by
  obtain ⟨es, ep, e, te, ks⟩ := t
  obtain ⟨o, ho, hc, hd⟩ := td_raw I e
  exact ⟨o, es, ep, ho, hc, hd, te.ent X.w, fun x hx => (ks x hx).is I, te.nd⟩
theorem td_ok {P : Program} {w : PySem.World} {h : Heap} {a : Addr} {es : Array DictEntry} {ep : Nat} (r : h.DictRaw a es ep) : ObjOk P w H h a (tdO a es ep) :=
  ⟨r, let ⟨o, ho, _⟩ := r; ⟨o, ho⟩, fun h1 h2 x k => Heap.DictRaw.at x k⟩
theorem td_keys : ∀ {xs : List (NestedKey × Addr × Value)} {ds : List (PyData × PyData)}, xs.map (·.1) = ds.map (fun p => kN p.1) → (∀ p ∈ ds, keyT p.1 = true) → Reps K H F (xs.map fun x => V.ref x.2.1) (ds.map (·.1)) → ∀ x ∈ xs, KeyAt K H x.2.1 x.1
  | [], _, _, _, _ => fun x hx => by simp at hx
  | x :: xs, [], e, _, _ => by simp at e
  | x :: xs, p :: ds, e, ok, r => by
    simp only [List.map_cons, List.cons.injEq] at e
    rw [List.map_cons, List.map_cons] at r
    cases r with
    | cons r1 r2 =>
      intro y hy
      rcases List.mem_cons.mp hy with rfl | hy
      · exact ⟨F, p.1, r1, ok p (List.mem_cons_self ..), e.1⟩
      · exact td_keys e.2 (fun p hp => ok p (List.mem_cons_of_mem _ hp)) r2 y hy
theorem td_hash {xs : List (NestedKey × Addr × Value)} {ds : List (PyData × PyData)} (e : xs.map (·.1) = ds.map (fun p => kN p.1)) (ok : ∀ p ∈ ds, keyT p.1 = true) (w w' : PySem.World) :
    (xs.map fun x => (⟨NestedKey.hash w x.1, .ref x.2.1, x.2.2⟩ : DictEntry)) = xs.map fun x => (⟨NestedKey.hash w' x.1, .ref x.2.1, x.2.2⟩ : DictEntry) := by
  refine List.map_congr_left fun x hx => ?_
  have hm : x.1 ∈ ds.map (fun p => kN p.1) := by
    rw [← e]
    exact List.mem_map.mpr ⟨x, hx, rfl⟩
  obtain ⟨p, hp, hk⟩ := List.mem_map.mp hm
  rw [← hk, kyN_hash w w' p.1 8 (keyT_ky (ok p hp))]
theorem td_get {kd : PyData} (hk : keyT kd = true) : ∀ {xs : List (NestedKey × Addr × Value)} {vs : List V} {ds : List (PyData × PyData)}, TD xs vs ds → Reps K H F vs (ds.map (·.2)) →
    (∃ b r v d, atKey xs (kN kd) = some (b, r) ∧ RelV v r ∧ dget ds kd = some d ∧ Rep K H F v d) ∨ (atKey xs (kN kd) = none ∧ dget ds kd = none)
  | [], _, [], _, _ => .inr ⟨rfl, rfl⟩
  | [], _, _ :: _, t, _ => by have := t.key; simp at this
  | _ :: _, _, [], t, _ => by have := t.key; simp at this
  | x :: xs, vs, p :: ds, t, r => by
    have e := t.key
    simp only [List.map_cons, List.cons.injEq] at e
    have hv := t.val
    rw [List.map_cons] at hv r
    cases hv with
    | cons v1 v2 =>
      cases r with
      | cons r1 r2 =>
        have ih := td_get hk (xs := xs) (ds := ds) ⟨e.2, fun p hp => t.ok p (List.mem_cons_of_mem _ hp), v2⟩ r2
        have hq : keq p.1 kd = decide (x.1 = kN kd) := by rw [e.1, keq_T (t.ok p (List.mem_cons_self ..)) hk]
        obtain ⟨p1, p2⟩ := p
        obtain ⟨x1, x2, x3⟩ := x
        unfold dget
        have hq : keq p1 kd = decide (x1 = kN kd) := hq
        rw [hq]
        by_cases h : x1 = kN kd
        · rw [decide_eq_true h]
          exact .inl ⟨x2, x3, _, p2, by simp [atKey, List.find?_cons, h], v1, rfl, r1⟩
        · rw [decide_eq_false h]
          have e2 : atKey ((x1, x2, x3) :: xs) (kN kd) = atKey xs (kN kd) := by simp [atKey, List.find?_cons, h]
          rw [e2]
          exact ih
theorem td_any {kd : PyData} (hk : keyT kd = true) : ∀ {xs : List (NestedKey × Addr × Value)} {ds : List (PyData × PyData)}, xs.map (·.1) = ds.map (fun p => kN p.1) → (∀ p ∈ ds, keyT p.1 = true) → (ds.any fun p => keq p.1 kd) = (atKey xs (kN kd)).isSome
  | [], [], _, _ => rfl
  | [], _ :: _, e, _ => by simp at e
  | _ :: _, [], e, _ => by simp at e
  | x :: xs, p :: ds, e, ok => by
    simp only [List.map_cons, List.cons.injEq] at e
    have ih := td_any hk e.2 (fun p hp => ok p (List.mem_cons_of_mem _ hp))
    have hq : keq p.1 kd = decide (x.1 = kN kd) := by rw [e.1, keq_T (ok p (List.mem_cons_self ..)) hk]
    rw [List.any_cons, hq, ih]
    by_cases h : x.1 = kN kd
    · simp [atKey, List.find?_cons, h]
    · simp [atKey, List.find?_cons, h]
theorem td_map {kd d : PyData} {v : V} {r : Value} (hk : keyT kd = true) (rv : RelV v r) (rd : Rep K H F v d) : ∀ {xs : List (NestedKey × Addr × Value)} {vs : List V} {ds : List (PyData × PyData)}, TD xs vs ds → Reps K H F (xs.map fun x => V.ref x.2.1) (ds.map (·.1)) → Reps K H F vs (ds.map (·.2)) →
    ∃ vs', TD (xs.map (putAt (kN kd) r)) vs' (ds.map fun p => match keq p.1 kd with | true => (p.1, d) | false => p) ∧ Reps K H F ((xs.map (putAt (kN kd) r)).map fun x => V.ref x.2.1) ((ds.map fun p => match keq p.1 kd with | true => (p.1, d) | false => p).map (·.1)) ∧
      Reps K H F vs' ((ds.map fun p => match keq p.1 kd with | true => (p.1, d) | false => p).map (·.2))
  | [], _, [], t, r1, r2 => ⟨[], ⟨rfl, fun p hp => by simp at hp, .nil⟩, .nil, .nil⟩
  | [], _, _ :: _, t, _, _ => by have := t.key; simp at this
  | _ :: _, _, [], t, _, _ => by have := t.key; simp at this
  | x :: xs, vs, p :: ds, t, ra, rb => by
    have e := t.key
    simp only [List.map_cons, List.cons.injEq] at e
    have hv := t.val
    rw [List.map_cons] at hv rb
    rw [List.map_cons, List.map_cons] at ra
    cases hv with
    | @cons w _ ws _ v1 v2 =>
      cases ra with
      | cons ra1 ra2 =>
        cases rb with
        | cons rb1 rb2 =>
          have hp := t.ok p (List.mem_cons_self ..)
          obtain ⟨vs', t', a', b'⟩ := td_map hk rv rd (xs := xs) (ds := ds) ⟨e.2, fun p hp => t.ok p (List.mem_cons_of_mem _ hp), v2⟩ ra2 rb2
          have hq : keq p.1 kd = decide (x.1 = kN kd) := by rw [e.1, keq_T hp hk]
          by_cases h : x.1 = kN kd
          · rw [decide_eq_true h] at hq
            refine ⟨v :: vs', ⟨?_, fun q hq' => ?_, ?_⟩, ?_, ?_⟩
            · simp only [List.map_cons, hq, putAt, h, if_true]
              rw [List.cons.injEq]
              refine ⟨by rw [← h, e.1], t'.key⟩
            · rw [List.map_cons] at hq'
              rcases List.mem_cons.mp hq' with rfl | hq'
              · simp only [hq]; exact hp
              · exact t'.ok q hq'
            · simp only [List.map_cons, putAt, h, if_true]
              exact .cons rv t'.val
            · simp only [List.map_cons, hq, putAt, h, if_true]
              exact .cons ra1 a'
            · simp only [List.map_cons, hq]
              exact .cons rd b'
          · rw [decide_eq_false h] at hq
            refine ⟨w :: vs', ⟨?_, fun q hq' => ?_, ?_⟩, ?_, ?_⟩
            · simp only [List.map_cons, hq, putAt, h, if_false]
              rw [List.cons.injEq]
              refine ⟨e.1, t'.key⟩
            · rw [List.map_cons] at hq'
              rcases List.mem_cons.mp hq' with rfl | hq'
              · simp only [hq]; exact hp
              · exact t'.ok q hq'
            · simp only [List.map_cons, putAt, h, if_false]
              exact .cons v1 t'.val
            · simp only [List.map_cons, hq, putAt, h, if_false]
              exact .cons ra1 a'
            · simp only [List.map_cons, hq]
              exact .cons rb1 b'
theorem td_put {kd d : PyData} {v : V} {r : Value} {b : Addr} (hk : keyT kd = true) (rk : Rep K H F (.ref b) kd) (rv : RelV v r) (rd : Rep K H F v d) {xs : List (NestedKey × Addr × Value)} {vs : List V} {ds : List (PyData × PyData)} (t : TD xs vs ds) (ra : Reps K H F (xs.map fun x => V.ref x.2.1) (ds.map (·.1))) (rb : Reps K H F vs (ds.map (·.2))) :
    ∃ vs', TD (storedH xs (kN kd) b r) vs' (dput ds kd d) ∧ Reps K H F ((storedH xs (kN kd) b r).map fun x => V.ref x.2.1) ((dput ds kd d).map (·.1)) ∧ Reps K H F vs' ((dput ds kd d).map (·.2)) := by
  have ha := td_any hk t.key t.ok
  unfold dput storedH
  rw [ha]
  cases h : (atKey xs (kN kd)).isSome with
  | true =>
    rw [if_pos rfl]
    exact td_map hk rv rd t ra rb
  | false =>
    rw [if_neg Bool.false_ne_true]
    refine ⟨vs ++ [v], ⟨?_, fun p hp => ?_, ?_⟩, ?_, ?_⟩
    · rw [List.map_append, List.map_append, t.key]; rfl
    · rcases List.mem_append.mp hp with hp | hp
      · exact t.ok p hp
      · have : p = (kd, d) := by simpa using hp
        rw [this]; exact hk
    · have ap : ∀ {xs : List V} {us : List Value}, Vals xs us → Vals (xs ++ [v]) (us ++ [r]) := fun q => by
        induction q with
        | nil => exact .cons rv .nil
        | cons a _ ih => exact .cons a ih
      rw [List.map_append]
      exact ap t.val
    · rw [List.map_append, List.map_append]
      exact ra.append (.cons rk .nil)
    · rw [List.map_append]
      exact rb.append (.cons rd .nil)
theorem dput_len (ds : List (PyData × PyData)) (k d : PyData) : (dput ds k d).length ≤ ds.length + 1 := by
  unfold dput
  split <;> simp
end
/-! the steps -/
def TGet (K : PySem.W.Frag) (H : Hp) (a : Addr) (y : V) (o : Option V) : Prop := ∃ b k xs, y = .ref b ∧ KeyAt K H b k ∧ TdR K H a xs ∧ (a == sysModules) = false ∧ RelO o ((atKey xs k).map (·.2))
section
variable {X : Cx} {pins : List (Addr × Obj)} {σ : L2.St} {H : Hp} {s : Shared} {a : Addr} {y d : V} {u r : Value} {o : Option V} {A : Around} {E : Value → Shared → Prop}
theorem t_getItem {v : V} {Q : Value → Shared → Prop} (hu : A.units + 9 < cLine) (I : Inv X pins σ H s) (g : TGet X.K H a y (some v)) (ry : RelV y u) (h : ∀ w' s', Inv X pins σ H s' → RelV v w' → Q w' s') :
    wpAny (model X.prog X.w) A (getItem (.ref a) u) Q E s := by
  obtain ⟨b, k, xs, rfl, ka, td, hs, l⟩ := g
  cases ry
  obtain ⟨w', hw, rw'⟩ := RelO.some_of l
  obtain ⟨p, hp, hp2⟩ := Option.map_eq_some_iff.mp hw
  refine wpAny_getItem_heap (knd := nestedKind X.prog X.w) (show A.units + 1 + 8 < cLine by omega) (ka.is I) (td.dict I) hp ?_
  rw [hp2]
  exact h w' _ (I.tok _) rw'
theorem t_get2 {Q : Value → Shared → Prop} (hu : A.units + 9 < cLine) (I : Inv X pins σ H s) (g : TGet X.K H a y o) (ry : RelV y u) (rd : RelV d r) (h : ∀ w' s', Inv X pins σ H s' → RelV (o.getD d) w' → Q w' s') :
    wpAny (model X.prog X.w) A (call (.builtin "dict.get") [.ref a, u, r]) Q E s := by
  obtain ⟨b, k, xs, rfl, ka, td, hs, l⟩ := g
  cases ry
  refine call_meetsIn PySem.F.slot_dict_get (td.dict I).typeIs PySem.F.entry_dict_get (PySem.F.args_dict_get_3 _ _ _) (meetsH_dict_get_default (nestedKind X.prog X.w) a b hs r) ⟨show A.units + 1 + 8 < cLine by omega, k, xs, ka.is I, td.dict I, h _ _ (I.tok _) ?_⟩
  exact l.getD rd
theorem t_in {Q : Value → Shared → Prop} (hu : A.units + 9 < cLine) (I : Inv X pins σ H s) (g : TGet X.K H a y o) (ry : RelV y u) (h : ∀ s', Inv X pins σ H s' → Q (.bool o.isSome) s') :
    wpAny (model X.prog X.w) A (compareOp .In u (.ref a)) Q E s := by
  obtain ⟨b, k, xs, rfl, ka, td, hs, l⟩ := g
  cases ry
  refine wpAny_in_heap (knd := nestedKind X.prog X.w) (show A.units + 1 + 8 < cLine by omega) (ka.is I) hs (td.dict I) ?_
  have q := l.isSome_eq
  rw [Option.isSome_map] at q
  rw [← q]
  exact h _ (I.tok _)
theorem t_notIn {Q : Value → Shared → Prop} (hu : A.units + 9 < cLine) (I : Inv X pins σ H s) (g : TGet X.K H a y o) (ry : RelV y u) (h : ∀ s', Inv X pins σ H s' → Q (.bool (!o.isSome)) s') :
    wpAny (model X.prog X.w) A (compareOp .NotIn u (.ref a)) Q E s := by
  obtain ⟨b, k, xs, rfl, ka, td, hs, l⟩ := g
  cases ry
  refine wpAny_notIn_heap (knd := nestedKind X.prog X.w) (show A.units + 1 + 8 < cLine by omega) (ka.is I) hs (td.dict I) ?_
  have q := l.isSome_eq
  rw [Option.isSome_map] at q
  rw [← q]
  exact h _ (I.tok _)
/-- the heap behind d[y] = v -/
def TPut (K : PySem.W.Frag) (H : Hp) (a : Addr) (y v : V) (N : Hp → Prop) : Prop := ∃ b k xs, y = .ref b ∧ KeyAt K H b k ∧ TdR K H a xs ∧ xs.length < sizeLine ∧
  ∀ w r es ep, RelV v r → es.toList = (storedH xs k b r).map (fun x => (⟨NestedKey.hash w x.1, .ref x.2.1, x.2.2⟩ : DictEntry)) → ((storedH xs k b r).map (·.1)).Nodup → N (upd H a (tdO a es ep))
theorem t_setItem {v : V} {N : Hp → Prop} {Q : Unit → Shared → Prop} (hu : A.units + 9 < cLine) (I : Inv X pins σ H s) (g : TPut X.K H a y v N) (ry : RelV y u) (rv : RelV v r) (h : ∀ H' s', Inv X pins σ H' s' → N H' → Q () s') :
    wpAny (model X.prog X.w) A (setItem (.ref a) u r) Q E s := by
  obtain ⟨b, k, xs, rfl, ka, td, hl, n⟩ := g
  cases ry
  refine wpAny_setItem_heap (knd := nestedKind X.prog X.w) (hsz := Nat.le_of_lt hl) (show A.units + 1 + 8 < cLine by omega) (ka.is I) (td.dict I) fun h' dd' hs => ?_
  obtain ⟨q, es, ep, hq, h2, h3, h4, _, h5⟩ := dd'
  obtain ⟨es0, ep0, e0, _⟩ := td
  refine h _ _ (d_write I (by rw [e0]; exact True.intro) hs ⟨q, hq⟩ (td_ok ⟨q, hq, h2, h3⟩)) (n X.w r es ep rv h4 h5)
end
def DG (K : PySem.W.Frag) (H : Hp) (a : Addr) (y : V) (o : Option V) : Prop := DGet H a y o ∨ TGet K H a y o
def IsDX (K : PySem.W.Frag) (H : Hp) (a : Addr) : Prop := IsD H a ∨ ∃ xs, TdR K H a xs
section
variable {X : Cx} {o e f i value : Expr} {apos cpos pos pos' : Pos} {td ty tx tv : TE}
theorem isDX_at {pins : List (Addr × Obj)} {σ : L2.St} {H : Hp} {s : Shared} {a : Addr} (I : Inv X pins σ H s) (d : IsDX X.K H a) :
    s.TypeIs (.ref a) "dict" ∧ (∀ b, Value.ref a = .ref b → ∃ ob, s.heap.get? b = some ob ∧ ob.dict = none) := by
  rcases d with d | ⟨xs, t⟩
  · obtain ⟨h1, h2, _⟩ := isD_at I d
    exact ⟨h1, h2⟩
  · have dd := t.dict I
    refine ⟨dd.typeIs, fun b q => ?_⟩
    cases q
    obtain ⟨ob, _, _, h1, h2, _⟩ := dd
    exact ⟨ob, h1, h2.2.1⟩
def tDGet2X (K : PySem.W.Frag) (td ty tx : TE) : TE := fun σ H Q => td σ H fun x H1 => ∃ a, x = .ref a ∧ IsDX K H1 a ∧ ty σ H1 fun y H2 => tx σ H2 fun z H3 => ∃ o, DG K H3 a y o ∧ Q (o.getD z) H3
theorem pe_dget2X (hu : X.A.units + 9 < cLine) (ho : PE X o td) (he : PE X e ty) (hf : PE X f tx) (m : M2 X o "get" apos e f cpos) : PE X (.Call (.Attribute o "get" apos) [e, f] [] cpos) (tDGet2X X.K td ty tx) := by
  refine ⟨fun pins s σ H Q I h => ?_⟩
  refine wpAny_Call_method m.base m.few m.line PySem.F.plainAttrs_dict PySem.F.slot_dict_get PySem.F.type_dict_get (thn (ho.run pins s σ H _ I h) fun u s1 ⟨x, H1, I1, rx, a, ex, d, q1⟩ => ?_)
  subst ex
  obtain rfl : u = Value.ref a := rx
  obtain ⟨t1, t2⟩ := isDX_at I1 d
  refine ⟨t1, t2, ?_⟩
  rw [m.trees]
  refine Calls.callWith_builtin rfl (Calls.evalArgs_plain (Calls.spliced_cons (thn (he.run pins s1 σ H1 _ I1 q1) fun iv s2 ⟨y, H2, I2, ry, q2⟩ =>
    Calls.spliced_cons (thn (hf.run pins s2 σ H2 _ I2 q2) fun fv s3 ⟨z, H3, I3, rz, ov, g, q3⟩ => Calls.spliced_nil ?_))))
  rcases g with g | g
  · exact d_get2 (by omega) I3 g ry rz fun w' s4 I4 rw' => ⟨_, H3, I4, rw', q3⟩
  · exact t_get2 hu I3 g ry rz fun w' s4 I4 rw' => ⟨_, H3, I4, rw', q3⟩
def tDGetX (K : PySem.W.Frag) (td ty : TE) : TE := fun σ H Q => td σ H fun x H1 => ty σ H1 fun y H2 => ∃ a v, x = .ref a ∧ DG K H2 a y (some v) ∧ Q v H2
theorem pe_dgetX (hu : X.A.units + 9 < cLine) (ho : PE X o td) (hi : PE X i ty) (hs : NoSl i) : PE X (.Subscript o i pos) (tDGetX X.K td ty) := by
  refine ⟨fun pins s σ H Q I h => ?_⟩
  refine subD_of PySem.F.slot_dict_getitem.lookup hs (thn (ho.run pins s σ H _ I h) fun u s1 ⟨x, H1, I1, rx, q1⟩ => thn (hi.run pins s1 σ H1 _ I1 q1) fun iv s2 ⟨y, H2, I2, ry, a, v, ex, g, q2⟩ => ?_)
  subst ex
  obtain rfl : u = Value.ref a := rx
  rcases g with g | g
  · exact ⟨dict_typeIs I2 g, d_getItem (by omega) I2 g ry fun w' s3 I3 rw' => ⟨v, H2, I3, rw', q2⟩⟩
  · obtain ⟨b, k, xs, rfl, ka, t, _⟩ := id g
    exact ⟨(t.dict I2).typeIs, t_getItem hu I2 g ry fun w' s3 I3 rw' => ⟨v, H2, I3, rw', q2⟩⟩
def tDInX (K : PySem.W.Frag) (ty td : TE) : TE := fun σ H Q => ty σ H fun y H1 => td σ H1 fun x H2 => ∃ a o, x = .ref a ∧ DG K H2 a y o ∧ Q (.bl o.isSome) H2
def tDNotInX (K : PySem.W.Frag) (ty td : TE) : TE := fun σ H Q => ty σ H fun y H1 => td σ H1 fun x H2 => ∃ a o, x = .ref a ∧ DG K H2 a y o ∧ Q (.bl (!o.isSome)) H2
theorem pc_dinX (hu : X.A.units + 9 < cLine) (hi : PE X i ty) (ho : PE X o td) : PC X .In i o (tDInX X.K ty td) := by
  refine ⟨fun pins s σ H Q I h => ?_⟩
  refine thn (hi.run pins s σ H _ I h) fun iv s1 ⟨y, H1, I1, ry, q1⟩ => thn (ho.run pins s1 σ H1 _ I1 q1) fun u s2 ⟨x, H2, I2, rx, a, ov, ex, g, q2⟩ => ?_
  subst ex
  obtain rfl : u = Value.ref a := rx
  rcases g with g | g
  · exact d_in (by omega) I2 g ry fun s3 I3 => ⟨.bl ov.isSome, H2, I3, rfl, q2⟩
  · exact t_in hu I2 g ry fun s3 I3 => ⟨.bl ov.isSome, H2, I3, rfl, q2⟩
theorem pc_dnotinX (hu : X.A.units + 9 < cLine) (hi : PE X i ty) (ho : PE X o td) : PC X .NotIn i o (tDNotInX X.K ty td) := by
  refine ⟨fun pins s σ H Q I h => ?_⟩
  refine thn (hi.run pins s σ H _ I h) fun iv s1 ⟨y, H1, I1, ry, q1⟩ => thn (ho.run pins s1 σ H1 _ I1 q1) fun u s2 ⟨x, H2, I2, rx, a, ov, ex, g, q2⟩ => ?_
  subst ex
  obtain rfl : u = Value.ref a := rx
  rcases g with g | g
  · exact d_notIn (by omega) I2 g ry fun s3 I3 => ⟨.bl (!ov.isSome), H2, I3, rfl, q2⟩
  · exact t_notIn hu I2 g ry fun s3 I3 => ⟨.bl (!ov.isSome), H2, I3, rfl, q2⟩
def sDPutX (K : PySem.W.Frag) (td ty tv : TE) : TS := fun D σ H => tv σ H fun v H1 => td σ H1 fun x H2 => ty σ H2 fun y H3 => ∃ a, x = .ref a ∧ ((∃ H4, DPut H3 a y v H4 ∧ D.nx σ H4) ∨ TPut K H3 a y v (D.nx σ))
theorem ps_dputX (hu : X.A.units + 9 < cLine) (ho : PE X o td) (hi : PE X i ty) (hv : PE X value tv) (hs : swapsWith value (some (.Subscript o i pos')) pos.line X.env = pure false) :
    PS X (.Assign [.Subscript o i pos'] value pos) (sDPutX X.K td ty tv) := by
  refine ⟨fun pins s σ H D I h => ?_⟩
  refine wpAny_Assign_Subscript (thn (hv.run pins s σ H _ I h) fun r s1 ⟨v, H1, I1, rv, q1⟩ => thn (ho.run pins s1 σ H1 _ I1 q1) fun u s2 ⟨x, H2, I2, rx, q2⟩ => thn (hi.run pins s2 σ H2 _ I2 q2) fun iv s3 ⟨y, H3, I3, ry, a, ex, g⟩ => ?_) hs
  subst ex
  obtain rfl : u = Value.ref a := rx
  rcases g with ⟨H4, g, q3⟩ | g
  · exact d_setItem (by omega) I3 g ry rv fun s4 I4 => ⟨σ, H4, I4, q3⟩
  · exact t_setItem hu I3 g ry rv fun H4 s4 I4 q3 => ⟨σ, H4, I4, q3⟩
/-- {} -/
def tDNewX : TE := fun _ H Q => ∀ p es ep, H p = none → TE0 p es [] → Q (.ref p) (upd H p (tdO p es ep))
theorem te_empty {p : Addr} (hs : (p == sysModules) = false) : TE0 p #[] [] := ⟨fun _ => rfl, List.nodup_nil, Nat.zero_le _, hs⟩
theorem big_sys {h : Heap} (hb : sysModules < h.objs.size) : (h.objs.size == sysModules) = false := beq_eq_false_iff_ne.mpr (Ne.symm (Nat.ne_of_lt hb))
theorem pe_dnewX : PE X (.Dict [] [] pos) tDNewX := ⟨fun pins s σ H Q I h =>
  wpAny_Dict_empty ⟨.ref s.heap.objs.size, _, I.laid (a := s.heap.objs.size) (o := tdO s.heap.objs.size #[] 0) (t' := s.toks) (fun _ _ q => Heap.get?_push_of_some _ q) (Nat.le_refl _) (td_ok ⟨_, Heap.get?_push_size _ rfl, ⟨rfl, rfl, rfl⟩, rfl⟩), rfl, h _ _ _ (I.hok.fresh (Nat.le_refl _)) (te_empty (big_sys I.big))⟩⟩
/-- {key: v} -/
def tDisp1X (K : PySem.W.Frag) (tk tv : TE) : TE := fun σ H Q => ∀ p, H p = none → tk σ (upd H p (.dT [])) fun y H1 => tv σ H1 fun v H2 => H2 p = some (.dT []) ∧ ∃ b k, y = .ref b ∧ KeyAt K H2 b k ∧
  ∀ w r es ep, RelV v r → (p == sysModules) = false → es.toList = [(⟨NestedKey.hash w k, .ref b, r⟩ : DictEntry)] → Q (.ref p) (upd H2 p (tdO p es ep))
theorem pe_disp1X {tk tv : TE} {k v : Expr} (hu : X.A.units + 9 < cLine) (hk : PE X k tk) (hv : PE X v tv) : PE X (.Dict [some k] [v] pos) (tDisp1X X.K tk tv) := by
  refine ⟨fun pins s σ H Q I q => ?_⟩
  have hn := I.hok.fresh (Nat.le_refl s.heap.objs.size)
  have I1 := I.laid (a := s.heap.objs.size) (o := .dT []) (h' := s.heap.push { cls := .type "dict", data := .dict #[] }) (t' := s.toks) (fun _ _ q => Heap.get?_push_of_some _ q) (Nat.le_refl _) (dt_empty s.heap I.big)
  have hln := pairTrees_length [some k] [v] X.env pos rfl rfl
  rw [arm_eval_Dict, zip_pairTrees [some k] [v] X.env pos rfl rfl, dictDisplay_pairs (pairTrees [some k] [v] X.env pos) (by intro e; rw [e] at hln; cases hln) (by rw [hln]; exact (by decide : 1 < 17))]
  refine wpAny_bind (wpAny_standAt (wpAny_bind (wpAny_subDictH (knd := nestedKind X.prog X.w) (Q := fun d s' => wpAny (model X.prog X.w) X.A (pure (Value.ref d)) _ _ s') (show X.A.units + 8 < cLine by omega) (by rw [hln]; exact (by decide : 1 ≤ 15)) ?_)))
  refine pairTrees_cons_walk (thn (hk.run pins _ σ _ _ I1 (q _ hn)) fun u s1 ⟨y, H1, I2, ry, q1⟩ => thn (hv.run pins s1 σ H1 _ I2 q1) fun r s2 ⟨z, H2, I3, rz, e, b, kk, ey, ka, q2⟩ => pairTrees_nil_walk ?_)
  subst ey
  cases ry
  obtain ⟨z1, hd, xs0, rel, ob, es0, ep0, hob, h2, h3, h4, h5⟩ := (show ObjOk X.prog X.w H2 s2.heap s.heap.objs.size (.dT []) from I3.hok _ _ e)
  cases rel
  refine ⟨[(kk, b, r)], ⟨rfl, rfl, ka.is I3, trivial⟩, ⟨ob, es0, ep0, hob, h2, h3, by simpa using h4, fun x hx => by simp at hx, by simp⟩, fun h' tk' dd hs => ?_⟩
  obtain ⟨o', es, ep, g1, g2, g3, g4, _, _⟩ := dd
  refine wpAny_pure ⟨.ref s.heap.objs.size, _, d_write I3 (by rw [e]; exact True.intro) hs ⟨o', g1⟩ (td_ok ⟨o', g1, g2, g3⟩), rfl, q2 X.w r es ep rz hd ?_⟩
  simpa [storedAllH, storedH, atKey, entryOfKey, nestedKind] using g4
end
end Q

set_option Elab.async false
set_option linter.all false
set_option maxRecDepth 100000
namespace Q
open PySem PySem.Spec L2
open PyProof.Rows hiding St
/-! ### operators -/
def opOf : BO → Operator
  | .add => .Add | .sub => .Sub | .mul => .Mult | .fdiv => .FloorDiv | .mod => .Mod | .shl => .LShift
def coOf : CO → CmpOp
  | .lt => .Lt | .le => .LtE | .gt => .Gt | .ge => .GtE | .eq => .Eq | .ne => .NotEq | .mem => .In | .nmem => .NotIn | .is => .Is | .isnt => .IsNot
def rAddS : R2 := fun x y H Q => ∃ i j, x = .str i ∧ y = .str j ∧ i.length + j.length ≤ sizeLine ∧ Q (.str (i ++ j)) H
def rRepS : R2 := fun x y H Q => ∃ (z : Str) (k : Int), x = .str z ∧ y = .int k ∧ 0 ≤ k ∧ k ≤ 1000 ∧ z.length ≤ 1000 ∧ Q (.str (repS z k)) H
theorem rep_size (x : Array Nat) : ∀ (n : Nat) (acc : Array Nat), ((List.replicate n x).foldl (· ++ ·) acc).size = acc.size + n * x.size
  | 0, acc => by simp
  | n + 1, acc => by
    rw [List.replicate_succ, List.foldl_cons, rep_size x n, Array.size_append, Nat.succ_mul]
    omega
theorem op_repS {X : Cx} : OpR X (binaryOp .Mult) rRepS := by
  intro pins s σ H x y v u Q I rx ry h
  obtain ⟨z, k, rfl, rfl, h0, h1, h2, q⟩ := h
  obtain ⟨t, rfl⟩ := rx
  obtain ⟨t', rfl⟩ := ry
  have hk : z.length * k.toNat ≤ 1000 * 1000 := Nat.mul_le_mul h2 (by omega)
  have hz : (z.length * k.toNat) ≤ sizeLine := by rw [sizeLine_eq]; omega
  refine P.mul_str (by rw [decide_eq_false (by omega), decide_eq_false (by omega)]; rfl) (fun hn _ => ?_) (fun hn _ => by unfold Builtin.Str.tooLong; exact decide_eq_false (by omega)) ?_
  · have h3 : (1000 : Int) ≤ (2 ^ 63 - 1) / k := (Int.le_ediv_iff_mul_le (by omega)).mpr (by omega)
    have h4 : (z.length : Int) ≤ 1000 := by omega
    omega
  · unfold repS at q
    by_cases hn : k < 1
    · rw [decide_eq_true hn] at q
      rw [if_pos hn]
      exact ⟨by decide, .str Str.empty, H, I.tok _, ⟨_, rfl⟩, q⟩
    · rw [decide_eq_false hn] at q
      rw [if_neg hn]
      cases hb : k == 1 || z.length == 0 with
      | true =>
        rw [hb] at q
        rw [if_pos rfl]
        exact ⟨.str z, H, I, ⟨_, rfl⟩, q⟩
      | false =>
        rw [hb] at q
        rw [if_neg Bool.false_ne_true]
        refine ⟨?_, .str _, H, I.tok _, ⟨_, rfl⟩, q⟩
        show (((List.replicate k.toNat z.cps).foldl (· ++ ·) #[]).size) ≤ sizeLine
        rw [rep_size]
        have : z.cps.size = z.length := rfl
        rw [this, Nat.mul_comm]
        simpa using hz
theorem tuple_mul1 (l : Addr) (items : Array Value) (n : Nat) (dd : Option Addr) (sl : Array (Option Value)) (u : Tok) :
    Meets (Builtin.«tuple.__mul__» ⟨[.ref l, .int 1 u], []⟩) (fun _ R s => s.heap.get? l = some { cls := .type "tuple", dict := dd, data := .seq items n, slots := sl } ∧ R (.ok (.ret (Value.ref l))) s) :=
  .of_wp fun prog w A R s h => by
    obtain ⟨hp, g, d, tk, os⟩ := s
    obtain ⟨hl, h⟩ := h
    have f1 := AutoSeq1.idx_int
    have c0 : (decide ((1 : Int) < -(2 ^ 63)) || decide ((1 : Int) ≥ 2 ^ 63)) = false := by decide
    have c1 : (items.isEmpty || (1 : Int) == 1) = true := by cases items.isEmpty <;> rfl
    wp_walk using wpAny_loadPart' hl
    repeat (first
      | (refine wpAny_ite_false (decide_eq_false (by rw [c0]; exact Bool.false_ne_true)) ?_; wp_walk using wpAny_loadPart' hl)
      | (refine wpAny_ite_true (decide_eq_true (by rw [c1])) ?_; wp_walk using wpAny_loadPart' hl))
    exact ⟨_, rfl, h⟩
def rRepT1 (K : PySem.W.Frag) : R2 := fun x y H Q => ∃ l xs, x = .ref l ∧ y = .int 1 ∧ SqT K H l xs ∧ Q (.ref l) H
theorem op_repT1 {X : Cx} : OpR X (binaryOp .Mult) (rRepT1 X.K) := by
  intro pins s σ H x y v u Q I rx ry h
  obtain ⟨l, xs, rfl, rfl, hT, q⟩ := h
  cases rx
  obtain ⟨t, rfl⟩ := ry
  obtain ⟨its, r, ⟨⟨cls, dd, data, sl⟩, ho, hc, n, hd⟩, hs⟩ := I.tuple hT
  simp only at hc hd
  subst hc hd
  exact wpAny_binaryOp_repeat_ref (T := "tuple") (U := "int") (by decide) ⟨_, ho, rfl⟩ (fun s' => typeIs_int s' 1 t) noFill_tuple_mul F.fills_int_mul F.slot_int_rmul repeat_tuple F.slot_int_index.lookup
    (call_meets F.slot_int_rmul (typeIs_int s 1 t) F.entry_int_rmul (F.args_int_rmul_2 _ _) (int_rmul_tuple 1 t l its.toArray n dd sl)
      ⟨ho, rfl, ⟨_, ho, rfl⟩, call_meets F.slot_tuple_mul ⟨_, ho, rfl⟩ F.entry_tuple_mul (F.args_tuple_mul_2 _ _) (tuple_mul1 l its.toArray n dd sl t) ⟨ho, .ref l, H, I, rfl, q⟩⟩)
def rBin (K : PySem.W.Frag) : BO → R2
  | .add => fun x y H Q => (rI0 fun i j => .int (i + j)) x y H Q ∨ (rAddS x y H Q ∨ (rCat x y H Q ∨ rCatA K x y H Q))
  | .sub => rI0 fun i j => .int (i - j)
  | .mul => fun x y H Q => (rI CMulW fun i j => .int (i * j)) x y H Q ∨ (rRep x y H Q ∨ (rRepT K x y H Q ∨ (rRepS x y H Q ∨ rRepT1 K x y H Q)))
  | .fdiv => rI CDivW fun i j => .int (i / j)
  | .mod => rI (fun _ j => 0 < j) fun i j => .int (i % j)
  | .shl => rI CPow fun i j => .int (i * 2 ^ j.toNat)
theorem op_bin {X : Cx} (o : BO) : OpR X (binaryOp (opOf o)) (rBin X.K o) := by
  cases o with
  | add => exact OpR.or op_add (OpR.or op_add_str (OpR.or op_cat op_catA))
  | sub => exact op_sub
  | mul => exact OpR.or op_mulW (OpR.or op_rep (OpR.or op_repT (OpR.or op_repS op_repT1)))
  | fdiv => exact op_fdivW
  | mod => exact op_mod
  | shl => exact op_shl
theorem grd_some {α : Type} {b : Bool} {x y : α} (h : grd b x = some y) : b = true ∧ x = y := by
  cases b with
  | true => exact ⟨rfl, Option.some.inj h⟩
  | false => cases h
theorem big_le {n : Nat} (h : big n = true) : n ≤ sizeLine := by
  rw [sizeLine_eq]
  exact Nat.le_of_ble_eq_true h
theorem blt_lt {a b : Nat} (h : Nat.blt a b = true) : a < b := Nat.le_of_ble_eq_true h
theorem band {a b : Bool} (h : (a && b) = true) : a = true ∧ b = true := Bool.and_eq_true_iff.mp h
section
variable {g : G} {K : PySem.W.Frag} {F : Addr → Prop} {ta ca : Addr} {H : Hp} {tp : Tp} {x y : V} {d e z : D} {Q : VK}
theorem RepR.int_inv {i : Int} (r : RepR K H F x (.int i)) : x = .int i := by
  cases r with
  | of r => cases r; rfl
theorem RepR.bool_inv {i : Bool} (r : RepR K H F x (.bool i)) : x = .bl i := by
  cases r with
  | of r => cases r; rfl
theorem RepR.none_inv (r : RepR K H F x .none) : x = .non := by
  cases r with
  | of r => cases r; rfl
theorem RepR.str_inv {i : Str} (r : RepR K H F x (.str i)) : x = .str i := by
  cases r with
  | of r => cases r; rfl
theorem RepR.lst_inv {ds : List D} (r : RepR K H F x (.list ds)) : ∃ a xs, x = .ref a ∧ H a = some (.lst xs) ∧ Reps K H F xs ds := by
  cases r with
  | of r => cases r with
    | lst h n s => exact ⟨_, _, rfl, h, s⟩
  | lst h s => exact ⟨_, _, rfl, h, s⟩
theorem RepR.tup_inv {ds : List D} (r : RepR K H F x (.tuple ds)) : Rep K H F x (.tuple ds) := by
  cases r with
  | of r => exact r
theorem Rep.tup_inv {ds : List D} (r : Rep K H F x (.tuple ds)) : ∃ a xs, x = .ref a ∧ SqT K H a xs ∧ Reps K H F xs ds := by
  cases r with
  | tup h s => exact ⟨_, _, rfl, h, s⟩
end
section
/-! a dict read -/
theorem keq_kD (a b : L2.Key) : keq1 (kD a) (kD b) = decide (a = b) := by
  cases a with
  | inl i =>
    cases b with
    | inl j => simp [kD, keq1]
    | inr y => simp [kD, keq1]
  | inr x =>
    cases b with
    | inl j => simp [kD, keq1]
    | inr y => simp [kD, keq1]
theorem keq_atom (a b : L2.Key) : keq (kD a) (kD b) = decide (a = b) := by
  rw [← keq_kD]
  cases a <;> cases b <;> rfl
theorem valV_cons {κ : Type} [DecidableEq κ] {k : κ} {v : V} {r : List (κ × V)} {x : κ} : valV ((k, v) :: r) x = if k = x then some v else valV r x := by
  unfold valV
  rw [List.find?_cons]
  by_cases h : k = x
  · simp [h]
  · simp [h]
theorem dget_val {K : PySem.W.Frag} {H : Hp} {F : Addr → Prop} {x : L2.Key} : ∀ {kvs : List (L2.Key × V)} {ds : List (D × D)}, ds.map (·.1) = kvs.map (fun p => kD p.1) → Reps K H F (kvs.map (·.2)) (ds.map (·.2)) →
    (∃ v d, valV kvs x = some v ∧ dget ds (kD x) = some d ∧ Rep K H F v d) ∨ (valV kvs x = none ∧ dget ds (kD x) = none)
  | [], [], _, _ => .inr ⟨rfl, rfl⟩
  | [], _ :: _, e, _ => by simp at e
  | _ :: _, [], e, _ => by simp at e
  | (k, v) :: kvs, (kd, d) :: ds, e, r => by
    simp only [List.map_cons, List.cons.injEq] at e
    obtain ⟨e1, e2⟩ := e
    subst e1
    cases r with
    | cons r1 r2 =>
      rw [valV_cons]
      unfold dget
      rw [keq_atom]
      by_cases h : k = x
      · rw [if_pos h, decide_eq_true h]
        exact .inl ⟨v, d, rfl, rfl, r1⟩
      · rw [if_neg h, decide_eq_false h]
        exact dget_val e2 r2
theorem key_inv {K : PySem.W.Frag} {H : Hp} {F : Addr → Prop} {y : V} {k : D} (h : keyB k = true) (r : RepR K H F y k) : ∃ x : L2.Key, k = kD x ∧ y = kV x := by
  cases k with
  | int i => exact ⟨.inl i, rfl, r.int_inv⟩
  | str s => exact ⟨.inr s, rfl, r.str_inv⟩
  | _ => cases h
theorem TGet.mk {K : PySem.W.Frag} {H : Hp} {F F2 : Addr → Prop} {a : Addr} {es : Array DictEntry} {ep : Nat} {xs : List (NestedKey × Addr × Value)} {vs : List V} {ds : List (D × D)} {y : V} {k : D} (e : H a = some (tdO a es ep)) (te : TE0 a es xs) (t : TD xs vs ds) (ra : Reps K H F (xs.map fun x => V.ref x.2.1) (ds.map (·.1))) (rb : Reps K H F vs (ds.map (·.2))) (hk : keyT k = true) (ry : Rep K H F2 y k) :
    (∃ v d, TGet K H a y (some v) ∧ dget ds k = some d ∧ Rep K H F v d) ∨ (TGet K H a y none ∧ dget ds k = none) := by
  have hy : ∃ b, y = .ref b := by
    cases k <;> first | (exact absurd hk Bool.false_ne_true) | (cases ry; exact ⟨_, rfl⟩)
  obtain ⟨b, rfl⟩ := hy
  have ka : KeyAt K H b (kN k) := ⟨F2, k, ry, hk, rfl⟩
  have td : TdR K H a xs := ⟨es, ep, e, te, td_keys t.key t.ok ra⟩
  rcases td_get hk t rb with ⟨c, r, v, d, h1, h2, h3, h4⟩ | ⟨h1, h2⟩
  · exact .inl ⟨v, d, ⟨b, _, xs, rfl, ka, td, te.sys, by rw [h1]; exact h2⟩, h3, h4⟩
  · exact .inr ⟨⟨b, _, xs, rfl, ka, td, te.sys, by rw [h1]; exact True.intro⟩, h2⟩
theorem keyT_rep {K : PySem.W.Frag} {H : Hp} {F : Addr → Prop} {y : V} {k : D} (hk : keyT k = true) (r : RepR K H F y k) : Rep K H F y k := by
  cases k <;> first | exact RepR.tup_inv r | cases hk
theorem RepR.dgetK {K : PySem.W.Frag} {H : Hp} {F : Addr → Prop} {x y : V} {kvs : List (D × D)} {k : D} (r : RepR K H F x (.dict kvs)) (ry : RepR K H F y k) (hk : kindD kvs k = true) (hn : kvs ≠ []) :
    ∃ a, x = .ref a ∧ ((∃ v d, DG K H a y (some v) ∧ dget kvs k = some d ∧ Rep K H F v d) ∨ (DG K H a y none ∧ dget kvs k = none)) := by
  unfold kindD at hk
  rw [Bool.or_eq_true] at hk
  have onK : ∀ {a : Addr} {ks : List (L2.Key × V)}, Rd H a (.dK ks) → kvs.map (·.1) = ks.map (fun p => kD p.1) → Reps K H F (ks.map (·.2)) (kvs.map (·.2)) → ((∃ v d, DG K H a y (some v) ∧ dget kvs k = some d ∧ Rep K H F v d) ∨ (DG K H a y none ∧ dget kvs k = none)) := fun {a ks} e q rv => by
    have hb : keyB k = true := by
      rcases hk with hk | hk
      · exact (band hk).1
      · exfalso
        obtain ⟨_, ha⟩ := band hk
        cases kvs with
        | nil => exact hn rfl
        | cons p r =>
          cases ks with
          | nil => simp at q
          | cons t ts =>
            simp only [List.map_cons, List.cons.injEq] at q
            rw [List.all_cons, Bool.and_eq_true, q.1] at ha
            obtain ⟨t1, t2⟩ := t
            cases t1 <;> cases ha.1
    obtain ⟨z, rfl, rfl⟩ := key_inv hb ry
    rcases dget_val (x := z) q rv with ⟨v, d, h1, h2, h3⟩ | ⟨h1, h2⟩
    · exact .inl ⟨v, d, .inl (.inl ⟨_, z, e, rfl, h1.symm⟩), h2, h3⟩
    · exact .inr ⟨.inl (.inl ⟨_, z, e, rfl, h1.symm⟩), h2⟩
  have onT : ∀ {a : Addr} {es : Array DictEntry} {ep : Nat} {xs : List (NestedKey × Addr × Value)} {vs : List V}, H a = some (tdO a es ep) → TE0 a es xs → TD xs vs kvs → Reps K H F (xs.map fun x => V.ref x.2.1) (kvs.map (·.1)) → Reps K H F vs (kvs.map (·.2)) →
      ((∃ v d, DG K H a y (some v) ∧ dget kvs k = some d ∧ Rep K H F v d) ∨ (DG K H a y none ∧ dget kvs k = none)) := fun {a es ep xs vs} e te t ra rb => by
    have hT : keyT k = true := by
      rcases hk with hk | hk
      · exfalso
        obtain ⟨_, ha⟩ := band hk
        cases kvs with
        | nil => exact hn rfl
        | cons p r =>
          rw [List.all_cons, Bool.and_eq_true] at ha
          have h1 := t.ok p (List.mem_cons_self ..)
          have h2 := ha.1
          obtain ⟨p1, p2⟩ := p
          cases p1 <;> first | cases h1 | cases h2
      · exact (band hk).1
    rcases TGet.mk e te t ra rb hT (keyT_rep hT ry) with ⟨v, d, h1, h2, h3⟩ | ⟨h1, h2⟩
    · exact .inl ⟨v, d, .inr h1, h2, h3⟩
    · exact .inr ⟨.inr h1, h2⟩
  cases r with
  | of r =>
    cases r with
    | dcK e q rv => exact ⟨_, rfl, onK (.inr ⟨_, e⟩) q rv⟩
    | dcT e _ te t ra rb => exact ⟨_, rfl, onT e te t ra rb⟩
    | rng e => simp [kindD, kindB, kindT, keyB, keyT] at hk
  | dcK e _ q rv => exact ⟨_, rfl, onK (.inl e) q rv⟩
  | dcT e te t ra rb => exact ⟨_, rfl, onT e te t ra rb⟩
theorem RepR.isD {K : PySem.W.Frag} {H : Hp} {F : Addr → Prop} {x : V} {kvs : List (D × D)} (r : RepR K H F x (.dict kvs)) (hr : noRg kvs = true) : ∃ a, x = .ref a ∧ IsDX K H a := by
  cases r with
  | of r =>
    cases r with
    | dcK e q rv => exact ⟨_, rfl, .inl (.inl ⟨_, .inr ⟨_, e⟩⟩)⟩
    | dcT e _ te t ra rb => exact ⟨_, rfl, .inr ⟨_, _, _, e, te, td_keys t.key t.ok ra⟩⟩
    | rng e => cases hr
  | dcK e _ q rv => exact ⟨_, rfl, .inl (.inl ⟨_, .inl e⟩)⟩
  | dcT e te t ra rb => exact ⟨_, rfl, .inr ⟨_, _, _, e, te, td_keys t.key t.ok ra⟩⟩
end
section
variable {g : G} {K : PySem.W.Frag} {F : Addr → Prop} {ta ca : Addr} {H : Hp} {tp : Tp} {x y : V} {d e z : D} {Q : VK}
theorem bin_add (w : World g F ta ca H tp) (h : binD .add d e = some z) (rx : RepR K H F x d) (ry : RepR K H F y e) (q : ∀ v H', Ext ta H H' → World g F ta ca H' tp → Rep K H' F v z → Q v H') : rBin K .add x y H Q := by
  have h : addD d e = some z := h
  unfold addD at h
  split at h
  rotate_right
  · cases h
  · cases h
    exact .inl ⟨_, _, rx.int_inv, ry.int_inv, q _ _ (.refl _ _ _) w (.int _)⟩
  · obtain ⟨hb, rfl⟩ := grd_some h
    exact .inr (.inl ⟨_, _, rx.str_inv, ry.str_inv, big_le hb, q _ _ (.refl _ _ _) w (.str _)⟩)
  · obtain ⟨hb, rfl⟩ := grd_some h
    obtain ⟨a, xs, rfl, ha, sa⟩ := rx.lst_inv
    obtain ⟨b, ys, rfl, hb', sb⟩ := ry.lst_inv
    refine .inr (.inr (.inl ⟨a, b, xs, ys, rfl, rfl, ha, hb', by rw [sa.length, sb.length]; exact big_le hb, fun p hp => q _ _ (Ext.new hp) (w.new hp) (new_lst w (sa.append sb) hp)⟩))
  · obtain ⟨hb, rfl⟩ := grd_some h
    obtain ⟨a, xs, rfl, ha, sa⟩ := rx.tup_inv.tup_inv
    obtain ⟨b, ys, rfl, hb', sb⟩ := ry.tup_inv.tup_inv
    refine .inr (.inr (.inr ⟨a, b, xs, ys, rfl, rfl, ha, hb', by rw [sa.length, sb.length]; exact big_le hb, fun e0 => ?_, fun _ e0 => ?_, fun _ _ p hp => q _ _ (Ext.new hp) (w.new hp) (new_tup w (sa.append sb) hp)⟩))
    · subst e0
      cases sa
      exact q _ _ (.refl _ _ _) w (.tup hb' sb)
    · subst e0
      cases sb
      rw [List.append_nil] at q
      exact q _ _ (.refl _ _ _) w (.tup ha sa)
theorem bin_sub (w : World g F ta ca H tp) (h : binD .sub d e = some z) (rx : RepR K H F x d) (ry : RepR K H F y e) (q : ∀ v H', Ext ta H H' → World g F ta ca H' tp → Rep K H' F v z → Q v H') : rBin K .sub x y H Q := by
  have h : subD d e = some z := h
  unfold subD at h
  split at h
  rotate_right
  · cases h
  cases h
  exact ⟨_, _, rx.int_inv, ry.int_inv, q _ _ (.refl _ _ _) w (.int _)⟩
theorem sm62_ok {k : Int} (h : sm62 k = true) : -(2 ^ 63) ≤ k ∧ k < 2 ^ 63 ∧ -(2 ^ 62) ≤ k ∧ k < 2 ^ 62 := by
  obtain ⟨h1, h2⟩ := band h
  have h1 := of_decide_eq_true h1
  have h2 := of_decide_eq_true h2
  omega
theorem bin_mul (w : World g F ta ca H tp) (h : binD .mul d e = some z) (rx : RepR K H F x d) (ry : RepR K H F y e) (q : ∀ v H', Ext ta H H' → World g F ta ca H' tp → Rep K H' F v z → Q v H') : rBin K .mul x y H Q := by
  have h : mulD d e = some z := h
  unfold mulD at h
  split at h
  rotate_right
  · cases h
  · obtain ⟨hb, rfl⟩ := grd_some h
    exact .inl ⟨_, _, rx.int_inv, ry.int_inv, blt_lt hb, q _ _ (.refl _ _ _) w (.int _)⟩
  · obtain ⟨hb, rfl⟩ := grd_some h
    obtain ⟨hb, h3⟩ := band hb
    obtain ⟨h1, h2⟩ := band hb
    exact .inr (.inr (.inr (.inl ⟨_, _, rx.str_inv, ry.int_inv, of_decide_eq_true h1, of_decide_eq_true h2, Nat.le_of_ble_eq_true h3, q _ _ (.refl _ _ _) w (.str _)⟩)))
  · obtain ⟨hb, rfl⟩ := grd_some h
    obtain ⟨h1, h2⟩ := band hb
    obtain ⟨a, xs, rfl, ha, sa⟩ := rx.lst_inv
    have := sm62_ok h1
    exact .inr (.inl ⟨a, _, xs, rfl, ry.int_inv, ha, this.1, this.2.1, by rw [sa.length]; exact big_le h2, fun p hp => q _ _ (Ext.new hp) (w.new hp) (new_lst w (sa.rep _) hp)⟩)
  · split at h
    · rename_i hk
      cases h
      cases of_decide_eq_true hk
      obtain ⟨a, xs, rfl, ha, sa⟩ := rx.tup_inv.tup_inv
      exact .inr (.inr (.inr (.inr ⟨a, xs, rfl, ry.int_inv, ha, q _ _ (.refl _ _ _) w (.tup ha sa)⟩)))
    · obtain ⟨hb, rfl⟩ := grd_some h
      obtain ⟨h1, h4⟩ := band hb
      obtain ⟨h1, h3⟩ := band h1
      obtain ⟨h1, h2⟩ := band h1
      obtain ⟨a, xs, rfl, ha, sa⟩ := rx.tup_inv.tup_inv
      refine .inr (.inr (.inl ⟨a, _, xs, rfl, ry.int_inv, ha, fun e0 => ?_, of_decide_eq_true h1, of_decide_eq_true h2, by rw [sa.length]; exact Nat.le_of_ble_eq_true h3, fun p hp => q _ _ (Ext.new hp) (w.new hp) (new_tup w (sa.rep _) hp)⟩))
      subst e0
      cases sa
      simp at h4
theorem bin_fdiv (w : World g F ta ca H tp) (h : binD .fdiv d e = some z) (rx : RepR K H F x d) (ry : RepR K H F y e) (q : ∀ v H', Ext ta H H' → World g F ta ca H' tp → Rep K H' F v z → Q v H') : rBin K .fdiv x y H Q := by
  have h : fdivD d e = some z := h
  unfold fdivD at h
  split at h
  rotate_right
  · cases h
  obtain ⟨hb, rfl⟩ := grd_some h
  obtain ⟨h1, h2⟩ := band hb
  exact ⟨_, _, rx.int_inv, ry.int_inv, ⟨of_decide_eq_true h1, blt_lt h2⟩, q _ _ (.refl _ _ _) w (.int _)⟩
theorem bin_mod (w : World g F ta ca H tp) (h : binD .mod d e = some z) (rx : RepR K H F x d) (ry : RepR K H F y e) (q : ∀ v H', Ext ta H H' → World g F ta ca H' tp → Rep K H' F v z → Q v H') : rBin K .mod x y H Q := by
  have h : modD d e = some z := h
  unfold modD at h
  split at h
  rotate_right
  · cases h
  obtain ⟨hb, rfl⟩ := grd_some h
  exact ⟨_, _, rx.int_inv, ry.int_inv, of_decide_eq_true hb, q _ _ (.refl _ _ _) w (.int _)⟩
theorem bin_shl (w : World g F ta ca H tp) (h : binD .shl d e = some z) (rx : RepR K H F x d) (ry : RepR K H F y e) (q : ∀ v H', Ext ta H H' → World g F ta ca H' tp → Rep K H' F v z → Q v H') : rBin K .shl x y H Q := by
  have h : shlD d e = some z := h
  unfold shlD at h
  split at h
  rotate_right
  · cases h
  obtain ⟨hb, rfl⟩ := grd_some h
  obtain ⟨h1, h3⟩ := band hb
  obtain ⟨h1, h2⟩ := band h1
  exact ⟨_, _, rx.int_inv, ry.int_inv, ⟨of_decide_eq_true h1, of_decide_eq_true h2, blt_lt h3⟩, q _ _ (.refl _ _ _) w (.int _)⟩
theorem bin_ok {o : BO} (w : World g F ta ca H tp) (h : binD o d e = some z) (rx : RepR K H F x d) (ry : RepR K H F y e) (q : ∀ v H', Ext ta H H' → World g F ta ca H' tp → Rep K H' F v z → Q v H') : rBin K o x y H Q := by
  cases o with
  | add => exact bin_add w h rx ry q
  | sub => exact bin_sub w h rx ry q
  | mul => exact bin_mul w h rx ry q
  | fdiv => exact bin_fdiv w h rx ry q
  | mod => exact bin_mod w h rx ry q
  | shl => exact bin_shl w h rx ry q
/-! ### comparisons -/
def rInT (K : PySem.W.Frag) : R2 := fun x y H Q => ∃ d ds, Dp K H x d ∧ Dp K H y (.tuple ds) ∧ SeqAt.shaped d = true ∧ SeqAt.shaped (.tuple ds) = true ∧ Q (.bl (ds.any fun z => PyData.eqv z d)) H
def rNotInT (K : PySem.W.Frag) : R2 := fun x y H Q => ∃ d ds, Dp K H x d ∧ Dp K H y (.tuple ds) ∧ SeqAt.shaped d = true ∧ SeqAt.shaped (.tuple ds) = true ∧ Q (.bl (!ds.any fun z => PyData.eqv z d)) H
theorem op_inT {X : Cx} (hu : X.A.units + 65 < cLine) : OpR X (compareOp .In) (rInT X.K) := by
  intro pins s σ H x y v u Q I rx ry h
  obtain ⟨d, ds, hd, he, sd, se, q⟩ := h
  obtain ⟨as, r1⟩ := Dp.reads I d x v hd rx
  obtain ⟨bs, r2⟩ := Dp.reads I (.tuple ds) y u he ry
  exact SeqAt.in_tuple_reads r2 r1 (SeqAt.canLay_of_shaped se) (SeqAt.canLay_of_shaped sd) (room_in_shaped sd hu) ⟨.bl _, H, I, rfl, q⟩
theorem op_notInT {X : Cx} (hu : X.A.units + 65 < cLine) : OpR X (compareOp .NotIn) (rNotInT X.K) := by
  intro pins s σ H x y v u Q I rx ry h
  obtain ⟨d, ds, hd, he, sd, se, q⟩ := h
  obtain ⟨as, r1⟩ := Dp.reads I d x v hd rx
  obtain ⟨bs, r2⟩ := Dp.reads I (.tuple ds) y u he ry
  exact SeqAt.notIn_tuple_reads r2 r1 (SeqAt.canLay_of_shaped se) (SeqAt.canLay_of_shaped sd) (room_in_shaped sd hu) ⟨.bl _, H, I, rfl, q⟩
def rIsNn : R2 := fun x y H Q => y = .non ∧ Q (.bl (decide (x = .non))) H
def rNotNn : R2 := fun x y H Q => y = .non ∧ Q (.bl (!decide (x = .non))) H
def rInC (p : Bool) : R2 := fun x y H Q => ∃ (c : Nat) (z : Str), x = .str ⟨#[c]⟩ ∧ y = .str z ∧ Q (.bl (p == decide (c ∈ z.cps.toList))) H
def rInDg (p : Bool) (K : PySem.W.Frag) : R2 := fun x y H Q => ∃ a o, y = .ref a ∧ DG K H a x o ∧ Q (.bl (p == o.isSome)) H
theorem tb_eq (b : Bool) : (true == b) = b := by cases b <;> rfl
theorem fb_eq (b : Bool) : (false == b) = !b := by cases b <;> rfl
theorem op_inC {X : Cx} : OpR X (compareOp .In) (rInC true) := by
  intro pins s σ H x y v u Q I rx ry h
  obtain ⟨c, z, h1, h2, q⟩ := h
  rw [tb_eq] at q
  exact op_in_sign pins s σ H x y v u Q I rx ry ⟨c, z, h1, h2, q⟩
theorem op_notInC {X : Cx} : OpR X (compareOp .NotIn) (rInC false) := by
  intro pins s σ H x y v u Q I rx ry h
  obtain ⟨c, z, h1, h2, q⟩ := h
  rw [fb_eq] at q
  exact op_notIn_sign pins s σ H x y v u Q I rx ry ⟨c, z, h1, h2, q⟩
theorem op_inDg {X : Cx} (hu : X.A.units + 65 < cLine) : OpR X (compareOp .In) (rInDg true X.K) := by
  intro pins s σ H x y v u Q I rx ry h
  obtain ⟨a, o, rfl, g, q⟩ := h
  cases ry
  rw [tb_eq] at q
  rcases g with g | g
  · exact d_in (by omega) I g rx fun s3 I3 => ⟨.bl o.isSome, H, I3, rfl, q⟩
  · exact t_in (by omega) I g rx fun s3 I3 => ⟨.bl o.isSome, H, I3, rfl, q⟩
theorem op_notInDg {X : Cx} (hu : X.A.units + 65 < cLine) : OpR X (compareOp .NotIn) (rInDg false X.K) := by
  intro pins s σ H x y v u Q I rx ry h
  obtain ⟨a, o, rfl, g, q⟩ := h
  cases ry
  rw [fb_eq] at q
  rcases g with g | g
  · exact d_notIn (by omega) I g rx fun s3 I3 => ⟨.bl (!o.isSome), H, I3, rfl, q⟩
  · exact t_notIn (by omega) I g rx fun s3 I3 => ⟨.bl (!o.isSome), H, I3, rfl, q⟩
def rCmp (K : PySem.W.Frag) : CO → R2
  | .lt => rI0 fun i j => .bl (decide (i < j))
  | .le => rI0 fun i j => .bl (decide (i ≤ j))
  | .gt => rI0 fun i j => .bl (decide (j < i))
  | .ge => rI0 fun i j => .bl (decide (j ≤ i))
  | .eq => rEqD K
  | .ne => rNeD K
  | .mem => fun x y H Q => rInD K x y H Q ∨ (rInT K x y H Q ∨ (rInC true x y H Q ∨ rInDg true K x y H Q))
  | .nmem => fun x y H Q => rNotInD K x y H Q ∨ (rNotInT K x y H Q ∨ (rInC false x y H Q ∨ rInDg false K x y H Q))
  | .is => fun x y H Q => rIsNn x y H Q ∨ rIsB x y H Q
  | .isnt => fun x y H Q => rNotNn x y H Q ∨ rNotB x y H Q
theorem op_cmp {X : Cx} (o : CO) (hu : X.A.units + 65 < cLine) : OpR X (compareOp (coOf o)) (rCmp X.K o) := by
  have hu1 : X.A.units + 64 < cLine := by omega
  cases o with
  | lt => exact op_lt
  | le => exact op_le
  | gt => exact op_gt
  | ge => exact op_ge
  | eq => exact op_eqD hu1
  | ne => exact op_neD hu1
  | mem => exact OpR.or (op_inD hu) (OpR.or (op_inT hu) (OpR.or op_inC (op_inDg hu)))
  | nmem => exact OpR.or (op_notInD hu) (OpR.or (op_notInT hu) (OpR.or op_notInC (op_notInDg hu)))
  | is => exact OpR.or op_isN op_isBl
  | isnt => exact OpR.or op_notN op_notBl
theorem eqD_ok {k : Bool} (h : eqD d e = some k) : SeqAt.shaped d = true ∧ SeqAt.shaped e = true ∧ PyData.eqv d e = k ∧ noDct d = true ∧ noDct e = true := by
  unfold eqD at h
  split at h
  · cases h
    refine ⟨rfl, rfl, ?_, rfl, rfl⟩
    simp only [PyData.eqv]
  · obtain ⟨hb, rfl⟩ := grd_some h
    obtain ⟨h0, h3⟩ := band hb
    obtain ⟨h1, h2⟩ := band h0
    obtain ⟨h3, h4⟩ := band h3
    exact ⟨h1, h2, rfl, h3, h4⟩
theorem lt_ok {p : Int → Int → Bool} {k : Bool} (h : ltD p d e = some k) (rx : RepR K H F x d) (ry : RepR K H F y e) (q : Q (.bl k) H) : (rI0 fun i j => .bl (p i j)) x y H Q := by
  unfold ltD at h
  split at h
  · cases h
    exact ⟨_, _, rx.int_inv, ry.int_inv, q⟩
  · cases h
theorem mem_ok {k : Bool} (h : memD d e = some k) (rx : RepR K H F x d) (ry : RepR K H F y e) (q : Q (.bl k) H) : rInD K x y H Q ∨ (rInT K x y H Q ∨ (rInC true x y H Q ∨ rInDg true K x y H Q)) := by
  unfold memD at h
  split at h
  · obtain ⟨hb, rfl⟩ := grd_some h
    obtain ⟨h0, h3⟩ := band hb
    obtain ⟨h1, h2⟩ := band h0
    obtain ⟨h3, h4⟩ := band h3
    exact .inl ⟨_, _, rx.dp h3, ry.dp (by rw [noDct]; exact h4), h1, h2, q⟩
  · obtain ⟨hb, rfl⟩ := grd_some h
    obtain ⟨h0, h3⟩ := band hb
    obtain ⟨h1, h2⟩ := band h0
    obtain ⟨h3, h4⟩ := band h3
    exact .inr (.inl ⟨_, _, rx.dp h3, ry.dp (by rw [noDct]; exact h4), h1, h2, q⟩)
  · split at h
    · cases h
      exact .inr (.inr (.inl ⟨_, _, rx.str_inv, ry.str_inv, by rw [tb_eq]; exact q⟩))
    · cases h
  · obtain ⟨hb, rfl⟩ := grd_some h
    obtain ⟨hk, hn⟩ := band hb
    obtain ⟨a, rfl, c⟩ := RepR.dgetK ry rx hk (by simpa using hn)
    rcases c with ⟨v, d, g1, g2, g3⟩ | ⟨g1, g2⟩
    · rw [g2] at q
      exact .inr (.inr (.inr ⟨a, some v, rfl, g1, by rw [tb_eq]; exact q⟩))
    · rw [g2] at q
      exact .inr (.inr (.inr ⟨a, none, rfl, g1, by rw [tb_eq]; exact q⟩))
  · cases h
theorem nmem_ok {k : Bool} (h : memD d e = some k) (rx : RepR K H F x d) (ry : RepR K H F y e) (q : Q (.bl (!k)) H) : rNotInD K x y H Q ∨ (rNotInT K x y H Q ∨ (rInC false x y H Q ∨ rInDg false K x y H Q)) := by
  unfold memD at h
  split at h
  · obtain ⟨hb, rfl⟩ := grd_some h
    obtain ⟨h0, h3⟩ := band hb
    obtain ⟨h1, h2⟩ := band h0
    obtain ⟨h3, h4⟩ := band h3
    exact .inl ⟨_, _, rx.dp h3, ry.dp (by rw [noDct]; exact h4), h1, h2, q⟩
  · obtain ⟨hb, rfl⟩ := grd_some h
    obtain ⟨h0, h3⟩ := band hb
    obtain ⟨h1, h2⟩ := band h0
    obtain ⟨h3, h4⟩ := band h3
    exact .inr (.inl ⟨_, _, rx.dp h3, ry.dp (by rw [noDct]; exact h4), h1, h2, q⟩)
  · split at h
    · cases h
      exact .inr (.inr (.inl ⟨_, _, rx.str_inv, ry.str_inv, by rw [fb_eq]; exact q⟩))
    · cases h
  · obtain ⟨hb, rfl⟩ := grd_some h
    obtain ⟨hk, hn⟩ := band hb
    obtain ⟨a, rfl, c⟩ := RepR.dgetK ry rx hk (by simpa using hn)
    rcases c with ⟨v, d, g1, g2, g3⟩ | ⟨g1, g2⟩
    · rw [g2] at q
      exact .inr (.inr (.inr ⟨a, some v, rfl, g1, by rw [fb_eq]; exact q⟩))
    · rw [g2] at q
      exact .inr (.inr (.inr ⟨a, none, rfl, g1, by rw [fb_eq]; exact q⟩))
  · cases h
theorem isN_dec (rx : RepR K H F x d) : decide (x = V.non) = noneD d := by
  cases rx with
  | of r => cases r <;> simp [noneD]
  | lst h r => simp [noneD]
  | dcK e n q r => simp [noneD]
  | dcT e z q r r' => simp [noneD]
theorem is_ok {k : Bool} (h : isD d e = some k) (rx : RepR K H F x d) (ry : RepR K H F y e) (q : Q (.bl k) H) : rIsNn x y H Q ∨ rIsB x y H Q := by
  unfold isD at h
  split at h
  · cases h
    refine .inl ⟨ry.none_inv, ?_⟩
    rw [isN_dec rx]
    exact q
  · split at h
    · cases h
      refine .inr ⟨_, _, rx.bool_inv, ry.bool_inv, ?_⟩
      rename_i a _ b
      rw [show decide (b = a) = (b == a) by cases a <;> cases b <;> rfl]
      exact q
    · cases h
  · cases h
theorem isnt_ok {k : Bool} (h : isD d e = some k) (rx : RepR K H F x d) (ry : RepR K H F y e) (q : Q (.bl (!k)) H) : rNotNn x y H Q ∨ rNotB x y H Q := by
  unfold isD at h
  split at h
  · cases h
    refine .inl ⟨ry.none_inv, ?_⟩
    rw [isN_dec rx]
    exact q
  · split at h
    · cases h
      refine .inr ⟨_, _, rx.bool_inv, ry.bool_inv, ?_⟩
      rename_i a _ b
      rw [show decide (b = a) = (b == a) by cases a <;> cases b <;> rfl]
      exact q
    · cases h
  · cases h
theorem cmp_ok {o : CO} {k : Bool} (h : cmpD o d e = some k) (rx : RepR K H F x d) (ry : RepR K H F y e) (q : Q (.bl k) H) : rCmp K o x y H Q := by
  cases o with
  | lt => exact lt_ok h rx ry q
  | le => exact lt_ok h rx ry q
  | gt => exact lt_ok h rx ry q
  | ge => exact lt_ok h rx ry q
  | eq =>
    obtain ⟨h1, h2, h3, h4, h5⟩ := eqD_ok h
    exact ⟨_, _, rx.dp h4, ry.dp h5, h1, h2, by rw [h3]; exact q⟩
  | ne =>
    obtain ⟨k', h', rfl⟩ := Option.map_eq_some_iff.mp (show (eqD d e).map (!·) = some k from h)
    obtain ⟨h1, h2, h3, h4, h5⟩ := eqD_ok h'
    exact ⟨_, _, rx.dp h4, ry.dp h5, h1, h2, by rw [h3]; exact q⟩
  | mem => exact mem_ok h rx ry q
  | nmem =>
    obtain ⟨k', h', rfl⟩ := Option.map_eq_some_iff.mp (show (memD d e).map (!·) = some k from h)
    exact nmem_ok h' rx ry q
  | is => exact is_ok h rx ry q
  | isnt =>
    obtain ⟨k', h', rfl⟩ := Option.map_eq_some_iff.mp (show (isD d e).map (!·) = some k from h)
    exact isnt_ok h' rx ry q
end
end Q

set_option Elab.async false
set_option linter.all false
set_option maxRecDepth 100000
namespace Q
open PySem PySem.Spec L2
open PyProof.Rows hiding St
/-! ### expressions -/
theorem fin_v (o : Out D) : fin .v o = o := rfl
theorem fin_r (o : Out D) : fin .r o = o := rfl
theorem fin_ne {m : M} (h : m ≠ .t) (o : Out D) : fin m o = o := by
  cases m with
  | v => rfl
  | r => rfl
  | t => exact absurd rfl h
/-- what stands in a context: names by slots, the scope, room for calls -/
structure Gd (X : Cx) (N : List Str) (sc : Scope) (k : Nat) : Prop where
  hN : X.N = N
  nd : N.Nodup
  sc : X.env.scope = sc
  calm : X.calm = true
  room : Room k X.A
section
variable {g : G} {W : WX} {Γ : Sm} {X : Cx} {N : List Str} {sc : Scope} {k : Nat} {m : M}
theorem Gd.hu (G : Gd X N sc k) : X.A.units + 65 < cLine := by
  have := G.room.un
  omega
def visB (sc : Scope) (x : Str) : Bool := match sc.names.lookup x with
  | some .local => true
  | some .cell => true
  | some .free => true
  | _ => false
theorem vis_of {x : Str} (G : Gd X N sc k) (h : visB sc x = true) : Vis X.env.scope x := by
  rw [G.sc]
  unfold visB at h
  split at h <;> first | exact .inl (by assumption) | exact .inr (.inl (by assumption)) | exact .inr (.inr (by assumption)) | cases h
def glB (sc : Scope) (x : Str) : Bool := match sc.names.lookup x with
  | some .globalImplicit => true
  | _ => false
theorem gl_of {x : Str} (G : Gd X N sc k) (h : glB sc x = true) : Gl X x := by
  show X.env.scope.names.lookup x = _
  rw [G.sc]
  unfold glB at h
  split at h
  · assumption
  · cases h
def nameB (x : Str) : Bool := !(x == ("__debug__" : Str)) && !(x == ("__classdict__" : Str)) && decide (x ≠ "__name__")
/-! #### leaves -/
theorem e_var {i : Nat} {x : Str} {pos : Pos} (G : Gd X N sc k) (hm : m ≠ .t) (hi : N[i]? = some x) (hv : visB sc x = true) (hn : nameB x = true) : PE X (.Name x pos) (rdE g X.K W Γ m (.var i)) := by
  unfold nameB at hn
  simp only [Bool.and_eq_true, Bool.not_eq_true'] at hn
  refine PE.imp (pe_var (by rw [G.hN]; exact hi) (vis_of G hv) hn.1.1 hn.1.2) fun σ H Q h => ?_
  obtain ⟨F, ta, ca, env, tp, E, h⟩ := h
  unfold ev at h
  rw [fin_ne hm] at h
  have s := E.slot i
  cases q : getB env i with
  | un => rw [q] at h; exact h.elim
  | val d =>
    rw [q] at h s
    obtain ⟨v, h1, h2⟩ := s
    exact ⟨v, h1, h.now E.wd v (.of h2)⟩
  | own ds =>
    rw [q] at h s
    obtain ⟨a, vs, h1, h2, h3, h4, h5⟩ := s
    cases m with
    | v => exact h.elim
    | r => exact ⟨_, h1, h.now E.wd _ (RepR.lst h4 h5)⟩
    | t => exact absurd rfl hm
  | owd kb kvs =>
    rw [q] at h s
    obtain ⟨a, h1, h2, h3, h4⟩ := s
    cases m with
    | v => exact h.elim
    | r => exact ⟨_, h1, h.now E.wd _ h4.r⟩
    | t => exact absurd rfl hm
  | tape => rw [q] at h; exact h.elim
theorem e_lit {d : D} {c : Const} {j : Nat} {pos : Pos} {v : V} (hm : m ≠ .t) (hp : PE X (.Constant c j pos) (tC v)) (r : ∀ H F, Rep X.K H F v d) : PE X (.Constant c j pos) (rdE g X.K W Γ m (.lit d)) := by
  refine PE.imp hp fun σ H Q h => ?_
  obtain ⟨F, ta, ca, env, tp, E, h⟩ := h
  unfold ev at h
  rw [fin_ne hm] at h
  exact h.now E.wd v (.of (r H F))
theorem e_glo {x : Str} {v : V} {u : Value} {d : D} {pos : Pos} (G : Gd X N sc k) (hm : m ≠ .t) (hg : glB sc x = true) (hn : nameB x = true) (hx : X.mg x = some u) (ru : RelV v u) (r : ∀ H F, Rep X.K H F v d) (hd : Γ.glob x = some d) : PE X (.Name x pos) (rdE g X.K W Γ m (.glo x)) := by
  unfold nameB at hn
  simp only [Bool.and_eq_true, Bool.not_eq_true'] at hn
  refine PE.imp (pe_glob (gl_of G hg) hx ru hn.1.1) fun σ H Q h => ?_
  obtain ⟨F, ta, ca, env, tp, E, h⟩ := h
  unfold ev at h
  rw [fin_ne hm, hd] at h
  exact h.now E.wd v (.of (r H F))
/-! #### operators -/
theorem e_bin {o : BO} {a b : C} {ea eb : Expr} {pos : Pos} (hm : m ≠ .t) (ha : PE X ea (rdE g X.K W Γ .r a)) (hb : PE X eb (rdE g X.K W Γ .r b)) : PE X (.BinOp ea (opOf o) eb pos) (rdE g X.K W Γ m (.bin o a b)) := by
  refine PE.imp (pe_op (op_bin o) ha hb) fun σ H Q h => ?_
  obtain ⟨F, ta, ca, env, tp, E, h⟩ := h
  unfold ev at h
  rw [fin_ne hm] at h
  refine ⟨F, ta, ca, env, tp, E, h.bind.mono fun d t1 H1 e1 w1 h => fun x rx => ⟨F, ta, ca, env, t1, E.ext e1 w1, h.bind.mono fun d2 t2 H2 e2 w2 h => fun y ry => ?_⟩⟩
  obtain ⟨z, hz, h⟩ := h.opt
  exact bin_ok w2 hz (RepR.step w1.nt e2 rx) ry fun v H' e w r => h H' e w v (.of r)
theorem e_neg {a : C} {ea : Expr} {pos : Pos} (hm : m ≠ .t) (ha : PE X ea (rdE g X.K W Γ .r a)) : PE X (.UnaryOp .USub ea pos) (rdE g X.K W Γ m (.neg a)) := by
  refine PE.imp (pe_un un_neg ha) fun σ H Q h => ?_
  obtain ⟨F, ta, ca, env, tp, E, h⟩ := h
  unfold ev at h
  rw [fin_ne hm] at h
  refine ⟨F, ta, ca, env, tp, E, h.bind.mono fun d t1 H1 e1 w1 h => fun x rx => ?_⟩
  cases d with
  | int i => exact ⟨i, RepR.int_inv rx, h.now w1 _ (.of (.int _))⟩
  | _ => exact h.elim
theorem e_cmp {o : CO} {a b : C} {ea eb : Expr} {pos : Pos} (G : Gd X N sc k) (hm : m ≠ .t) (ha : PE X ea (rdE g X.K W Γ .r a)) (hb : PE X eb (rdE g X.K W Γ .r b)) (hk : behindInMarks (coOf o) eb = false) : PE X (.Compare ea [coOf o] [eb] pos) (rdE g X.K W Γ m (.cmp o a b)) := by
  refine PE.imp (pe_cmpR (op_cmp o G.hu) ha hb hk) fun σ H Q h => ?_
  obtain ⟨F, ta, ca, env, tp, E, h⟩ := h
  unfold ev at h
  refine ⟨F, ta, ca, env, tp, E, h.bind.mono fun d t1 H1 e1 w1 h => fun x rx => ⟨F, ta, ca, env, t1, E.ext e1 w1, h.bind.mono fun d2 t2 H2 e2 w2 h => fun y ry => ?_⟩⟩
  obtain ⟨z, hz, h⟩ := h.opt
  obtain ⟨kk, hk, rfl⟩ := Option.map_eq_some_iff.mp hz
  exact cmp_ok hk (RepR.step w1.nt e2 rx) ry (h H2 (.refl _ _ _) w2 _ (.of (.bl _)))
theorem t_cmp {o : CO} {a b : C} {ea eb : Expr} {pos : Pos} (G : Gd X N sc k) (ha : PE X ea (rdE g X.K W Γ .r a)) (hb : PE X eb (rdE g X.K W Γ .r b)) (hk : behindInMarks (coOf o) eb = false) : PT X (.Compare ea [coOf o] [eb] pos) (rdT g X.K W Γ (.cmp o a b)) := by
  refine PT.imp (pt_cmpR (op_cmp o G.hu) ha hb hk) fun σ H Q h => ?_
  obtain ⟨F, ta, ca, env, tp, E, h⟩ := h
  unfold ev at h
  refine ⟨F, ta, ca, env, tp, E, h.bind.mono fun d t1 H1 e1 w1 h => fun x rx => ⟨F, ta, ca, env, t1, E.ext e1 w1, h.bind.mono fun d2 t2 H2 e2 w2 h => fun y ry => ?_⟩⟩
  obtain ⟨z, hz, h⟩ := h.opt
  obtain ⟨kk, hk, rfl⟩ := Option.map_eq_some_iff.mp hz
  exact cmp_ok hk (RepR.step w1.nt e2 rx) ry ⟨kk, rfl, h H2 (.refl _ _ _) w2 _ rfl⟩
theorem chain_imp {o p : CO} {a b c : C} {R : D → Tp → Hp → Prop} {Q : VK} {F : Addr → Prop} {ta ca : Addr} {env : QE} {tp : Tp} {σ : L2.St} {H : Hp} (E : EnvOk g X.K F ta ca H σ env tp)
    (h : HdG g W F ta ca H σ (ev Γ m (.chain o p a b c) env tp) R) (hR : ∀ kk tp H', R (.bool kk) tp H' → Q (.bl kk) H') : tChain (rCmp X.K o) (rCmp X.K p) (rdE g X.K W Γ .r a) (rdE g X.K W Γ .r b) (rdE g X.K W Γ .r c) σ H Q := by
  unfold ev at h
  refine ⟨F, ta, ca, env, tp, E, h.bind.mono fun d t1 H1 e1 w1 h => fun x rx => ⟨F, ta, ca, env, t1, E.ext e1 w1, h.bind.mono fun d2 t2 H2 e2 w2 h => fun y ry => ?_⟩⟩
  obtain ⟨kk, hz, h⟩ := h.bind.opt
  have h := h H2 (.refl _ _ _) w2
  refine cmp_ok hz (RepR.step w1.nt e2 rx) ry ⟨kk, rfl, ?_⟩
  cases kk with
  | false => exact iteF (hR _ _ _ (h.now w2))
  | true =>
    refine iteT ⟨F, ta, ca, env, t2, (E.ext e1 w1).ext e2 w2, h.bind.mono fun d3 t3 H3 e3 w3 h => fun z rz => ?_⟩
    obtain ⟨z, hz, h⟩ := h.opt
    obtain ⟨kk, hk, rfl⟩ := Option.map_eq_some_iff.mp hz
    exact cmp_ok hk (RepR.step w2.nt e3 ry) rz (hR _ _ _ (h H3 (.refl _ _ _) w3))
theorem e_chain {o p : CO} {a b c : C} {ea eb ec : Expr} {pos : Pos} (G : Gd X N sc k) (hm : m ≠ .t) (ha : PE X ea (rdE g X.K W Γ .r a)) (hb : PE X eb (rdE g X.K W Γ .r b)) (hc : PE X ec (rdE g X.K W Γ .r c)) (hk : lastMarks [coOf o, coOf p] [eb, ec] = false) :
    PE X (.Compare ea [coOf o, coOf p] [eb, ec] pos) (rdE g X.K W Γ m (.chain o p a b c)) := by
  refine PE.imp (pe_chain (op_cmp o G.hu) (op_cmp p G.hu) ha hb hc hk) fun σ H Q h => ?_
  obtain ⟨F, ta, ca, env, tp, E, h⟩ := h
  exact chain_imp E h fun kk _ _ h => h _ (.of (.bl _))
theorem t_chain {o p : CO} {a b c : C} {ea eb ec : Expr} {pos : Pos} (G : Gd X N sc k) (ha : PE X ea (rdE g X.K W Γ .r a)) (hb : PE X eb (rdE g X.K W Γ .r b)) (hc : PE X ec (rdE g X.K W Γ .r c)) (hk : lastMarks [coOf o, coOf p] [eb, ec] = false) :
    PT X (.Compare ea [coOf o, coOf p] [eb, ec] pos) (rdT g X.K W Γ (.chain o p a b c)) := by
  refine PT.imp (pt_chain (op_cmp o G.hu) (op_cmp p G.hu) ha hb hc hk) fun σ H Q h => ?_
  obtain ⟨F, ta, ca, env, tp, E, h⟩ := h
  exact chain_imp E h fun kk _ _ h => ⟨kk, rfl, h _ rfl⟩
/-! #### truth -/
theorem tru_ok' {K : PySem.W.Frag} {F : Addr → Prop} {H : Hp} {x : V} {d : D} {kk : Bool} (h : truD d = some kk) (rx : RepR K H F x d) : TruV K x H kk := by
  cases d with
  | none => rw [rx.none_inv]; cases h; rfl
  | bool b => rw [rx.bool_inv]; cases h; rfl
  | int i => rw [rx.int_inv]; cases h; rfl
  | str s =>
    rw [rx.str_inv]
    obtain ⟨h1, h2⟩ := grd_some h
    exact ⟨big_le h1, h2.symm⟩
  | list xs =>
    obtain ⟨a, vs, rfl, ha, sa⟩ := rx.lst_inv
    cases h
    refine .inl ⟨vs, SqL.ofL ha, ?_⟩
    cases sa <;> rfl
  | tuple xs =>
    obtain ⟨a, vs, rfl, ha, sa⟩ := rx.tup_inv.tup_inv
    cases h
    refine .inr (.inl ⟨vs, ha, ?_⟩)
    cases sa <;> rfl
  | dict kvs => cases h
/-- an expression as a test, by its value -/
theorem t_val {c : C} {e : Expr} (hp : ∀ env tp, ev Γ .t c env tp = fin .t (ev Γ .r c env tp)) (ha : PE X e (rdE g X.K W Γ .r c)) (he : ∀ whole, isTrue e X.env whole = (do let v ← whole; standAt e.pos; holding [v] (truthy v))) : PT X e (rdT g X.K W Γ c) := by
  refine PT.imp (pt_truth ha he) fun σ H Q h => ?_
  obtain ⟨F, ta, ca, env, tp, E, h⟩ := h
  rw [hp] at h
  refine ⟨F, ta, ca, env, tp, E, HdG.mono (HdG.bind h) fun d t1 H1 e1 w1 h => fun x rx => ?_⟩
  obtain ⟨z, hz, h⟩ := h.opt
  obtain ⟨kk, hk, rfl⟩ := Option.map_eq_some_iff.mp hz
  exact ⟨kk, tru_ok' hk rx, h H1 (.refl _ _ _) w1 _ rfl⟩
theorem e_not {a : C} {ea : Expr} {pos : Pos} (hm : m ≠ .t) (ha : PE X ea (rdE g X.K W Γ .r a)) : PE X (.UnaryOp .Not ea pos) (rdE g X.K W Γ m (.not a)) := by
  refine PE.imp (pe_notT ha) fun σ H Q h => ?_
  obtain ⟨F, ta, ca, env, tp, E, h⟩ := h
  unfold ev at h
  have h : HdG g W F ta ca H σ ((ev Γ .r a env tp).bind fun x t1 => Out.opt ((truD x).map fun b => PyData.bool (!b)) t1) (fun d _ H' => ∀ v, RepM m X.K H' F v d → Q v H') := by
    cases m with
    | v => exact h
    | r => exact h
    | t => exact absurd rfl hm
  refine ⟨F, ta, ca, env, tp, E, HdG.mono (HdG.bind h) fun d t1 H1 e1 w1 h => fun x rx => ?_⟩
  obtain ⟨z, hz, h⟩ := h.opt
  obtain ⟨kk, hk, rfl⟩ := Option.map_eq_some_iff.mp hz
  exact ⟨kk, tru_ok' hk rx, h H1 (.refl _ _ _) w1 _ (.of (.bl _))⟩
theorem t_not {a : C} {ea : Expr} {pos : Pos} (ha : PT X ea (rdT g X.K W Γ a)) : PT X (.UnaryOp .Not ea pos) (rdT g X.K W Γ (.not a)) := by
  refine PT.imp (pt_not ha) fun σ H Q h => ?_
  obtain ⟨F, ta, ca, env, tp, E, h⟩ := h
  unfold ev at h
  refine ⟨F, ta, ca, env, tp, E, h.bind.mono fun d t1 H1 e1 w1 h => fun b hb => ?_⟩
  subst hb
  exact h.now w1 _ rfl
/-! #### and, or, if -/
theorem and_imp {a b : C} {Q : VK} {F : Addr → Prop} {ta ca : Addr} {env : QE} {tp : Tp} {σ : L2.St} {H : Hp} (hm : m ≠ .t) (E : EnvOk g X.K F ta ca H σ env tp)
    (h : HdG g W F ta ca H σ (ev Γ m (.and a b) env tp) fun d _ H' => ∀ v, RepM m X.K H' F v d → Q v H') : tAndV (rdE g X.K W Γ .r a) (rdE g X.K W Γ m b) σ H Q := by
  unfold ev at h
  have hr : m.op = .r := by cases m <;> first | rfl | exact absurd rfl hm
  rw [hr] at h
  refine ⟨F, ta, ca, env, tp, E, h.bind.mono fun d t1 H1 e1 w1 h => fun x rx => ?_⟩
  cases d with
  | bool kk =>
    refine ⟨kk, RepR.bool_inv rx, ?_⟩
    cases kk with
    | true => exact iteT ⟨F, ta, ca, env, t1, E.ext e1 w1, h⟩
    | false => exact iteF (h.now w1 _ (.of (.bl _)))
  | _ => exact h.elim
theorem or_imp {a b : C} {Q : VK} {F : Addr → Prop} {ta ca : Addr} {env : QE} {tp : Tp} {σ : L2.St} {H : Hp} (hm : m ≠ .t) (E : EnvOk g X.K F ta ca H σ env tp)
    (h : HdG g W F ta ca H σ (ev Γ m (.or a b) env tp) fun d _ H' => ∀ v, RepM m X.K H' F v d → Q v H') : tOrV (rdE g X.K W Γ .r a) (rdE g X.K W Γ m b) σ H Q := by
  unfold ev at h
  have hr : m.op = .r := by cases m <;> first | rfl | exact absurd rfl hm
  rw [hr] at h
  refine ⟨F, ta, ca, env, tp, E, h.bind.mono fun d t1 H1 e1 w1 h => fun x rx => ?_⟩
  cases d with
  | bool kk =>
    refine ⟨kk, RepR.bool_inv rx, ?_⟩
    cases kk with
    | true => exact iteT (h.now w1 _ (.of (.bl _)))
    | false => exact iteF ⟨F, ta, ca, env, t1, E.ext e1 w1, h⟩
  | _ => exact h.elim
theorem tand_imp {a b : C} {σ : L2.St} {H : Hp} {Q : Bool → Hp → Prop} (h : rdT g X.K W Γ (.and a b) σ H Q) : tAnd (rdT g X.K W Γ a) (rdT g X.K W Γ b) σ H Q := by
  obtain ⟨F, ta, ca, env, tp, E, h⟩ := h
  unfold ev at h
  refine ⟨F, ta, ca, env, tp, E, h.bind.mono fun d t1 H1 e1 w1 h => fun kk hk => ?_⟩
  subst hk
  cases kk with
  | true => exact iteT ⟨F, ta, ca, env, t1, E.ext e1 w1, h⟩
  | false => exact iteF (h.now w1 _ rfl)
theorem tor_imp {a b : C} {σ : L2.St} {H : Hp} {Q : Bool → Hp → Prop} (h : rdT g X.K W Γ (.or a b) σ H Q) : tOr (rdT g X.K W Γ a) (rdT g X.K W Γ b) σ H Q := by
  obtain ⟨F, ta, ca, env, tp, E, h⟩ := h
  unfold ev at h
  refine ⟨F, ta, ca, env, tp, E, h.bind.mono fun d t1 H1 e1 w1 h => fun kk hk => ?_⟩
  subst hk
  cases kk with
  | true => exact iteT (h.now w1 _ rfl)
  | false => exact iteF ⟨F, ta, ca, env, t1, E.ext e1 w1, h⟩
theorem e_ite {t a b : C} {et ea eb : Expr} {pos : Pos} (hm : m ≠ .t) (ht : PT X et (rdT g X.K W Γ t)) (ha : PE X ea (rdE g X.K W Γ m a)) (hb : PE X eb (rdE g X.K W Γ m b)) : PE X (.IfExp et ea eb pos) (rdE g X.K W Γ m (.ite t a b)) := by
  refine PE.imp (pe_ifExp ht ha hb) fun σ H Q h => ?_
  obtain ⟨F, ta, ca, env, tp, E, h⟩ := h
  unfold ev at h
  refine ⟨F, ta, ca, env, tp, E, h.bind.mono fun d t1 H1 e1 w1 h => fun kk hk => ?_⟩
  subst hk
  cases kk with
  | true => exact iteT ⟨F, ta, ca, env, t1, E.ext e1 w1, h⟩
  | false => exact iteF ⟨F, ta, ca, env, t1, E.ext e1 w1, h⟩
theorem t_ite {t a b : C} {et ea eb : Expr} {pos : Pos} (ht : PT X et (rdT g X.K W Γ t)) (ha : PT X ea (rdT g X.K W Γ a)) (hb : PT X eb (rdT g X.K W Γ b)) : PT X (.IfExp et ea eb pos) (rdT g X.K W Γ (.ite t a b)) := by
  refine ⟨fun pins s σ H Q I h => ?_⟩
  obtain ⟨F, ta, ca, env, tp, E, h⟩ := h
  unfold ev at h
  refine isTrue_IfExp (thn (ht.run pins s σ H (fun kk H1 => if kk = true then rdT g X.K W Γ a σ H1 Q else rdT g X.K W Γ b σ H1 Q) I ⟨F, ta, ca, env, tp, E, h.bind.mono fun d t1 H1 e1 w1 h => fun kk hk => ?_⟩) fun kk s1 ⟨H1, I1, q1⟩ => ?_)
  · subst hk
    cases kk with
    | true => exact iteT ⟨F, ta, ca, env, t1, E.ext e1 w1, h⟩
    | false => exact iteF ⟨F, ta, ca, env, t1, E.ext e1 w1, h⟩
  · cases kk with
    | true => exact ha.run pins s1 σ H1 Q I1 q1
    | false => exact hb.run pins s1 σ H1 Q I1 q1
end
end Q

set_option Elab.async false
set_option linter.all false
set_option maxRecDepth 100000
namespace Q
open PySem PySem.Spec L2
open PyProof.Rows hiding St
/-! ### rows of expressions -/
def starB : Expr → Bool
  | .Starred _ _ => true
  | _ => false
theorem star_eq {e : Expr} {es : List Expr} {env : Env} (h : starB e = false) : starEach (e :: es) env = (false, eval e env) :: starEach es env := by
  cases e <;> first | rfl | cases h
theorem star_none {pos : Pos} {env : Env} : ∀ {es : List Expr}, es.all (fun e => !starB e) = true → (backTo pos (starEach es env)).any (·.1) = false
  | [], _ => rfl
  | e :: es, h => by
    rw [List.all_cons, Bool.and_eq_true, Bool.not_eq_true'] at h
    have ih := star_none (pos := pos) (env := env) h.2
    rw [star_eq h.1]
    unfold backTo at ih ⊢
    rw [List.map_cons, List.any_cons, ih]
    rfl
section
variable {g : G} {W : WX} {Γ : Sm} {X : Cx} {N : List Str} {sc : Scope} {k : Nat} {m : M}
theorem es_nil : PA X [] (rdEs g X.K W Γ m .nil) := by
  refine PA.imp pa_nil fun σ H Q h => ?_
  obtain ⟨F, ta, ca, env, tp, E, h⟩ := h
  unfold evs at h
  exact h.now E.wd _ .nil
theorem es_cons {a : C} {as : Cs} {e : Expr} {es : List Expr} (ha : PE X e (rdE g X.K W Γ m a)) (hs : PA X es (rdEs g X.K W Γ m as)) (hst : starB e = false) : PA X (e :: es) (rdEs g X.K W Γ m (.cons a as)) := by
  refine PA.imp (pa_cons ha hs (star_eq hst)) fun σ H Q h => ?_
  obtain ⟨F, ta, ca, env, tp, E, h⟩ := h
  unfold evs at h
  refine ⟨F, ta, ca, env, tp, E, h.bind.mono fun d t1 H1 e1 w1 h => fun x rx => ⟨F, ta, ca, env, t1, E.ext e1 w1, h.bind.mono fun ds t2 H2 e2 w2 h => fun vs rs => ?_⟩⟩
  exact h.now w2 _ (.cons (rx.step w1.nt e2) rs)
theorem e_lst {as : Cs} {es : List Expr} {pos : Pos} (hm : m ≠ .t) (ha : PA X es (rdEs g X.K W Γ .v as)) : PE X (.List es pos) (rdE g X.K W Γ m (.lst as)) := by
  refine PE.imp (pe_lst ha) fun σ H Q h => ?_
  obtain ⟨F, ta, ca, env, tp, E, h⟩ := h
  unfold ev at h
  rw [fin_ne hm] at h
  refine ⟨F, ta, ca, env, tp, E, h.bind.mono fun ds t1 H1 e1 w1 h => fun vs rs => ?_⟩
  have rs : Reps X.K H1 F vs ds := rs
  obtain ⟨z, hz, h⟩ := h.opt
  obtain ⟨hb, rfl⟩ := grd_some hz
  exact ⟨by rw [rs.length]; exact big_le hb, fun p hp => h _ (Ext.new hp) (w1.new hp) _ (.of (new_lst w1 rs hp))⟩
theorem e_tup {as : Cs} {es : List Expr} {pos : Pos} {kk : Nat} (hm : m ≠ .t) (ha : PA X es (rdEs g X.K W Γ .v as)) : PE X (.Tuple es kk pos) (rdE g X.K W Γ m (.tup as)) := by
  refine PE.imp (pe_tup ha) fun σ H Q h => ?_
  obtain ⟨F, ta, ca, env, tp, E, h⟩ := h
  unfold ev at h
  rw [fin_ne hm] at h
  refine ⟨F, ta, ca, env, tp, E, h.bind.mono fun ds t1 H1 e1 w1 h => fun vs rs => ?_⟩
  have rs : Reps X.K H1 F vs ds := rs
  obtain ⟨z, hz, h⟩ := h.opt
  obtain ⟨hb, rfl⟩ := grd_some hz
  exact ⟨by rw [rs.length]; exact big_le hb, fun p hp => h _ (Ext.new hp) (w1.new hp) _ (.of (new_tup w1 rs hp))⟩
/-! ### subscripts, slices -/
def sliceB : Expr → Bool
  | .Slice _ _ _ _ => true
  | _ => false
theorem plain_ix {b : Expr} (h : sliceB b = false) : PlainIx b := by
  intro o i
  cases b <;> first | rfl | cases h
theorem atI_rep {K : PySem.W.Frag} {H : Hp} {F : Addr → Prop} {vs : List V} {ds : List D} {i : Int} {d : D} (r : Reps K H F vs ds) (h : atI ds i = some d) : ∃ v, atI vs i = some v ∧ Rep K H F v d := by
  unfold atI at h ⊢
  rw [r.length]
  cases q : ixN ds.length i with
  | none => rw [q] at h; cases h
  | some j =>
    rw [q] at h
    exact r.get h
theorem ix_ok {K : PySem.W.Frag} {H : Hp} {F : Addr → Prop} {x y : V} {d e z : D} {Q : VK} (h : ixD d e = some z) (hd : ∀ kvs, d ≠ .dict kvs) (rx : RepR K H F x d) (ry : RepR K H F y e) (q : ∀ v, Rep K H F v z → Q v H) : rIx K x y H Q := by
  unfold ixD at h
  split at h
  · obtain ⟨a, vs, rfl, ha, sa⟩ := rx.lst_inv
    obtain ⟨v, h1, h2⟩ := atI_rep sa h
    exact .inl ⟨a, vs, _, v, rfl, ry.int_inv, SqL.ofL ha, h1, q v h2⟩
  · obtain ⟨a, vs, rfl, ha, sa⟩ := rx.tup_inv.tup_inv
    obtain ⟨v, h1, h2⟩ := atI_rep sa h
    exact .inr (.inl ⟨a, vs, _, v, rfl, ry.int_inv, ha, h1, q v h2⟩)
  · split at h
    · obtain ⟨c, hc, rfl⟩ := Option.map_eq_some_iff.mp h
      exact .inr (.inr ⟨_, _, c, rx.str_inv, ry.int_inv, big_le (by assumption), hc, q _ (.str _)⟩)
    · cases h
  · exact absurd rfl (hd _)
  · cases h
theorem PE.or {X : Cx} {e : Expr} {t t' : TE} (h : PE X e t) (h' : PE X e t') : PE X e (fun σ H Q => t σ H Q ∨ t' σ H Q) := ⟨fun pins s σ H Q I q => q.elim (fun q => h.run pins s σ H Q I q) fun q => h'.run pins s σ H Q I q⟩
theorem nosl_of {i : Expr} (h : sliceB i = false) : NoSl i := by
  intro ov iv
  cases i <;> first | rfl | cases h
theorem e_ix {a i : C} {ea ei : Expr} {pos : Pos} (G : Gd X N sc k) (hm : m ≠ .t) (ha : PE X ea (rdE g X.K W Γ .r a)) (hi : PE X ei (rdE g X.K W Γ .r i)) (hp : sliceB ei = false) : PE X (.Subscript ea ei pos) (rdE g X.K W Γ m (.ix a i)) := by
  refine PE.imp (PE.or (pe_ix ix_seq ha hi (plain_ix hp)) (pe_dgetX (by have := G.hu; omega) ha hi (nosl_of hp))) fun σ H Q h => ?_
  obtain ⟨F, ta, ca, env, tp, E, h⟩ := h
  unfold ev at h
  rw [fin_ne hm] at h
  have h := h.bind
  cases q : ev Γ .r a env tp with
  | bad => rw [q] at h; exact h.elim
  | exc c t => exact .inl ⟨F, ta, ca, env, tp, E, by rw [q] at h ⊢; exact h⟩
  | ok d t1 =>
    rw [q] at h
    by_cases hd : ∃ kvs, d = .dict kvs
    · obtain ⟨kvs, rfl⟩ := hd
      refine .inr ⟨F, ta, ca, env, tp, E, ?_⟩
      rw [q]
      intro H1 e1 w1 x rx
      refine ⟨F, ta, ca, env, t1, E.ext e1 w1, HdG.mono (HdG.bind (h H1 e1 w1)) fun d2 t2 H2 e2 w2 h => fun y ry => ?_⟩
      obtain ⟨z, hz, h⟩ := h.opt
      have hz : (match kindD kvs d2 with
        | true => dget kvs d2
        | false => none) = some z := hz
      cases hk : kindD kvs d2 with
      | false => rw [hk] at hz; cases hz
      | true =>
        rw [hk] at hz
        have hz : dget kvs d2 = some z := hz
        have hn : kvs ≠ [] := fun e => by rw [e] at hz; cases hz
        obtain ⟨a, rfl, c⟩ := RepR.dgetK (RepR.step w1.nt e2 rx) ry hk hn
        rcases c with ⟨v, d, g1, g2, g3⟩ | ⟨g1, g2⟩
        · rw [g2] at hz
          cases hz
          exact ⟨a, v, rfl, g1, h H2 (.refl _ _ _) w2 v (.of g3)⟩
        · rw [g2] at hz
          cases hz
    · refine .inl ⟨F, ta, ca, env, tp, E, ?_⟩
      rw [q]
      intro H1 e1 w1 x rx
      refine ⟨F, ta, ca, env, t1, E.ext e1 w1, HdG.mono (HdG.bind (h H1 e1 w1)) fun d2 t2 H2 e2 w2 h => fun y ry => ?_⟩
      obtain ⟨z, hz, h⟩ := h.opt
      exact ix_ok hz (fun kvs e => hd ⟨kvs, e⟩) (RepR.step w1.nt e2 rx) ry fun v r => h H2 (.refl _ _ _) w2 v (.of r)
theorem dctD_some {d : D} {kvs : List (D × D)} (h : dctD d = some kvs) : d = .dict kvs ∧ noRg kvs = true := by
  unfold dctD at h
  split at h
  · obtain ⟨h1, rfl⟩ := grd_some h
    exact ⟨rfl, h1⟩
  · cases h
theorem e_dget2 {a kk x : C} {ea ek ex : Expr} {apos cpos : Pos} (G : Gd X N sc k) (hm : m ≠ .t) (ha : PE X ea (rdE g X.K W Γ .r a)) (hk : PE X ek (rdE g X.K W Γ .r kk)) (hx : PE X ex (rdE g X.K W Γ .v x)) (m2 : M2 X ea "get" apos ek ex cpos) :
    PE X (.Call (.Attribute ea "get" apos) [ek, ex] [] cpos) (rdE g X.K W Γ m (.dget2 a kk x)) := by
  refine PE.imp (pe_dget2X (by have := G.hu; omega) ha hk hx m2) fun σ H Q h => ?_
  obtain ⟨F, ta, ca, env, tp, E, h⟩ := h
  unfold ev at h
  rw [fin_ne hm] at h
  have h := h.bind
  cases q : ev Γ .r a env tp with
  | bad => rw [q] at h; exact h.elim
  | exc c t => exact ⟨F, ta, ca, env, tp, E, by rw [q] at h ⊢; exact h⟩
  | ok d t1 =>
    rw [q] at h
    refine ⟨F, ta, ca, env, tp, E, ?_⟩
    rw [q]
    intro H1 e1 w1 x1 rx
    have h5 := h H1 e1 w1
    dsimp only at h5
    cases hdc : dctD d with
    | some kvs =>
      rw [hdc] at h5
      obtain ⟨rfl, hnr⟩ := dctD_some hdc
      obtain ⟨a1, rfl, hd⟩ := RepR.isD rx hnr
      refine ⟨a1, rfl, hd, F, ta, ca, env, t1, E.ext e1 w1, HdG.mono (HdG.bind h5) fun d2 t2 H2 e2 w2 h => fun y ry => ⟨F, ta, ca, env, t2, (E.ext e1 w1).ext e2 w2, HdG.mono (HdG.bind h) fun d3 t3 H3 e3 w3 h => fun z rz => ?_⟩⟩
      obtain ⟨u, hu, h⟩ := h.opt
      obtain ⟨hb, rfl⟩ := grd_some hu
      obtain ⟨hb, hn⟩ := band hb
      obtain ⟨a2, ea, c⟩ := RepR.dgetK (RepR.step w1.nt (e2.trans e3) rx) (RepR.step w2.nt e3 ry) hb (by simpa using hn)
      cases ea
      have rz : Rep X.K H3 F z d3 := rz
      rcases c with ⟨v, d, g1, g2, g3⟩ | ⟨g1, g2⟩
      · rw [g2] at h
        exact ⟨some v, g1, h H3 (.refl _ _ _) w3 v (.of g3)⟩
      · rw [g2] at h
        exact ⟨none, g1, h H3 (.refl _ _ _) w3 z (.of rz)⟩
    | none =>
      rw [hdc] at h5
      exact h5.elim
/-- of a dict of one's own -/
theorem e_dgo {i : Nat} {x : Str} {kk c : C} {ek ex : Expr} {p apos cpos : Pos} (G : Gd X N sc k) (hm : m ≠ .t) (hi : N[i]? = some x) (hv : visB sc x = true) (hn : nameB x = true) (hk : PE X ek (rdE g X.K W Γ .r kk)) (hx : PE X ex (rdE g X.K W Γ .v c)) (m2 : M2 X (.Name x p) "get" apos ek ex cpos) :
    PE X (.Call (.Attribute (.Name x p) "get" apos) [ek, ex] [] cpos) (rdE g X.K W Γ m (.dgo i kk c)) := by
  unfold nameB at hn
  simp only [Bool.and_eq_true, Bool.not_eq_true'] at hn
  refine PE.imp (pe_dget2X (by have := G.hu; omega) (pe_var (by rw [G.hN]; exact hi) (vis_of G hv) hn.1.1 hn.1.2) hk hx m2) fun σ H Q h => ?_
  obtain ⟨F, ta, ca, env, tp, E, h⟩ := h
  unfold ev at h
  rw [fin_ne hm] at h
  have sl := E.slot i
  cases q : getB env i with
  | owd kb kvs =>
    rw [q] at h sl
    obtain ⟨a, h1, h2, h3, h4⟩ := sl
    have hd : IsDX X.K H a := by
      cases h4 with
      | k e n q r => exact .inl (.inl ⟨_, .inl e⟩)
      | t e te t ra rb => exact .inr ⟨_, _, _, e, te, td_keys t.key t.ok ra⟩
    refine ⟨.ref a, h1, a, rfl, hd, F, ta, ca, env, tp, E, HdG.mono (HdG.bind h) fun d2 t2 H2 e2 w2 h => fun y ry => ⟨F, ta, ca, env, t2, E.ext e2 w2, HdG.mono (HdG.bind h) fun d3 t3 H3 e3 w3 h => fun z rz => ?_⟩⟩
    obtain ⟨u, hu, hz⟩ := h.opt
    obtain ⟨hb, rfl⟩ := grd_some hu
    have rz : Rep X.K H3 F z d3 := rz
    have ry := RepR.step w2.nt e3 ry
    cases h4 with
    | t e te t ra rb =>
      have hT : keyT d2 = true := hb
      have e3' := (e2.trans e3) _ _ (fun z => z) e True.intro
      rcases TGet.mk e3' te t (ra.step E.wd.nt ((e2.trans e3).mono fun _ z => z.elim)) (rb.step E.wd.nt ((e2.trans e3).mono fun _ z => z.elim)) hT (keyT_rep hT ry) with ⟨v, d, g1, g2, g3⟩ | ⟨g1, g2⟩
      · rw [g2] at hz
        exact ⟨some v, .inr g1, hz H3 (.refl _ _ _) w3 v (.of g3)⟩
      · rw [g2] at hz
        exact ⟨none, .inr g1, hz H3 (.refl _ _ _) w3 z (.of rz)⟩
    | k e n q r =>
      obtain ⟨key, rfl, rfl⟩ := key_inv (show keyB d2 = true from hb) ry
      have e3' := (e2.trans e3) _ _ (fun z => z) e (.inl h3)
      rcases dget_val (x := key) q (r.step E.wd.nt ((e2.trans e3).mono fun _ z => z.elim)) with ⟨v, d, g1, g2, g3⟩ | ⟨g1, g2⟩
      · rw [g2] at hz
        exact ⟨some v, .inl (.inl ⟨_, key, .inl e3', rfl, g1.symm⟩), hz H3 (.refl _ _ _) w3 v (.of g3)⟩
      · rw [g2] at hz
        exact ⟨none, .inl (.inl ⟨_, key, .inl e3', rfl, g1.symm⟩), hz H3 (.refl _ _ _) w3 z (.of rz)⟩
  | _ => rw [q] at h; exact h.elim
def rdP (g : G) (K : PySem.W.Frag) (W : WX) (Γ : Sm) (c : Cs) : TO := fun σ H Q => ∃ F ta ca env tp, EnvOk g K F ta ca H σ env tp ∧ HdG g W F ta ca H σ ((evs Γ .r c env tp).bind fun l t => .opt (partD l) t) fun i _ H' => Q i H'
theorem PO.imp {X : Cx} {e : Option Expr} {t t' : TO} (h : PO X e t) (f : ∀ σ H Q, t' σ H Q → t σ H Q) : PO X e t' := ⟨fun pins s σ H Q I q => h.run pins s σ H Q I (f σ H Q q)⟩
theorem p_none : PO X none (rdP g X.K W Γ .nil) := by
  refine PO.imp po_none fun σ H Q h => ?_
  obtain ⟨F, ta, ca, env, tp, E, h⟩ := h
  unfold evs at h
  exact HdG.now (a := none) h E.wd
theorem p_some {a : C} {e : Expr} (ha : PE X e (rdE g X.K W Γ .r a)) : PO X (some e) (rdP g X.K W Γ (.cons a .nil)) := by
  refine PO.imp (po_some ha) fun σ H Q h => ?_
  obtain ⟨F, ta, ca, env, tp, E, h⟩ := h
  unfold evs evs at h
  refine ⟨F, ta, ca, env, tp, E, h.bind.bind.mono fun d t1 H1 e1 w1 h => fun x rx => ?_⟩
  have h := HdG.now (HdG.bind h) w1
  have h := HdG.now h w1
  obtain ⟨z, hz, h⟩ := h.opt
  cases d with
  | int i =>
    cases hz
    exact ⟨i, RepR.int_inv rx, h H1 (.refl _ _ _) w1⟩
  | _ => cases hz
def rSlc (K : PySem.W.Frag) : V → Option Int → Option Int → Hp → VK → Prop := fun x lo hi H Q => rSlL K x lo hi H Q ∨ (rSlA K x lo hi H Q ∨ rSlS x lo hi H Q)
theorem slc_ok {F : Addr → Prop} {ta ca : Addr} {H : Hp} {tp : Tp} {K : PySem.W.Frag} {x : V} {d z : D} {lo hi : Option Int} {Q : VK} (w : World g F ta ca H tp) (h : slcD d lo hi = some z) (rx : RepR K H F x d) (q : ∀ v H', Ext ta H H' → World g F ta ca H' tp → Rep K H' F v z → Q v H') : rSlc K x lo hi H Q := by
  unfold slcD at h
  split at h
  · cases h
    obtain ⟨a, vs, rfl, ha, sa⟩ := rx.lst_inv
    exact .inl ⟨a, vs, rfl, SqL.ofL ha, fun p hp => q _ _ (Ext.new hp) (w.new hp) (new_lst w (sa.cut lo hi) hp)⟩
  · cases h
    obtain ⟨a, vs, rfl, ha, sa⟩ := rx.tup_inv.tup_inv
    refine .inr (.inl ⟨a, vs, rfl, ha, fun hw => ?_, fun _ p hp => q _ _ (Ext.new hp) (w.new hp) (new_tup w (sa.cut lo hi) hp)⟩)
    have e : cutA (α := D) ‹_› lo hi = ‹_› := by
      unfold cutA
      rw [sa.length] at hw
      rw [hw.1, hw.2, List.drop_zero, Nat.sub_zero, List.take_length]
    rw [e] at q
    exact q _ _ (.refl _ _ _) w (.tup ha sa)
  · obtain ⟨hb, rfl⟩ := grd_some h
    exact .inr (.inr ⟨_, rx.str_inv, big_le hb, q _ _ (.refl _ _ _) w (.str _)⟩)
  · cases h
theorem e_slc {a : C} {lo hi : Cs} {ea : Expr} {el eh : Option Expr} {p2 pos : Pos} (hm : m ≠ .t) (ha : PE X ea (rdE g X.K W Γ .r a)) (hl : PO X el (rdP g X.K W Γ lo)) (hh : PO X eh (rdP g X.K W Γ hi)) : PE X (.Subscript ea (.Slice el eh none p2) pos) (rdE g X.K W Γ m (.slc a lo hi)) := by
  refine PE.imp (pe_slice (sl_list.or (sl_tupA.or sl_str)) ha hl hh) fun σ H Q h => ?_
  obtain ⟨F, ta, ca, env, tp, E, h⟩ := h
  unfold ev at h
  rw [fin_ne hm] at h
  refine ⟨F, ta, ca, env, tp, E, h.bind.mono fun d t1 H1 e1 w1 h => fun x rx => ⟨F, ta, ca, env, t1, E.ext e1 w1, h.bind.mono fun l t2 H2 e2 w2 h => ⟨F, ta, ca, env, t2, (E.ext e1 w1).ext e2 w2, h.bind.mono fun hh t3 H3 e3 w3 h => ?_⟩⟩⟩
  obtain ⟨z, hz, h⟩ := h.opt
  exact slc_ok w3 hz (RepR.step w1.nt (e2.trans e3) rx) fun v H' e w r => h H' e w v (.of r)
/-! ### built-in functions -/
def bfName : BF → Str
  | .len => "len" | .abs => "abs" | .int => "int" | .tuple => "tuple" | .list => "list" | .any => "any" | .all => "all" | .sum => "sum" | .max2 => "max" | .min2 => "min" | .isTup => "isinstance" | .sorted => "sorted" | .sortset => "sorted" | .max1 => "max" | .rg1 => "range" | .str1 => "str"
def bfTy : BF → Option String
  | .int => some "int" | .tuple => some "tuple" | .list => some "list" | .rg1 => some "range" | .str1 => some "str" | _ => none
def bfId : BF → String
  | .len => "len" | .abs => "abs" | .any => "any" | .all => "all" | .sum => "sum" | .max2 => "max" | .min2 => "min" | .isTup => "isinstance" | .sorted => "sorted" | .sortset => "sorted" | .max1 => "max" | _ => ""
def rSDI : List V → Hp → VK → Prop := fun xs H Q => ∃ (a : Addr) (kvs : List (L2.Key × V)) (ks : List Int), xs = [.ref a] ∧ Rd H a (.dK kvs) ∧ kvs.map (·.1) = ks.map Sum.inl ∧ ks.length < 64 ∧
    ∀ (ys : List Int) (p : Addr), ys.Perm ks → ys.Pairwise (· ≤ ·) → H p = none → Q (.ref p) (upd H p (.lst (ys.map V.int)))
theorem CallR.or {X : Cx} {f : Value} {r r' : List V → Hp → VK → Prop} (h : CallR X f r) (h' : CallR X f r') : CallR X f (fun xs H Q => r xs H Q ∨ r' xs H Q) := fun pins s σ H xs us Q I rv q => q.elim (fun q => h pins s σ H xs us Q I rv q) fun q => h' pins s σ H xs us Q I rv q
theorem ints_len : ∀ {ds : List D} {ns : List Int}, intsOf ds = some ns → ds.length = ns.length
  | [], ns, h => by cases h; rfl
  | d :: ds, ns, h => by
    cases d <;> simp [intsOf] at h
    obtain ⟨ms, h1, rfl⟩ := h
    rw [List.length_cons, List.length_cons, ints_len h1]
theorem intsOf_ints : ∀ ns : List Int, intsOf (ns.map PyData.int) = some ns
  | [] => rfl
  | n :: ns => by
    show (intsOf (ns.map PyData.int)).map (n :: ·) = _
    rw [intsOf_ints ns]
    rfl
/-- list(r) of a range from 0 on -/
def rLRg : List V → Hp → VK → Prop := fun vs H Q => ∃ p n, vs = [.ref p] ∧ H p = some (.rng 0 n) ∧ RgOk 0 n ∧ ∀ q, H q = none → Q (.ref q) (upd H q (.lst (rgV 0 n)))
def rMaxT (K : PySem.W.Frag) : List V → Hp → VK → Prop := fun vs H Q => ∃ (a : Addr) (i : Int) (ns : List Int), vs = [V.ref a] ∧ SqT K H a ((i :: ns).map V.int) ∧ Q (.int (maxI i ns)) H
theorem call_range1 {X : Cx} : CallR X (.type "range") (fun vs H Q => ∃ j, vs = [V.int j] ∧ ∀ p, H p = none → Q (.ref p) (upd H p (.rng 0 j))) := by
  intro pins s σ H vs us Q I r ⟨j, ev, q⟩
  subst ev
  obtain ⟨u, rfl, t, rfl⟩ := vals1 r
  exact call_range_1 ⟨.ref s.heap.objs.size, upd H s.heap.objs.size (.rng 0 j), I.laid (fun b o e => Heap.get?_push_of_some _ e) (Nat.le_refl _) ⟨_, _, _, Heap.get?_push_size _ rfl⟩, rfl, q _ (I.hok.fresh (Nat.le_refl _))⟩
theorem call_listRg {X : Cx} (hc : X.calm = true) : CallR X (.type "list") rLRg := by
  intro pins s σ H vs us Q I r ⟨p, n, ev, hp, ok, q⟩
  subst ev
  obtain ⟨u, rfl, ru⟩ := vals1 r
  obtain rfl : u = Value.ref p := ru
  obtain ⟨t, u, v, ho⟩ := (show ObjOk X.prog X.w H s.heap p (.rng 0 n) from I.hok p _ hp)
  obtain ⟨b1, b2, b3, b4, b5⟩ := ok
  refine call_list_range (n := (n - 0).toNat) (I.ok.hd hc) (show IsRange s.heap p 0 n 1 t u v from ho) (small_one b1 b2 b3 b4) (rangeSize_nat 0 n) b5 fun h' tk acc c' keep at_ its => ?_
  have len : (rgV 0 n).length ≤ sizeLine := by rw [rgV_length, sizeLine_eq]; omega
  exact ⟨.ref s.heap.objs.size, _, I.laid keep (Nat.le_refl _) (show ObjOk X.prog X.w _ _ _ (.lst (rgV 0 n)) from ⟨len, acc.toList, c', vals_rg its, by rw [Array.toArray_toList]; exact at_⟩), rfl, q _ (I.hok.fresh (Nat.le_refl _))⟩
theorem reads_ints {h : Heap} : ∀ {us : List Value} {ns : List Int}, Vals (ns.map V.int) us → ReadsAll h us (ns.map PyData.int) []
  | [], [], _ => .nil
  | u :: us, n :: ns, r => by
    cases r with
    | cons a b =>
      obtain ⟨t, rfl⟩ := a
      exact .cons (.int n t) (reads_ints b)
  | [], _ :: _, r => by cases r
  | _ :: _, [], r => by cases r
theorem ints_depth : ∀ ns : List Int, PyData.depthAll (ns.map PyData.int) = 0
  | [] => rfl
  | n :: ns => by
    show max 0 (PyData.depthAll (ns.map PyData.int)) = 0
    rw [ints_depth ns]
    rfl
theorem maxI_fold : ∀ (ns : List Int) (i : Int), maxI i ns = ns.foldl max i
  | [], _ => rfl
  | n :: ns, i => by
    rw [maxI, List.foldl_cons, maxI_fold ns]
    congr 1
    rw [Int.max_def]
    split <;> split <;> omega
theorem maxI_ok : ∀ (ns : List Int) (i : Int), maxI i ns ∈ i :: ns ∧ ∀ y ∈ i :: ns, y ≤ maxI i ns
  | [], i => ⟨by simp [maxI], fun y h => by simp at h; simp [maxI, h]⟩
  | n :: ns, i => by
    rw [maxI]
    obtain ⟨h1, h2⟩ := maxI_ok ns (if i < n then n else i)
    have h3 := h2 _ (List.mem_cons_self ..)
    have h4 : i ≤ (if i < n then n else i) ∧ n ≤ (if i < n then n else i) := by split <;> omega
    constructor
    · rcases List.mem_cons.mp h1 with h | h
      · rw [h]
        split <;> simp
      · exact List.mem_cons_of_mem _ (List.mem_cons_of_mem _ h)
    · intro y hy
      rcases List.mem_cons.mp hy with rfl | hy
      · exact Int.le_trans h4.1 h3
      · rcases List.mem_cons.mp hy with rfl | hy
        · exact Int.le_trans h4.2 h3
        · exact h2 y (List.mem_cons_of_mem _ hy)
theorem call_maxT {X : Cx} (hc : X.calm = true) (hu : X.A.units + 65 < cLine) : CallR X (.builtin "max") (rMaxT X.K) := by
  intro pins s σ H vs us Q I r ⟨a, i, ns, ev, hs, q⟩
  subst ev
  obtain ⟨its, rv, hl, _⟩ := I.tuple hs
  rw [Vals.ref1 r]
  refine PySem.W.max_tuple_data (vs := its.toArray) (x := .int i) (xs := ns.map PyData.int) (as := []) (I.ok.hd hc) hl (by simpa using reads_ints (ns := i :: ns) rv) ⟨fun x hx y hy => ?_, fun x hx => ?_⟩ ?_ fun j v h' tk bs hj hr keep => ?_
  · have hx : x ∈ (i :: ns).map PyData.int := hx
    have hy : y ∈ (i :: ns).map PyData.int := hy
    obtain ⟨_, _, rfl⟩ := List.mem_map.mp hx
    obtain ⟨_, _, rfl⟩ := List.mem_map.mp hy
    rfl
  · have hx : x ∈ (i :: ns).map PyData.int := hx
    obtain ⟨_, _, rfl⟩ := List.mem_map.mp hx
    exact fun z => nomatch z
  · have e : PyData.depthAll (PyData.int i :: ns.map PyData.int) = 0 := ints_depth (i :: ns)
    rw [e]
    omega
  · rw [PySem.W.maxD_ints, ← maxI_fold] at hr
    cases hr
    exact ⟨.int _, H, I.kept keep, ⟨_, rfl⟩, q⟩
/-- sorted(d), the keys tuples of ints that stand in their order -/
def rSDT (K : PySem.W.Frag) : List V → Hp → VK → Prop := fun vs H Q => ∃ a es ep xs ds F, vs = [V.ref a] ∧ H a = some (tdO a es ep) ∧ TE0 a es xs ∧ Reps K H F (xs.map fun x => V.ref x.2.1) ds ∧ ordT ds = true ∧ ∀ p, H p = none → Q (.ref p) (upd H p (.lst (xs.map fun x => V.ref x.2.1)))
theorem alike_ints : ∀ ns ms : List Int, PySem.W.alikeAll (ns.map PyData.int) (ms.map PyData.int) = true
  | [], _ => rfl
  | _ :: _, [] => rfl
  | _ :: ns, _ :: ms => by
    show (true && PySem.W.alikeAll (ns.map PyData.int) (ms.map PyData.int)) = true
    rw [alike_ints ns ms]
    rfl
theorem intsOf_map : ∀ {ds : List D} {ns : List Int}, intsOf ds = some ns → ds = ns.map PyData.int
  | [], ns, h => by cases h; rfl
  | d :: ds, ns, h => by
    cases d <;> simp [intsOf] at h
    obtain ⟨ms, h1, rfl⟩ := h
    rw [intsOf_map h1]
    rfl
theorem tupB_some {d : D} (h : tupB d = true) : ∃ i ns, d = .tuple ((i :: ns).map PyData.int) := by
  unfold tupB at h
  split at h
  · obtain ⟨ns, hn⟩ := Option.isSome_iff_exists.mp h
    cases ns with
    | nil => have := ints_len hn; simp at this
    | cons i ns => exact ⟨i, ns, by rw [← intsOf_map hn]⟩
  · cases h
theorem pwB_ok {p : D → D → Bool} : ∀ {xs : List D}, pwB p xs = true → xs.Pairwise fun x y => p x y = true
  | [], _ => .nil
  | x :: r, h => by
    rw [pwB, Bool.and_eq_true] at h
    exact .cons (fun y hy => List.all_eq_true.mp h.1 y hy) (pwB_ok h.2)
theorem each_zip {α β γ : Type} {R : α → β × γ → Prop} (f : β → α) : ∀ {bs : List β} {cs : List γ}, bs.length = cs.length → (∀ b c, (b, c) ∈ bs.zip cs → R (f b) (b, c)) → PySem.W.EachIs R (bs.map f) (bs.zip cs)
  | [], [], _, _ => .nil
  | b :: bs, c :: cs, h, q => .cons (q b c (by simp)) (each_zip f (by simpa using h) fun b' c' m => q b' c' (by simp [m]))
  | [], _ :: _, h, _ => by simp at h
  | _ :: _, [], h, _ => by simp at h
theorem each_eq {γ : Type} : ∀ {out : List Value} {bs : List (Addr × γ)}, PySem.W.EachIs (fun v b => v = Value.ref b.1) out bs → out = bs.map fun b => Value.ref b.1
  | _, _, .nil => rfl
  | _, _, .cons h t => by rw [List.map_cons, ← h, each_eq t]
theorem reps_zip {K : PySem.W.Frag} {H : Hp} {F : Addr → Prop} : ∀ {bs : List Addr} {ds : List D}, Reps K H F (bs.map V.ref) ds → ∀ b d, (b, d) ∈ bs.zip ds → Rep K H F (.ref b) d
  | [], _, _, b, d, m => by simp at m
  | x :: bs, ds, r, b, d, m => by
    cases r with
    | cons r1 r2 =>
      rw [List.zip_cons_cons] at m
      rcases List.mem_cons.mp m with e | m
      · cases e; exact r1
      · exact reps_zip r2 b d m
theorem call_sortedDT {X : Cx} (hc : X.calm = true) (hu : X.A.units + 65 < cLine) : CallR X (.builtin "sorted") (rSDT X.K) := by
  intro pins s σ H vs us Q I r h
  obtain ⟨a, es, ep, xs, ds, F, ev, e, te, rs, ho, q⟩ := h
  subst ev
  obtain ⟨u, rfl, ru⟩ := vals1 r
  obtain rfl : u = Value.ref a := ru
  obtain ⟨ob, hob, hex, hdt⟩ := td_raw I e
  obtain ⟨hT, hP⟩ := band ho
  have hes : es.size = xs.length := by
    have z := congrArg List.length (te.ent X.w)
    rwa [Array.length_toList, List.length_map] at z
  have hsl : xs.length ≤ sizeLine := te.sz
  refine Calls.call_function_entry PyProof.Rows.kind_sorted PyProof.Rows.plain_sorted PyProof.Rows.entry_sorted (PyProof.Rows.args_sorted1 _) ?_
  unfold Builtin.«sorted»
  refine wpAny_bind (m := checkCount "sorted" 1 1 _) (wpAny_pure ?_)
  refine wpAny_bind (PySem.W.kdu_collect (A := X.A.in1) (kdl_raw te.sys hex hdt) (I.ok.hd hc) hob (by rw [hes]; exact hsl) fun h' tk acc keep it => ?_)
  let bs : List Addr := xs.map fun x => x.2.1
  have hbl : bs.length = ds.length := by
    have z := Reps.length rs
    rw [List.length_map] at z
    rw [← z]
    exact List.length_map ..
  have hacc : acc.toList = bs.map Value.ref := by
    have h1 : acc.toList.length = xs.length := by rw [Array.length_toList, it.1, hes]
    refine List.ext_getElem? fun j => ?_
    by_cases hj : j < xs.length
    · have h2 : j < acc.toList.length := by omega
      obtain ⟨en, hen, hv⟩ := it.2 j acc.toList[j] (by rw [← Array.getElem?_toList]; exact List.getElem?_eq_getElem h2)
      have h3 : es.toList[j]? = some en := by rw [Array.getElem?_toList]; exact hen
      rw [te.ent X.w, List.getElem?_map, List.getElem?_eq_getElem hj] at h3
      cases h3
      rw [List.getElem?_eq_getElem h2, hv, List.getElem?_map, List.getElem?_map, List.getElem?_eq_getElem hj]
      rfl
    · rw [List.getElem?_eq_none (by omega), List.getElem?_eq_none (by rw [List.length_map, List.length_map]; omega)]
  have I1 : Inv X pins σ H { s with heap := h', toks := tk } := I.kept keep
  refine wpAny_bind (wpAny_newList ?_ (by rw [hacc, List.length_map, List.length_map]; exact hsl))
  show wpAny _ _ _ _ _ { s with heap := h'.push (PyProof.Rows.seqObj "list" acc.toList.toArray 0), toks := tk }
  have hoL : (h'.push (PyProof.Rows.seqObj "list" acc.toList.toArray 0)).get? h'.objs.size = some (PyProof.Rows.seqObj "list" acc.toList.toArray 0) := Heap.get?_push_size _ rfl
  have I2 : Inv X pins σ H { s with heap := h'.push (PyProof.Rows.seqObj "list" acc.toList.toArray 0), toks := tk } := I1.kept (t' := tk) fun b o e => Heap.get?_push_of_some _ e
  have rs' : Reps X.K H F (bs.map V.ref) ds := by rw [List.map_map]; exact rs
  have hmap : (bs.zip ds).map (fun b => b.2) = ds := List.map_snd_zip (Nat.le_of_eq hbl.symm)
  have hmap1 : (bs.zip ds).map (fun b => b.1) = bs := List.map_fst_zip (Nat.le_of_eq hbl)
  have hint : ∀ d ∈ ds, ∃ i ns, d = PyData.tuple ((i :: ns).map PyData.int) := fun d hd => tupB_some (List.all_eq_true.mp hT d hd)
  have hzl : (bs.zip ds).length = xs.length := by rw [← List.length_map (f := fun b : Addr × D => b.1), hmap1]; exact List.length_map ..
  have hpw : ((bs.zip ds).map (fun b => b.2)).Pairwise (fun x y => (!PySem.W.dataLt y x) = true) := by
    rw [hmap]
    exact pwB_ok hP
  have hmg := List.mergeSort_of_pairwise (le := PySem.W.dataLe false fun b : Addr × D => b.2) (l := bs.zip ds) (List.pairwise_map.mp hpw)
  have hsort := PySem.W.list_sort_data (prog := X.prog) (w := X.w) (A := X.A.in1) (E := X.xe) (s := { s with heap := h'.push (PyProof.Rows.seqObj "list" acc.toList.toArray 0), toks := tk }) (bs := bs.zip ds) (enc := fun b => b.2) (R := fun v b => v = Value.ref b.1) (vs := acc.toList)
    (Q := fun _ s' => s' = { s with heap := PyProof.Rows.sortedHeap (h'.push (PyProof.Rows.seqObj "list" acc.toList.toArray 0)) h'.objs.size acc.toList acc.toList.toArray, toks := tk }) hoL
    (by rw [hacc]; exact each_zip Value.ref hbl fun b d _ => rfl)
    (by
      have z := each_zip (R := fun v (b : Addr × D) => ∃ as, Reads (h'.push (PyProof.Rows.seqObj "list" acc.toList.toArray 0)) v b.2 as ∧ ¬h'.objs.size ∈ as) Value.ref hbl (fun b d m => ?_)
      · rw [← hacc] at z
        exact z
      refine ⟨[], ?_, by simp⟩
      obtain ⟨i, ns, ed⟩ := hint d (List.of_mem_zip m).2
      have r1 := reps_zip rs' b d m
      show Reads _ _ d _
      rw [ed] at r1 ⊢
      cases r1 with
      | tup hq rr =>
        obtain ⟨its, rv, ⟨o, ho, hcl, n, hdd⟩, _⟩ := I2.tuple hq
        have ev := Reps.ints rr (ns := i :: ns) (intsOf_ints _)
        rw [ev] at rv
        exact .tuple ho hcl hdd (by simpa using reads_ints (ns := i :: ns) rv))
    (by
      rw [hmap]
      intro d hd d' hd'
      obtain ⟨i, ns, rfl⟩ := hint d hd
      obtain ⟨i', ns', rfl⟩ := hint d' hd'
      exact alike_ints (i :: ns) (i' :: ns'))
    (by
      rw [hmap]
      exact .inl fun d hd => by
        obtain ⟨i, ns, rfl⟩ := hint d hd
        exact ⟨_, _, rfl⟩)
    (by rw [hzl]; exact hsl)
    (fun b hb => by
      obtain ⟨i, ns, ed⟩ := hint b.2 (by rw [← hmap]; exact List.mem_map.mpr ⟨b, hb, rfl⟩)
      have e0 : PyData.depthAll ((i :: ns).map PyData.int) = 0 := ints_depth _
      have e1 : b.2.depth = 1 := by
        rw [ed]
        show PyData.depthAll ((i :: ns).map PyData.int) + 1 = 1
        rw [e0]
      have hin : X.A.in1.units = X.A.units + 1 := rfl
      show X.A.in1.units + 1 + b.2.depth < cLine
      omega)
    (fun out hl hE => by
      rw [hmg] at hE
      have eo := each_eq hE
      rw [show ((bs.zip ds).map fun b => Value.ref b.1) = ((bs.zip ds).map fun b => b.1).map Value.ref from (List.map_map ..).symm, hmap1, ← hacc] at eo
      rw [eo])
  refine wpAny_bind (wpAny_holding (wpAny_mono hsort (fun _ s' x => ?_) fun _ _ e => e))
  subst x
  refine wpAny_pure ⟨_, rfl, .ref h'.objs.size, upd H h'.objs.size (.lst (bs.map V.ref)), I1.laid (t' := tk) (fun b u e => ?_) (Nat.le_refl _) ?_, rfl, ?_⟩
  · have hne : b ≠ h'.objs.size := Nat.ne_of_lt (Heap.lt_size e)
    have e2 : (h'.push (PyProof.Rows.seqObj "list" acc.toList.toArray 0)).get? b = some u := Heap.get?_push_of_some _ e
    exact (sortedHeap_old hne (Heap.lt_size e2)).trans e2
  · obtain ⟨n, hn⟩ := PyProof.Rows.sortedHeap_at (vs := acc.toList) (out := acc.toList.toArray) hoL
    exact ⟨by rw [List.length_map, List.length_map]; exact hsl, acc.toList, n, by rw [hacc]; exact vals_refs bs, hn⟩
  · have := q h'.objs.size (I1.hok.fresh (Nat.le_refl _))
    rwa [show (xs.map fun x => V.ref x.2.1) = bs.map V.ref from (List.map_map ..).symm] at this
def rBlt (K : PySem.W.Frag) : BF → List V → Hp → VK → Prop
  | .len => fun xs H Q => ∃ x n, xs = [x] ∧ LenV K x H n ∧ Q (.int n) H
  | .abs => fun xs H Q => ∃ i, xs = [.int i] ∧ Q (.int (if i < 0 then -i else i)) H
  | .int => fun xs H Q => (∃ i, xs = [.int i] ∧ Q (.int i) H) ∨ ∃ k, xs = [.bl k] ∧ Q (.int (if k then 1 else 0)) H
  | .tuple => fun xs H Q => ∃ p ys, xs = [.ref p] ∧ ((SqL K H p ys ∧ ∀ l, H l = none → Q (.ref l) (upd H l (.tup ys))) ∨ (SqT K H p ys ∧ Q (.ref p) H))
  | .list => fun xs H Q => (∃ p ys, xs = [.ref p] ∧ (SqL K H p ys ∨ SqT K H p ys) ∧ ∀ l, H l = none → Q (.ref l) (upd H l (.lst ys))) ∨ rLRg xs H Q
  | .sorted => fun vs H Q => rSortedI K vs H Q ∨ (rSDI vs H Q ∨ rSDT K vs H Q)
  | .max1 => fun vs H Q => rMax K vs H Q ∨ rMaxT K vs H Q
  | .rg1 => fun vs H Q => ∃ j, vs = [V.int j] ∧ ∀ p, H p = none → Q (.ref p) (upd H p (.rng 0 j))
  | .str1 => fun xs H Q => ∃ i : Int, xs = [.int i] ∧ i.natAbs.log2 < 1920 ∧ Q (.str (toString i : String)) H
  | .sortset => fun _ _ _ => False
  | .any => rAny K
  | .all => rAll K
  | .sum => rSum K
  | .max2 => fun xs H Q => ∃ i j, xs = [.int i, .int j] ∧ Q (.int (if j > i then j else i)) H
  | .min2 => fun xs H Q => ∃ i j, xs = [.int i, .int j] ∧ Q (.int (if j < i then j else i)) H
  | .isTup => fun xs H Q => rIsi K (xs ++ [.ty "tuple"]) H Q
theorem isTup_ok {F : Addr → Prop} {H : Hp} {K : PySem.W.Frag} {x : V} {d z : D} {Q : VK} (h : isTupD d = some z) (rx : RepR K H F x d) (q : ∀ v, Rep K H F v z → Q v H) : rIsi K ([x] ++ [.ty "tuple"]) H Q := by
  cases d with
  | none =>
    cases h
    cases rx.none_inv
    exact ⟨_, _, _, _, false, rfl, .ty _, .base .non, kit_ty (by decide +kernel), q _ (.bl _)⟩
  | bool b =>
    cases h
    cases rx.bool_inv
    exact ⟨_, _, _, _, false, rfl, .ty _, .base (.bl _), kit_ty (by decide +kernel), q _ (.bl _)⟩
  | int b =>
    cases h
    cases rx.int_inv
    exact ⟨_, _, _, _, false, rfl, .ty _, .base (.int _), kit_ty (by decide +kernel), q _ (.bl _)⟩
  | str b =>
    cases h
    cases rx.str_inv
    exact ⟨_, _, _, _, false, rfl, .ty _, .base (.str _), kit_ty (by decide +kernel), q _ (.bl _)⟩
  | list xs =>
    cases h
    obtain ⟨a, vs, rfl, ha, sa⟩ := rx.lst_inv
    exact ⟨_, _, _, _, false, rfl, .ty _, .base (.lst ha), kit_ty (by decide +kernel), q _ (.bl _)⟩
  | tuple xs =>
    cases h
    obtain ⟨a, vs, rfl, ha, sa⟩ := rx.tup_inv.tup_inv
    rcases ha with (ha | ⟨o, ha⟩) | ⟨o, its, n, h1, h2, _⟩
    · exact ⟨_, _, _, _, true, rfl, .ty _, .base (.tup ha), kit_ty (by decide +kernel), q _ (.bl _)⟩
    · exact ⟨_, _, _, _, true, rfl, .ty _, .fTuple ha, kit_ty (by decide +kernel), q _ (.bl _)⟩
    · exact ⟨_, _, _, _, true, rfl, .ty _, .kTuple h1 h2, kit_ty (by decide +kernel), q _ (.bl _)⟩
  | dict kvs => cases h
theorem ins_perm (x : Int) : ∀ l, (insI x l).Perm (x :: l)
  | [] => .refl _
  | y :: r => by
    unfold insI
    split
    · exact .refl _
    · exact ((ins_perm x r).cons y).trans (.swap _ _ _)
theorem ins_pw (x : Int) : ∀ l : List Int, l.Pairwise (· ≤ ·) → (insI x l).Pairwise (· ≤ ·)
  | [], _ => by simp [insI]
  | y :: r, h => by
    unfold insI
    have h1 := List.pairwise_cons.mp h
    split
    · rename_i q
      have q := of_decide_eq_true q
      refine List.pairwise_cons.mpr ⟨fun z hz => ?_, h⟩
      rcases List.mem_cons.mp hz with e | hz
      · rw [e]; exact q
      · exact Int.le_trans q (h1.1 z hz)
    · rename_i q
      have q := of_decide_eq_false q
      refine List.pairwise_cons.mpr ⟨fun z hz => ?_, ins_pw x r h1.2⟩
      rcases List.mem_cons.mp ((ins_perm x r).mem_iff.mp hz) with e | hz
      · rw [e]; omega
      · exact h1.1 z hz
theorem sort_perm : ∀ l, (sortI l).Perm l
  | [] => .refl _
  | x :: r => by
    unfold sortI
    exact (ins_perm x _).trans ((sort_perm r).cons x)
theorem sort_pw : ∀ l, (sortI l).Pairwise (· ≤ ·)
  | [] => .nil
  | x :: r => by
    unfold sortI
    exact ins_pw x _ (sort_pw r)
theorem sort_uniq {l l' : List Int} (hp : l'.Perm l) (hw : l'.Pairwise (· ≤ ·)) : l' = sortI l :=
  List.Perm.eq_of_pairwise (le := fun a b => a ≤ b) (fun a b _ _ h1 h2 => Int.le_antisymm h1 h2) hw (sort_pw l) (hp.trans (sort_perm l).symm)
theorem keys_ints : ∀ {kvs : List (L2.Key × V)} {ds : List D} {ns : List Int}, ds = kvs.map (fun p => kD p.1) → intsOf ds = some ns → kvs.map (·.1) = ns.map Sum.inl
  | [], ds, ns, e, h => by
    subst e
    cases h
    rfl
  | (k, v) :: kvs, ds, ns, e, h => by
    subst e
    cases k with
    | inl i =>
      simp only [List.map_cons, kD, intsOf, Option.map_eq_some_iff] at h
      obtain ⟨ms, h1, rfl⟩ := h
      rw [List.map_cons, List.map_cons, keys_ints rfl h1]
    | inr x => simp [kD, intsOf] at h
theorem keysT_ints {ds : List (D × D)} {ns : List Int} (ok : ∀ p ∈ ds, keyT p.1 = true) (h : intsOf (ds.map (·.1)) = some ns) : ds = [] := by
  cases ds with
  | nil => rfl
  | cons p r =>
    have h1 := ok p (List.mem_cons_self ..)
    obtain ⟨p1, p2⟩ := p
    cases p1 <;> first | cases h1 | simp [intsOf] at h
theorem RepR.dictI {K : PySem.W.Frag} {H : Hp} {F : Addr → Prop} {x : V} {kvs : List (D × D)} {ns : List Int} (r : RepR K H F x (.dict kvs)) (h : intsOf (kvs.map (·.1)) = some ns) (hn : kvs ≠ []) : ∃ a ks, x = .ref a ∧ Rd H a (.dK ks) ∧ ks.map (·.1) = ns.map Sum.inl := by
  cases r with
  | of r =>
    cases r with
    | dcK e q _ => exact ⟨_, _, rfl, .inr ⟨_, e⟩, keys_ints q h⟩
    | dcT e _ te t ra rb => exact absurd (keysT_ints t.ok h) hn
    | rng e => simp [intsOf] at h
  | dcK e _ q _ => exact ⟨_, _, rfl, .inl e, keys_ints q h⟩
  | dcT e te t ra rb => exact absurd (keysT_ints t.ok h) hn
theorem rgGo_map (lo : Int) : ∀ n i, rngGo lo i n = ((List.range n).map fun j => lo + ((i + j : Nat) : Int)).map PyData.int
  | 0, _ => rfl
  | n + 1, i => by
    rw [rngGo, rgGo_map lo n (i + 1), List.range_succ_eq_map, List.map_cons, List.map_cons, List.map_map, List.map_map, List.map_map]
    refine congr (congrArg List.cons rfl) (List.map_congr_left fun j _ => ?_)
    show PyData.int (lo + ((i + 1 + j : Nat) : Int)) = PyData.int (lo + ((i + (j + 1) : Nat) : Int))
    rw [show i + 1 + j = i + (j + 1) by omega]
theorem reps_rg {K : PySem.W.Frag} {H : Hp} {F : Addr → Prop} (n : Int) : Reps K H F (rgV 0 n) (rngGo 0 0 n.toNat) := by
  have e : rgV 0 n = ((List.range n.toNat).map fun j => (0 : Int) + ((0 + j : Nat) : Int)).map V.int := by
    unfold rgV
    rw [Int.sub_zero, List.map_map]
    refine List.map_congr_left fun j _ => ?_
    show V.int (0 + (j : Int)) = V.int (0 + ((0 + j : Nat) : Int))
    rw [Nat.zero_add]
  rw [e, rgGo_map]
  exact Reps.ofInts _
theorem RepR.rg_inv {K : PySem.W.Frag} {H : Hp} {F : Addr → Prop} {x : V} {n : Int} (r : RepR K H F x (.dict [(.none, .int n)])) : ∃ a, x = .ref a ∧ H a = some (.rng 0 n) := by
  have no : ∀ kvs : List (L2.Key × V), [(PyData.none, PyData.int n)].map (·.1) ≠ kvs.map (fun p => kD p.1) := fun kvs e => by
    cases kvs with
    | nil => cases e
    | cons p t =>
      simp only [List.map_cons, List.cons.injEq] at e
      obtain ⟨k, v⟩ := p
      cases k <;> exact nomatch e.1
  cases r with
  | of r =>
    cases r with
    | dcK e q _ => exact absurd q (no _)
    | dcT e _ te t ra rb => exact absurd (t.ok _ (List.mem_cons_self ..)) (fun z => nomatch z)
    | rng e => exact ⟨_, rfl, e⟩
  | dcK e _ q _ => exact absurd q (no _)
  | dcT e te t ra rb => exact absurd (t.ok _ (List.mem_cons_self ..)) (fun z => nomatch z)
theorem RepR.dictT {K : PySem.W.Frag} {H : Hp} {F : Addr → Prop} {x : V} {kvs : List (D × D)} (r : RepR K H F x (.dict kvs)) (h : ordT (kvs.map (·.1)) = true) (hn : intsOf (kvs.map (·.1)) = none) : ∃ a es ep xs, x = .ref a ∧ H a = some (tdO a es ep) ∧ TE0 a es xs ∧ Reps K H F (xs.map fun x => V.ref x.2.1) (kvs.map (·.1)) := by
  have no : ∀ ks : List (L2.Key × V), kvs.map (·.1) ≠ ks.map (fun p => kD p.1) := fun ks e => by
    have h1 := (band h).1
    rw [e] at h1 hn
    cases ks with
    | nil => cases hn
    | cons p t =>
      rw [List.map_cons, List.all_cons, Bool.and_eq_true] at h1
      obtain ⟨k, v⟩ := p
      cases k <;> exact nomatch h1.1
  cases r with
  | of r =>
    cases r with
    | dcK e q _ => exact absurd q (no _)
    | dcT e _ te t ra rb => exact ⟨_, _, _, _, rfl, e, te, ra⟩
    | rng e => have h1 := (band h).1; cases h1
  | dcK e _ q _ => exact absurd q (no _)
  | dcT e te t ra rb => exact ⟨_, _, _, _, rfl, e, te, ra⟩
theorem blt_ok {F : Addr → Prop} {ta ca : Addr} {H : Hp} {tp : Tp} {K : PySem.W.Frag} {f : BF} {vs : List V} {ds : List D} {z : D} {Q : VK} (w : World g F ta ca H tp) (h : bltD f ds = some z) (hss : f ≠ .sortset) (rs : RepRs K H F vs ds) (q : ∀ v H', Ext ta H H' → World g F ta ca H' tp → Rep K H' F v z → Q v H') : rBlt K f vs H Q := by
  have one : ∀ {vs : List V} {d : D}, RepRs K H F vs [d] → ∃ x, vs = [x] ∧ RepR K H F x d := fun r => by
    cases r with
    | cons r1 rr => cases rr; exact ⟨_, rfl, r1⟩
  have two : ∀ {vs : List V} {d e : D}, RepRs K H F vs [d, e] → ∃ x y, vs = [x, y] ∧ RepR K H F x d ∧ RepR K H F y e := fun r => by
    cases r with
    | cons r1 rr =>
      obtain ⟨y, rfl, ry⟩ := one rr
      exact ⟨_, y, rfl, r1, ry⟩
  have qq : ∀ v, Rep K H F v z → Q v H := fun v r => q v H (.refl _ _ _) w r
  unfold bltD at h
  split at h
  · obtain ⟨x, rfl, rx⟩ := one rs
    cases h
    obtain ⟨a, xs, rfl, ha, sa⟩ := rx.lst_inv
    exact ⟨_, _, rfl, .inl ⟨xs, SqL.ofL ha, rfl⟩, by rw [sa.length]; exact qq _ (.int _)⟩
  · obtain ⟨x, rfl, rx⟩ := one rs
    cases h
    obtain ⟨a, xs, rfl, ha, sa⟩ := rx.tup_inv.tup_inv
    exact ⟨_, _, rfl, .inr ⟨xs, ha, rfl⟩, by rw [sa.length]; exact qq _ (.int _)⟩
  · obtain ⟨x, rfl, rx⟩ := one rs
    obtain ⟨hb, rfl⟩ := grd_some h
    cases rx.str_inv
    exact ⟨_, _, rfl, ⟨big_le hb, rfl⟩, qq _ (.int _)⟩
  · obtain ⟨x, rfl, rx⟩ := one rs
    cases h
    cases rx.int_inv
    exact ⟨_, rfl, qq _ (.int _)⟩
  · obtain ⟨x, rfl, rx⟩ := one rs
    cases h
    cases rx.int_inv
    exact .inl ⟨_, rfl, qq _ (.int _)⟩
  · obtain ⟨x, rfl, rx⟩ := one rs
    cases h
    cases rx.bool_inv
    exact .inr ⟨_, rfl, qq _ (.int _)⟩
  · obtain ⟨x, rfl, rx⟩ := one rs
    cases h
    obtain ⟨a, xs, rfl, ha, sa⟩ := rx.lst_inv
    exact ⟨a, xs, rfl, .inl ⟨SqL.ofL ha, fun l hl => q _ _ (Ext.new hl) (w.new hl) (new_tup w sa hl)⟩⟩
  · obtain ⟨x, rfl, rx⟩ := one rs
    cases h
    obtain ⟨a, xs, rfl, ha, sa⟩ := rx.tup_inv.tup_inv
    exact ⟨a, xs, rfl, .inr ⟨ha, qq _ (.tup ha sa)⟩⟩
  · obtain ⟨x, rfl, rx⟩ := one rs
    cases h
    obtain ⟨a, xs, rfl, ha, sa⟩ := rx.lst_inv
    exact .inl ⟨a, xs, rfl, .inl (SqL.ofL ha), fun l hl => q _ _ (Ext.new hl) (w.new hl) (new_lst w sa hl)⟩
  · obtain ⟨x, rfl, rx⟩ := one rs
    cases h
    obtain ⟨a, xs, rfl, ha, sa⟩ := rx.tup_inv.tup_inv
    exact .inl ⟨a, xs, rfl, .inr ha, fun l hl => q _ _ (Ext.new hl) (w.new hl) (new_lst w sa hl)⟩
  · obtain ⟨x, rfl, rx⟩ := one rs
    obtain ⟨hb, rfl⟩ := grd_some h
    obtain ⟨a, rfl, ha⟩ := rx.rg_inv
    have s62 := sm62_ok (band hb).1
    have hb2 := big_le (band hb).2
    exact .inr ⟨a, _, rfl, ha, ⟨by omega, by omega, s62.2.2.1, s62.2.2.2, by rw [Int.sub_zero]; have : sizeLine = 16777216 := rfl; omega⟩, fun l hl => q _ _ (Ext.new hl) (w.new hl) (new_lst w (reps_rg _) hl)⟩
  · obtain ⟨x, rfl, rx⟩ := one rs
    obtain ⟨bs, hb, rfl⟩ := Option.map_eq_some_iff.mp h
    obtain ⟨a, xs, rfl, ha, sa⟩ := rx.lst_inv
    exact ⟨a, bs, rfl, by rw [← sa.bools hb]; exact SqL.ofL ha, qq _ (.bl _)⟩
  · obtain ⟨x, rfl, rx⟩ := one rs
    obtain ⟨bs, hb, rfl⟩ := Option.map_eq_some_iff.mp h
    obtain ⟨a, xs, rfl, ha, sa⟩ := rx.lst_inv
    exact ⟨a, bs, rfl, by rw [← sa.bools hb]; exact SqL.ofL ha, qq _ (.bl _)⟩
  · obtain ⟨x, rfl, rx⟩ := one rs
    obtain ⟨bs, hb, rfl⟩ := Option.map_eq_some_iff.mp h
    obtain ⟨a, xs, rfl, ha, sa⟩ := rx.lst_inv
    exact ⟨a, bs, rfl, by rw [← sa.ints hb]; exact SqL.ofL ha, qq _ (.int _)⟩
  · obtain ⟨x, y, rfl, rx, ry⟩ := two rs
    cases h
    cases rx.int_inv
    cases ry.int_inv
    exact ⟨_, _, rfl, qq _ (.int _)⟩
  · obtain ⟨x, y, rfl, rx, ry⟩ := two rs
    cases h
    cases rx.int_inv
    cases ry.int_inv
    exact ⟨_, _, rfl, qq _ (.int _)⟩
  · obtain ⟨x, rfl, rx⟩ := one rs
    exact isTup_ok h rx qq
  · obtain ⟨x, rfl, rx⟩ := one rs
    obtain ⟨ns, hn, rfl⟩ := Option.map_eq_some_iff.mp h
    obtain ⟨a, xs, rfl, ha, sa⟩ := rx.lst_inv
    refine .inl ⟨a, ns, rfl, by rw [← sa.ints hn]; exact SqL.ofL ha, fun ns' p hp hw hl => ?_⟩
    rw [sort_uniq hp hw]
    exact q _ _ (Ext.new hl) (w.new hl) (new_lst w (Reps.ofInts _) hl)
  · obtain ⟨x, rfl, rx⟩ := one rs
    split at h
    · rename_i ns hn
      obtain ⟨hb, rfl⟩ := grd_some h
      obtain ⟨h1, h2⟩ := band hb
      obtain ⟨a, kvs, rfl, hr, hk⟩ := rx.dictI hn (by simpa using h1)
      have hl : ns.length = ‹List (D × D)›.length := by
        have := ints_len hn
        rw [List.length_map] at this
        exact this.symm
      refine .inr (.inl ⟨a, kvs, ns, rfl, hr, hk, by rw [hl]; exact blt_lt h2, fun ns' p hp hw hl => ?_⟩)
      rw [sort_uniq hp hw]
      exact q _ _ (Ext.new hl) (w.new hl) (new_lst w (Reps.ofInts _) hl)
    · obtain ⟨hb, rfl⟩ := grd_some h
      obtain ⟨a, es, ep, xs, rfl, e, te, ra⟩ := rx.dictT hb (by rename_i hn; exact hn)
      exact .inr (.inr ⟨a, es, ep, xs, _, F, rfl, e, te, ra, hb, fun l hl => q _ _ (Ext.new hl) (w.new hl) (new_lst w ra hl)⟩)
  · obtain ⟨x, rfl, rx⟩ := one rs
    split at h
    · rename_i i ns hn
      cases h
      obtain ⟨a, xs, rfl, ha, sa⟩ := rx.lst_inv
      refine .inl ⟨a, _, rfl, by rw [← sa.ints hn]; exact SqL.ofL ha, by simp, fun m hm hx => ?_⟩
      obtain ⟨g1, g2⟩ := maxI_ok ns i
      rw [Int.le_antisymm (g2 m hm) (hx _ g1)]
      exact qq _ (.int _)
    · cases h
  · obtain ⟨x, rfl, rx⟩ := one rs
    split at h
    · rename_i i ns hn
      cases h
      obtain ⟨a, xs, rfl, ha, sa⟩ := rx.tup_inv.tup_inv
      exact .inr ⟨a, i, ns, rfl, by rw [← sa.ints hn]; exact ha, qq _ (.int _)⟩
    · cases h
  · obtain ⟨x, rfl, rx⟩ := one rs
    cases h
    cases rx.int_inv
    exact ⟨_, rfl, fun p hp => q _ _ (Ext.new hp) (w.new hp) (.rng upd_same)⟩
  · obtain ⟨x, rfl, rx⟩ := one rs
    obtain ⟨hb, rfl⟩ := grd_some h
    cases rx.int_inv
    exact ⟨_, rfl, blt_lt hb, qq _ (.str _)⟩
  · exact absurd rfl hss
  · cases h
def bfV (f : BF) : Value := match bfTy f with
  | some T => .type T
  | none => .builtin (bfId f)
theorem op_blt (f : BF) (hc : X.calm = true) (hu : X.A.units + 65 < cLine) (hf : f ≠ .isTup) : CallR X (bfV f) (rBlt X.K f) := by
  cases f with
  | len => exact call_len
  | abs => exact call_abs
  | int => exact call_int1
  | tuple => exact call_tuple_of
  | list => exact CallR.or call_list_of (call_listRg hc)
  | max1 => exact CallR.or (cr_max hc) (call_maxT hc hu)
  | rg1 => exact call_range1
  | str1 => exact call_str_int
  | sorted => exact CallR.or cr_sortedI (CallR.or (call_sortedDI hc) (call_sortedDT hc hu))
  | sortset => exact fun _ _ _ _ _ _ _ _ _ h => h.elim
  | any => exact cr_any hc
  | all => exact cr_all hc
  | sum => exact cr_sum hc
  | max2 => exact call_max2 hc
  | min2 => exact call_min2 hc
  | isTup => exact absurd rfl hf
theorem bf_boot (f : BF) : bootBuiltins (bfName f) = some (bfV f) := by
  cases f <;> decide +kernel
theorem bf_name (f : BF) : bfName f ≠ "__name__" ∧ (bfName f == ("__debug__" : Str)) = false := by
  cases f <;> exact ⟨by decide +kernel, by decide +kernel⟩
theorem blt_imp {f : BF} {as : Cs} {r : List V → Hp → VK → Prop} (hm : m ≠ .t) (hss : f ≠ .sortset) (hr : ∀ vs H Q, rBlt X.K f vs H Q → r vs H Q) {σ : L2.St} {H : Hp} {Q : VK} (h : rdE g X.K W Γ m (.blt f as) σ H Q) : tCB r (rdEs g X.K W Γ .r as) σ H Q := by
  obtain ⟨F, ta, ca, env, tp, E, h⟩ := h
  unfold ev at h
  rw [fin_ne hm] at h
  refine ⟨F, ta, ca, env, tp, E, h.bind.mono fun ds t1 H1 e1 w1 h => fun vs rs => hr _ _ _ ?_⟩
  obtain ⟨z, hz, h⟩ := h.opt
  exact blt_ok w1 hz hss rs fun v H' e w r => h H' e w v (.of r)
theorem e_blt {f : BF} {as : Cs} {e : Expr} {es : List Expr} {p pos : Pos} (G : Gd X N sc k) (hm : m ≠ .t) (hf : f ≠ .isTup) (hss : f ≠ .sortset) (hg : glB sc (bfName f) = true) (hx : X.mg (bfName f) = none) (ha : PA X (e :: es) (rdEs g X.K W Γ .r as)) (hst : (e :: es).all (fun e => !starB e) = true) :
    PE X (.Call (.Name (bfName f) p) (e :: es) [] pos) (rdE g X.K W Γ m (.blt f as)) := by
  have hs : starB e = false := by
    rw [List.all_cons, Bool.and_eq_true, Bool.not_eq_true'] at hst
    exact hst.1
  have hr : es.all (fun e => !starB e) = true := by
    rw [List.all_cons, Bool.and_eq_true] at hst
    exact hst.2
  have hb := bf_boot f
  have ho := op_blt (X := X) f G.calm G.hu hf
  unfold bfV at hb ho
  cases q : bfTy f with
  | some T =>
    rw [q] at hb ho
    exact PE.imp (pe_callTy ho (gl_of G hg) hx hb ha (bf_name f).1 (bf_name f).2 (star_eq hs) (star_none hr)) fun σ H Q h => blt_imp hm hss (fun _ _ _ h => h) h
  | none =>
    rw [q] at hb ho
    exact PE.imp (pe_callB ho (gl_of G hg) hx hb ha (bf_name f).1 (bf_name f).2 (star_eq hs) (star_none hr)) fun σ H Q h => blt_imp hm hss (fun _ _ _ h => h) h
theorem e_isTup {a : C} {e : Expr} {p p2 pos : Pos} (G : Gd X N sc k) (hm : m ≠ .t) (hg : glB sc "isinstance" = true) (hx : X.mg "isinstance" = none) (hg2 : glB sc "tuple" = true) (hx2 : X.mg "tuple" = none) (ha : PE X e (rdE g X.K W Γ .r a)) (hs : starB e = false) :
    PE X (.Call (.Name "isinstance" p) [e, .Name "tuple" p2] [] pos) (rdE g X.K W Γ m (.blt .isTup (.cons a .nil))) := by
  have hT : PE X (.Name "tuple" p2) (tC (.ty "tuple")) := pe_bltn (u := .type "tuple") (gl_of G hg2) hx2 (by decide +kernel) rfl
  refine PE.imp (pe_callB call_isi (gl_of G hg) hx (by decide +kernel) (pa_cons ha (pa_cons hT pa_nil) (star_eq hs)) (by decide +kernel) (by decide +kernel) (star_eq hs) (by rfl)) fun σ H Q h => ?_
  obtain ⟨F, ta, ca, env, tp, E, h⟩ := h
  unfold ev evs evs at h
  rw [fin_ne hm] at h
  refine ⟨F, ta, ca, env, tp, E, h.bind.bind.mono fun d t1 H1 e1 w1 h => fun x rx => ?_⟩
  have h := HdG.now (HdG.bind h) w1
  have h := HdG.now h w1
  obtain ⟨z, hz, h⟩ := h.opt
  exact isTup_ok hz rx fun v r => h H1 (.refl _ _ _) w1 v (.of r)
end
end Q

set_option Elab.async false
set_option linter.all false
set_option maxRecDepth 100000
namespace Q
open PySem PySem.Spec L2
open PyProof.Rows hiding St
/-! ### calls of defs -/
def ArgOk (K : PySem.W.Frag) (F : Addr → Prop) (ta : Addr) (H : Hp) (v : V) : B → Prop
  | .val d => Rep K H F v d
  | .own ds => ∃ a xs, v = .ref a ∧ F a ∧ a ≠ ta ∧ H a = some (.lst xs) ∧ Reps K H F xs ds
  | .tape => v = .ref ta
  | _ => False
inductive ArgsOk (K : PySem.W.Frag) (F : Addr → Prop) (ta : Addr) (H : Hp) : List V → List B → Prop where
  | nil : ArgsOk K F ta H [] []
  | cons {v : V} {vs : List V} {b : B} {bs : List B} : ArgOk K F ta H v b → ArgsOk K F ta H vs bs → ArgsOk K F ta H (v :: vs) (b :: bs)
/-- what a def promises: what its value f is -/
def spD (g : G) (K : PySem.W.Frag) (n : Nat) (f : List B → Tp → Out D) : Sp := fun vs H Q E => ∃ F ta ca bs tp, vs.length = n ∧ World g F ta ca H tp ∧ ArgsOk K F ta H vs bs ∧ bs.all (fun b => !isOwn b) = true ∧
  (match f bs tp with
  | .ok d tp' => ∀ v H', Ext ta H H' → World g F ta ca H' tp' → Rep K H' F v d → Q v H'
  | .exc c tp' => ∀ H', Ext ta H H' → World g F ta ca H' tp' → E (g.cls c) none H'
  | .bad => False)
/-- the defs keep their promises -/
def FnsOk (g : G) (Γ : Sm) (X : Cx) (k : Nat) (names : List Str) : Prop :=
  ∀ (f : Nat) (x : Str), names[f]? = some x → ∃ (fa : Addr) (fd : FuncData) (ps : List Str), X.mg x = some (.ref fa) ∧ PySem.W.keepIn X.K (.ref fa) = true ∧ L2.Binds X.K fd ps [] ∧
    FnOk X.prog X.w X.K X.mg X.base (L2.CX X.prog X.w) k fa fd ps (spD g X.K ps.length (Γ.call f)) ∧ ∀ bs tp, bs.length ≠ ps.length → Γ.call f bs tp = .bad
section
variable {g : G} {K : PySem.W.Frag} {F F' : Addr → Prop} {ta ca : Addr} {H H' : Hp} {tp : Tp}
theorem ArgOk.step {v : V} {b : B} (t : ∀ a, F a → NT (H a)) (e : Ext ta H H') (h : ArgOk K F ta H v b) : ArgOk K F ta H' v b := by
  cases b with
  | val d => exact Rep.step t (e.mono fun _ z => z.elim) h
  | own ds =>
    obtain ⟨a, xs, h1, h2, h3, h4, h5⟩ := h
    exact ⟨a, xs, h1, h2, h3, e _ _ (fun z => z) h4 True.intro, h5.step t (e.mono fun _ z => z.elim)⟩
  | tape => exact h
  | un => exact h
  | owd kb k => exact h
theorem ArgsOk.step {vs : List V} {bs : List B} (t : ∀ a, F a → NT (H a)) (e : Ext ta H H') (h : ArgsOk K F ta H vs bs) : ArgsOk K F ta H' vs bs := by
  induction h with
  | nil => exact .nil
  | cons a _ ih => exact .cons (a.step t e) ih
theorem ArgsOk.plain {vs : List V} {bs : List B} (h : ArgsOk K F ta H vs bs) (n : bs.any isOwn = false) : ArgsOk K F ta H vs (bs.map unown) := by
  induction h with
  | nil => exact .nil
  | @cons v vs b bs a _ ih =>
    rw [List.any_cons, Bool.or_eq_false_iff] at n
    refine .cons ?_ (ih n.2)
    cases b with
    | val d => exact a
    | own ds => cases n.1
    | tape => exact a
    | un => exact a
    | owd kb k => exact a.elim
/-- the lists that are handed on are lent -/
theorem ArgsOk.lend {vs : List V} {bs : List B} (h : ArgsOk K F ta H vs bs) (hF : ∀ a, F' a → F a) (hV : ∀ a, V.ref a ∈ vs → a ≠ ta → ¬ F' a) : ArgsOk K F' ta H vs (bs.map unown) := by
  induction h with
  | nil => exact .nil
  | @cons v vs b bs a _ ih =>
    refine .cons ?_ (ih fun a h => hV a (List.mem_cons_of_mem _ h))
    cases b with
    | val d => exact Rep.mono hF a
    | own ds =>
      obtain ⟨l, xs, h1, h2, h3, h4, h5⟩ := a
      subst h1
      exact Rep.lst h4 (hV l (List.mem_cons_self ..) h3) (h5.mono hF)
    | tape => exact a
    | un => exact a
    | owd kb k => exact a.elim
theorem unown_all {bs : List B} : (bs.map unown).all (fun b => !isOwn b) = true := by
  induction bs with
  | nil => rfl
  | cons b bs ih =>
    rw [List.map_cons, List.all_cons, ih]
    cases b <;> rfl
end
section
variable {g : G} {W : WX} {Γ : Sm} {X : Cx} {N : List Str} {sc : Scope} {k : Nat} {m : M}
def rdG (g : G) (K : PySem.W.Frag) (W : WX) (Γ : Sm) (a : C) : TE := fun σ H Q => ∃ F ta ca env tp, EnvOk g K F ta ca H σ env tp ∧ HdG g W F ta ca H σ (match argB a env with
  | some b => Out.ok b tp
  | none => (ev Γ .v a env tp).bind fun x t => Out.ok (B.val x) t) fun b _ H' => ∀ v, ArgOk K F ta H' v b → Q v H'
def rdA (g : G) (K : PySem.W.Frag) (W : WX) (Γ : Sm) (as : Cs) : TA := fun σ H Q => ∃ F ta ca env tp, EnvOk g K F ta ca H σ env tp ∧ HdG g W F ta ca H σ (evA Γ as env tp) fun bs _ H' => ∀ vs, ArgsOk K F ta H' vs bs → Q vs H'
theorem g_var {i : Nat} {x : Str} {pos : Pos} (G : Gd X N sc k) (hi : N[i]? = some x) (hv : visB sc x = true) (hn : nameB x = true) : PE X (.Name x pos) (rdG g X.K W Γ (.var i)) := by
  unfold nameB at hn
  simp only [Bool.and_eq_true, Bool.not_eq_true'] at hn
  refine PE.imp (pe_var (by rw [G.hN]; exact hi) (vis_of G hv) hn.1.1 hn.1.2) fun σ H Q h => ?_
  obtain ⟨F, ta, ca, env, tp, E, h⟩ := h
  have av : argB (.var i) env = (match getB env i with
    | .tape => some B.tape
    | .own ds => some (B.own ds)
    | _ => none) := rfl
  rw [av] at h
  have s := E.slot i
  cases q : getB env i with
  | un =>
    rw [q] at h
    unfold ev at h
    rw [q] at h
    exact h.elim
  | val d =>
    rw [q] at h s
    unfold ev at h
    rw [q] at h
    obtain ⟨v, h1, h2⟩ := s
    exact ⟨v, h1, HdG.now (a := B.val d) h E.wd v h2⟩
  | own ds =>
    rw [q] at h s
    obtain ⟨a, vs, h1, h2, h3, h4, h5⟩ := s
    exact ⟨_, h1, HdG.now (a := B.own ds) h E.wd _ ⟨a, vs, rfl, h2, h3, h4, h5⟩⟩
  | owd kb kvs =>
    rw [q] at h
    unfold ev at h
    rw [q] at h
    exact h.elim
  | tape =>
    rw [q] at h s
    exact ⟨_, s, HdG.now (a := B.tape) h E.wd _ rfl⟩
theorem g_exp {a : C} {e : Expr} (hn : ∀ env, argB a env = none) (ha : PE X e (rdE g X.K W Γ .v a)) : PE X e (rdG g X.K W Γ a) := by
  refine PE.imp ha fun σ H Q h => ?_
  obtain ⟨F, ta, ca, env, tp, E, h⟩ := h
  rw [hn env] at h
  exact ⟨F, ta, ca, env, tp, E, h.bind.mono fun d t1 H1 e1 w1 h => fun v r => h.now w1 v r⟩
theorem a_nil : PA X [] (rdA g X.K W Γ .nil) := by
  refine PA.imp pa_nil fun σ H Q h => ?_
  obtain ⟨F, ta, ca, env, tp, E, h⟩ := h
  unfold evA at h
  exact h.now E.wd _ .nil
theorem a_cons {a : C} {as : Cs} {e : Expr} {es : List Expr} (ha : PE X e (rdG g X.K W Γ a)) (hs : PA X es (rdA g X.K W Γ as)) (hst : starB e = false) : PA X (e :: es) (rdA g X.K W Γ (.cons a as)) := by
  refine PA.imp (pa_cons ha hs (star_eq hst)) fun σ H Q h => ?_
  obtain ⟨F, ta, ca, env, tp, E, h⟩ := h
  unfold evA at h
  refine ⟨F, ta, ca, env, tp, E, h.bind.mono fun d t1 H1 e1 w1 h => fun x rx => ⟨F, ta, ca, env, t1, E.ext e1 w1, h.bind.mono fun ds t2 H2 e2 w2 h => fun vs rs => ?_⟩⟩
  exact h.now w2 _ (.cons (rx.step w1.nt e2) rs)
theorem ArgsOk.length {K : PySem.W.Frag} {F : Addr → Prop} {ta : Addr} {H : Hp} {vs : List V} {bs : List B} (h : ArgsOk K F ta H vs bs) : vs.length = bs.length := by
  induction h with
  | nil => rfl
  | cons _ _ ih => rw [List.length_cons, List.length_cons, ih]
theorem call_imp {f : Nat} {as : Cs} {n : Nat} {σ : L2.St} {H : Hp} {Q : VK} (hm : m ≠ .t) (har : ∀ bs tp, bs.length ≠ n → Γ.call f bs tp = .bad) (h : rdE g X.K W Γ m (.call f as) σ H Q) : tCallS (spD g X.K n (Γ.call f)) (WE W) (rdA g X.K W Γ as) σ H Q := by
  obtain ⟨F, ta, ca, env, tp, E, h⟩ := h
  unfold ev at h
  rw [fin_ne hm] at h
  refine ⟨F, ta, ca, env, tp, E, h.bind.mono fun bs t1 H1 e1 w1 h => fun vs rs => ?_⟩
  have hn : vs.length = n := by
    rw [rs.length]
    by_cases q : (bs.map unown).length = n
    · rw [← q, List.length_map]
    · rw [har _ t1 q] at h
      exact h.elim
  by_cases ho : bs.any isOwn = true
  · -- lists of one's own are lent
    let F' : Addr → Prop := fun a => F a ∧ (a = ta ∨ V.ref a ∉ vs)
    have w1' : World g F' ta ca H1 t1 := ⟨fun a z => w1.trk a z.1, ⟨w1.hta, .inl rfl⟩, w1.tape, fun z => w1.nca z.1, w1.cells, w1.tabs⟩
    refine ⟨F', ta, ca, bs.map unown, t1, hn, w1', rs.lend (fun a z => z.1) (fun a h1 h2 z => z.2.elim h2 fun q => q h1), unown_all, ?_⟩
    have back : ∀ {H' : Hp} {tp' : Tp}, Ext ta H1 H' → World g F' ta ca H' tp' → World g F ta ca H' tp' := fun {H' tp'} e w => ⟨fun a z => by
      by_cases ha : a = ta
      · subst ha
        rw [w.tape]
        exact True.intro
      · have := w1.trk a z
        cases q : H1 a with
        | none =>
          rw [q] at this
          exact this.elim
        | some o =>
          have f : Fix ta a o := by
            rw [q] at this
            unfold MutK at this
            split at this <;> try exact this.elim
            · rename_i e; cases e; exact True.intro
            · rename_i e; cases e; exact .inl ha
            · rename_i e; cases e; exact True.intro
            · rename_i e; cases e; exact True.intro
          rw [e a o (fun z => z) q f]
          rw [q] at this
          exact this, w1.hta, w.tape, w1.nca, w.cells, w.tabs⟩
    cases q : Γ.call f (bs.map unown) t1 with
    | ok d t2 =>
      rw [q] at h
      have h : HdG g W F ta ca H1 σ (match bs.any isOwn && !noLst d with | true => .bad | false => .ok d t2) _ := h
      rw [ho, Bool.true_and] at h
      cases hl : noLst d with
      | true =>
        rw [hl] at h
        exact fun v H' e w r => h H' e (back e w) v (.of (r.anyF hl))
      | false =>
        rw [hl] at h
        exact h.elim
    | exc c t2 =>
      rw [q] at h
      exact fun H' e w => h H' e (back e w)
    | bad =>
      rw [q] at h
      exact h.elim
  · have ho : bs.any isOwn = false := by simpa using ho
    refine ⟨F, ta, ca, bs.map unown, t1, hn, w1, rs.plain ho, unown_all, ?_⟩
    cases q : Γ.call f (bs.map unown) t1 with
    | ok d t2 =>
      rw [q] at h
      have h : HdG g W F ta ca H1 σ (match bs.any isOwn && !noLst d with | true => .bad | false => .ok d t2) _ := h
      rw [ho, Bool.false_and] at h
      exact fun v H' e w r => h H' e w v (.of r)
    | exc c t2 =>
      rw [q] at h
      exact h
    | bad =>
      rw [q] at h
      exact h
theorem e_call {names : List Str} {f : Nat} {x : Str} {as : Cs} {e : Expr} {es : List Expr} {p pos : Pos} (G : Gd X N sc k) (tk : Takes X W) (hm : m ≠ .t) (hF : FnsOk g Γ X k names) (hf : names[f]? = some x) (hg : glB sc x = true) (hn : nameB x = true)
    (ha : PA X (e :: es) (rdA g X.K W Γ as)) (hst : (e :: es).all (fun e => !starB e) = true) : PE X (.Call (.Name x p) (e :: es) [] pos) (rdE g X.K W Γ m (.call f as)) := by
  have hs : starB e = false := by
    rw [List.all_cons, Bool.and_eq_true, Bool.not_eq_true'] at hst
    exact hst.1
  have hr : es.all (fun e => !starB e) = true := by
    rw [List.all_cons, Bool.and_eq_true] at hst
    exact hst.2
  unfold nameB at hn
  simp only [Bool.and_eq_true, Bool.not_eq_true'] at hn
  obtain ⟨fa, fd, ps, h1, h2, h3, h4, h5⟩ := hF f x hf
  exact PE.imp (pe_callS h4 G.room (gl_of G hg) h1 h2 h3 (fun σ => passAt tk σ) ha hn.1.1 (star_eq hs) (star_none hr)) fun σ H Q h => call_imp hm h5 h
end
end Q

set_option Elab.async false
set_option linter.all false
set_option maxRecDepth 100000
namespace Q
open PySem PySem.Spec L2
open PyProof.Rows hiding St
section
variable {K : PySem.W.Frag} {H H' : Hp} {F F' : Addr → Prop} {ta ca : Addr}
mutual
theorem Rep.stepX (e : Ext ta H H') : ∀ {v : V} {d : D}, Rep K H F v d → Rep K H' F v d
  | _, _, .non => .non
  | _, _, .bl b => .bl b
  | _, _, .int i => .int i
  | _, _, .str x => .str x
  | _, _, .lst h n r => .lst (e _ _ (fun z => z) h True.intro) n (Reps.stepX e r)
  | _, _, .tup h r => .tup (SqT.step (fun _ z => z.elim) e h) (Reps.stepX e r)
  | _, _, .dcK h q r => .dcK (e _ _ (fun z => z) h True.intro) q (Reps.stepX e r)
  | _, _, .rng h => .rng (e _ _ (fun z => z) h True.intro)
  | _, _, .dcT h n z q r r' => .dcT (e _ _ (fun z => z) h True.intro) n z q (Reps.stepX e r) (Reps.stepX e r')
theorem Reps.stepX (e : Ext ta H H') : ∀ {v : List V} {d : List D}, Reps K H F v d → Reps K H' F v d
  | _, _, .nil => .nil
  | _, _, .cons r s => .cons (Rep.stepX e r) (Reps.stepX e s)
end
theorem notMut_lst {a : Addr} {xs : List V} (h : ¬ MutK (H a)) (e : H a = some (.lst xs)) : False := h (by rw [e]; exact True.intro)
mutual
theorem Rep.chN (h : ∀ a, F' a → F a ∨ ¬ MutK (H a)) : ∀ {v : V} {d : D}, Rep K H F v d → Rep K H F' v d
  | _, _, .non => .non
  | _, _, .bl b => .bl b
  | _, _, .int i => .int i
  | _, _, .str x => .str x
  | _, _, .lst e n r => .lst e (fun z => (h _ z).elim n fun q => notMut_lst q e) (Reps.chN h r)
  | _, _, .tup e r => .tup e (Reps.chN h r)
  | _, _, .dcK e q r => .dcK e q (Reps.chN h r)
  | _, _, .rng e => .rng e
  | _, _, .dcT e n z q r r' => .dcT e (fun z => (h _ z).elim n fun q => q (by rw [e]; exact mutTd)) z q (Reps.chN h r) (Reps.chN h r')
theorem Reps.chN (h : ∀ a, F' a → F a ∨ ¬ MutK (H a)) : ∀ {v : List V} {d : List D}, Reps K H F v d → Reps K H F' v d
  | _, _, .nil => .nil
  | _, _, .cons r s => .cons (Rep.chN h r) (Reps.chN h s)
end
theorem mut_none {p : Addr} (h : H p = none) : ¬ MutK (H p) := by
  rw [h]
  exact fun z => z
mutual
theorem Rep.step2 {F0 : Addr → Prop} (h0 : ∀ a, F0 a → F a) (t : ∀ a, F0 a → NT (H a)) (e : St8 F0 ta H H') : ∀ {v : V} {d : D}, Rep K H F v d → Rep K H' F v d
  | _, _, .non => .non
  | _, _, .bl b => .bl b
  | _, _, .int i => .int i
  | _, _, .str x => .str x
  | _, _, .lst h n r => .lst (e _ _ (fun z => n (h0 _ z)) h True.intro) n (Reps.step2 h0 t e r)
  | _, _, .tup h r => .tup (SqT.step t e h) (Reps.step2 h0 t e r)
  | _, _, .dcK h q r => .dcK (frz_keep t e h) q (Reps.step2 h0 t e r)
  | _, _, .rng h => .rng (rng_keep t e h)
  | _, _, .dcT h n z q r r' => .dcT (e _ _ (fun z => n (h0 _ z)) h True.intro) n z q (Reps.step2 h0 t e r) (Reps.step2 h0 t e r')
theorem Reps.step2 {F0 : Addr → Prop} (h0 : ∀ a, F0 a → F a) (t : ∀ a, F0 a → NT (H a)) (e : St8 F0 ta H H') : ∀ {v : List V} {d : List D}, Reps K H F v d → Reps K H' F v d
  | _, _, .nil => .nil
  | _, _, .cons r s => .cons (Rep.step2 h0 t e r) (Reps.step2 h0 t e s)
end
end
/-! ### what is walked -/
def fsOf (m : M) (F : Addr → Prop) : Addr → Prop := match m with
  | .v => F
  | _ => fun _ => False
def ItOk (g : G) (K : PySem.W.Frag) (m : M) (F : Addr → Prop) (ta ca : Addr) (H : Hp) (xs : List D) (J : It) : Prop :=
  ∃ (Gd : Hp → Prop) (Y : Nat → Hp → V → Hp → Prop), Walk J xs.length Gd Y ∧ (∀ H1, St8 (fsOf m F) ta H H1 → Gd H1) ∧
    ∀ (F' : Addr → Prop) i H1 x H2 tp1, (∀ a, F' a → F a ∨ ¬ MutK (H a)) → i < xs.length → St8 (fsOf m F) ta H H1 → World g F' ta ca H1 tp1 → Y i H1 x H2 → Ext ta H1 H2 ∧ World g F' ta ca H2 tp1 ∧ ∃ d, xs[i]? = some d ∧ Rep K H2 F' x d
section
variable {g : G} {W : WX} {Γ : Sm} {X : Cx} {N : List Str} {sc : Scope} {k : Nat} {m : M}
def rdI (g : G) (K : PySem.W.Frag) (W : WX) (Γ : Sm) (m : M) (kd : IK) (as : Cs) : TI := fun σ H R => ∃ F ta ca env tp, EnvOk g K F ta ca H σ env tp ∧ HdG g W F ta ca H σ ((evs Γ m as env tp).bind fun ds t1 => Out.opt (itemsOf kd ds) t1) fun xs _ H' => ∀ J, ItOk g K m F ta ca H' xs J → R J H'
theorem PI.imp {X : Cx} {tg e : Expr} {t t' : TI} (h : PI X tg e t) (f : ∀ σ H Q, t' σ H Q → t σ H Q) : PI X tg e t' := ⟨fun pins s σ H Q I q => h.run pins s σ H Q I (f σ H Q q)⟩
def iSeq (K : PySem.W.Frag) (tl : TE) : TI := fun σ H R => tl σ H fun x H1 => (∃ a, x = .ref a ∧ (((∃ xs, SqL K H1 a xs) ∧ R (Itl K a) H1) ∨ ((∃ xs, SqT K H1 a xs) ∧ R (Itt K a) H1))) ∨ ((∃ z, x = .str z ∧ R (Its z) H1) ∨ ∃ a n, x = .ref a ∧ H1 a = some (.rng 0 n) ∧ -(2 ^ 62) ≤ n ∧ n < 2 ^ 62 ∧ R (Itr 0 n.toNat) H1)
theorem pi_seq {tg l : Expr} {tl : TE} (hl : PE X l tl) : PI X tg l (iSeq X.K tl) := by
  refine ⟨fun pins s σ H R I h => ?_⟩
  refine thn (hl.run pins s σ H _ I h) fun v s1 ⟨x, H1, I1, r1, q1⟩ => ?_
  rcases q1 with ⟨a, e, q1⟩ | (⟨x, ex, q⟩ | ⟨a, n, ex, ha, b1, b2, q⟩)
  rotate_left
  · subst ex
    obtain ⟨t, rfl⟩ := r1
    cases ha : x.cps.all (· < 128)
    · exact wpAny_pyIter_wide ha (pi_one (tk := s1.toks) I1 _ (turn_str _ x t "str_iterator" (.inr rfl)) ⟨_, Heap.get?_push_size _ rfl, rfl, rfl⟩ q)
    · exact wpAny_pyIter_ascii ha (pi_one (tk := s1.toks) I1 _ (turn_str _ x t "str_ascii_iterator" (.inl rfl)) ⟨_, Heap.get?_push_size _ rfl, rfl, rfl⟩ q)
  · subst ex
    obtain rfl : v = Value.ref a := r1
    obtain ⟨t, u, w, ho⟩ := (show ObjOk X.prog X.w H1 s1.heap a (.rng 0 n) from I1.hok a _ ha)
    refine wpAny_pyIter_range (show IsRange s1.heap a 0 n 1 t u w from ho) (small_one (by omega) (by omega) b1 b2) (pi_one (tk := s1.toks) I1 _ (turn_range _ 0 n.toNat) ?_ q)
    have e1 : (0 : Int) + ((0 : Nat) : Int) * 1 = 0 := by simp
    have e2 : ((n.toNat : Nat) : Int) - ((0 : Nat) : Int) = Builtin.Range.rangeSize 0 n 1 := by rw [rangeSize_one]; split <;> omega
    show IsRangeIter _ _ ((0 : Int) + ((0 : Nat) : Int) * 1) (((n.toNat : Nat) : Int) - ((0 : Nat) : Int)) 1
    rw [e1, e2]
    exact Heap.get?_push_size _ rfl
  subst e
  cases r1
  rcases q1 with ⟨⟨xs, hq⟩, q⟩ | ⟨⟨xs, hq⟩, q⟩
  · obtain ⟨its, rv, p, hz⟩ := I1.list hq
    refine wpAny_pyIter_list p.isList ?_
    refine ⟨s1.heap.objs.size, [s1.heap.objs.size], _, _, H1, rfl, I1.kept (t' := s1.toks) fun b o e => Heap.get?_push_of_some _ e, turn_list a _, ⟨_, Heap.get?_push_size _ rfl, rfl, rfl⟩, fun b hb => ?_, q⟩
    have e : b = s1.heap.objs.size := by simpa using hb
    subst e
    exact I1.fpOk (Nat.le_refl _) (I1.hok.fresh (Nat.le_refl _))
  · obtain ⟨its, rv, p, hz⟩ := I1.tuple hq
    refine wpAny_pyIter_tuple (show s1.heap.IsTuple a its.toArray from p) ?_
    refine ⟨s1.heap.objs.size, [s1.heap.objs.size], _, _, H1, rfl, I1.kept (t' := s1.toks) fun b o e => Heap.get?_push_of_some _ e, turn_tuple a _, ⟨_, Heap.get?_push_size _ rfl, rfl, rfl⟩, fun b hb => ?_, q⟩
    have e : b = s1.heap.objs.size := by simpa using hb
    subst e
    exact I1.fpOk (Nat.le_refl _) (I1.hok.fresh (Nat.le_refl _))
section
variable {K : PySem.W.Frag} {F F' : Addr → Prop} {ta ca : Addr} {H H1 : Hp} {tp : Tp} {x y : V} {d e : D} {xs ds ys es : List D}
/-- a list or a tuple that is read: its items -/
theorem seq_inv (h : seqOf d = some xs) (r : RepM m K H F x d) : ∃ a vs, x = .ref a ∧ Reps K H F vs xs ∧ ((H a = some (.lst vs) ∧ (m = .v → ¬ F a)) ∨ SqT K H a vs) := by
  cases d with
  | list zs =>
    cases h
    cases m with
    | v => cases r with
      | lst h n s => exact ⟨_, _, rfl, s, .inl ⟨h, fun _ => n⟩⟩
    | r =>
      obtain ⟨a, vs, rfl, ha, sa⟩ := RepR.lst_inv r
      exact ⟨a, vs, rfl, sa, .inl ⟨ha, fun z => nomatch z⟩⟩
    | t =>
      obtain ⟨a, vs, rfl, ha, sa⟩ := RepR.lst_inv r
      exact ⟨a, vs, rfl, sa, .inl ⟨ha, fun z => nomatch z⟩⟩
  | tuple zs =>
    cases h
    obtain ⟨a, vs, rfl, ha, sa⟩ := (RepM.r r).tup_inv.tup_inv
    exact ⟨a, vs, rfl, sa, .inr ha⟩
  | _ => cases h
theorem SqT.st8 {a : Addr} {vs : List V} (t : ∀ a, F a → NT (H a)) (e : St8 (fsOf m F) ta H H1) (h : SqT K H a vs) : SqT K H1 a vs := by
  cases m with
  | v => exact SqT.step t e h
  | r => exact SqT.step (fun _ z => z.elim) e h
  | t => exact SqT.step (fun _ z => z.elim) e h
theorem lst_st8 {a : Addr} {vs : List V} (n : m = .v → ¬ F a) (e : St8 (fsOf m F) ta H H1) (h : H a = some (.lst vs)) : H1 a = some (.lst vs) := by
  cases m with
  | v => exact e _ _ (n rfl) h True.intro
  | r => exact e _ _ (fun z => z) h True.intro
  | t => exact e _ _ (fun z => z) h True.intro
theorem Reps.st8 {vs : List V} (w : ∀ a, F a → NT (H a)) (hF : ∀ a, F' a → F a ∨ ¬ MutK (H a)) (e : St8 (fsOf m F) ta H H1) (h : Reps K H F vs xs) : Reps K H1 F' vs xs := by
  have h1 : Reps K H (fun a => F a ∨ F' a) vs xs := h.chN fun a z => z.elim .inl (hF a)
  have h2 : Reps K H1 (fun a => F a ∨ F' a) vs xs := by
    refine h1.step2 (F0 := fsOf m F) (fun a z => .inl ?_) (fun a z => w a ?_) e
    · cases m with
      | v => exact z
      | r => exact z.elim
      | t => exact z.elim
    · cases m with
      | v => exact z
      | r => exact z.elim
      | t => exact z.elim
  exact h2.mono fun a z => .inr z
theorem it_list {a : Addr} {vs : List V} (w : World g F ta ca H tp) (ha : H a = some (.lst vs)) (n : m = .v → ¬ F a) (s : Reps K H F vs xs) : ItOk g K m F ta ca H xs (Itl K a) := by
  refine ⟨fun H => SqL K H a vs, YAt vs, by rw [← s.length]; exact walk_list, fun H1 e => SqL.ofL (lst_st8 n e ha), fun F' i H1 x H2 tp1 hF hi e w1 y => ?_⟩
  obtain ⟨rfl, hx⟩ := y
  obtain ⟨d, hd, r⟩ := (s.st8 w.nt hF e).getV hx
  exact ⟨.refl _ _ _, w1, d, hd, r⟩
theorem it_tup {a : Addr} {vs : List V} (w : World g F ta ca H tp) (ha : SqT K H a vs) (s : Reps K H F vs xs) : ItOk g K m F ta ca H xs (Itt K a) := by
  refine ⟨fun H => SqT K H a vs, YAt vs, by rw [← s.length]; exact walk_tup, fun H1 e => SqT.st8 w.nt e ha, fun F' i H1 x H2 tp1 hF hi e w1 y => ?_⟩
  obtain ⟨rfl, hx⟩ := y
  obtain ⟨d, hd, r⟩ := (s.st8 w.nt hF e).getV hx
  exact ⟨.refl _ _ _, w1, d, hd, r⟩
theorem rngGo_len (lo : Int) : ∀ n i, (rngGo lo i n).length = n
  | 0, _ => rfl
  | n + 1, i => by
    unfold rngGo
    rw [List.length_cons, rngGo_len lo n]
theorem rngGo_get (lo : Int) : ∀ n i j, j < n → (rngGo lo i n)[j]? = some (PyData.int (lo + ((i + j : Nat) : Int)))
  | 0, _, _, h => absurd h (Nat.not_lt_zero _)
  | n + 1, i, 0, _ => rfl
  | n + 1, i, j + 1, h => by
    unfold rngGo
    rw [List.getElem?_cons_succ, rngGo_get lo n (i + 1) j (Nat.lt_of_succ_lt_succ h)]
    rw [show i + 1 + j = i + (j + 1) by omega]
theorem it_range {lo : Int} {n : Nat} : ItOk g K m F ta ca H (rngGo lo 0 n) (Itr lo n) := by
  refine ⟨fun _ => True, _, by rw [rngGo_len]; exact walk_range, fun _ _ => True.intro, fun F' i H1 x H2 tp1 hF hi e w1 y => ?_⟩
  obtain ⟨rfl, rfl⟩ := y
  rw [rngGo_len] at hi
  refine ⟨.refl _ _ _, w1, _, rngGo_get lo n 0 i hi, ?_⟩
  rw [Nat.zero_add]
  exact .int _
theorem enumGo_len : ∀ (xs : List D) i, (enumGo i xs).length = xs.length
  | [], _ => rfl
  | x :: xs, i => by
    unfold enumGo
    rw [List.length_cons, List.length_cons, enumGo_len xs]
theorem enumGo_get : ∀ (xs : List D) (i j : Nat) (d : D), xs[j]? = some d → (enumGo i xs)[j]? = some (PyData.tuple [.int ((i + j : Nat) : Int), d])
  | [], _, _, _, h => by simp at h
  | x :: xs, i, 0, d, h => by
    have e : x = d := Option.some.inj h
    subst e
    rfl
  | x :: xs, i, j + 1, d, h => by
    unfold enumGo
    rw [List.getElem?_cons_succ, enumGo_get xs (i + 1) j d h]
    rw [show i + 1 + j = i + (j + 1) by omega]
theorem zipGo_len : ∀ (xs ys : List D), (zipGo xs ys).length = min xs.length ys.length
  | [], ys => by simp [zipGo]
  | x :: xs, [] => by simp [zipGo]
  | x :: xs, y :: ys => by
    unfold zipGo
    rw [List.length_cons, zipGo_len xs ys, List.length_cons, List.length_cons]
    omega
theorem zipGo_get : ∀ (xs ys : List D) (j : Nat) (d e : D), xs[j]? = some d → ys[j]? = some e → (zipGo xs ys)[j]? = some (PyData.tuple [d, e])
  | [], _, _, _, _, h, _ => by simp at h
  | x :: xs, [], _, _, _, _, h => by simp at h
  | x :: xs, y :: ys, 0, d, e, h, h2 => by
    have e1 : x = d := Option.some.inj h
    have e2 : y = e := Option.some.inj h2
    subst e1 e2
    rfl
  | x :: xs, y :: ys, j + 1, d, e, h, h2 => by
    unfold zipGo
    exact zipGo_get xs ys j d e h h2
/-- a new pair is yielded -/
theorem pair_new {T : Addr} {vx vy : V} (w1 : World g F' ta ca H1 tp) (hT : H1 T = none) (rx : Rep K H1 F' vx d) (ry : Rep K H1 F' vy e) : Ext ta H1 (upd H1 T (.tup [vx, vy])) ∧ World g F' ta ca (upd H1 T (.tup [vx, vy])) tp ∧ Rep K (upd H1 T (.tup [vx, vy])) F' (.ref T) (.tuple [d, e]) :=
  ⟨Ext.new hT, w1.new hT, new_tup w1 (.cons rx (.cons ry .nil)) hT⟩
theorem it_enum {a : Addr} {vs : List V} (w : World g F ta ca H tp) (ha : H a = some (.lst vs)) (n : m = .v → ¬ F a) (s : Reps K H F vs xs) : ItOk g K m F ta ca H (enumGo 0 xs) (Ite K a) := by
  refine ⟨fun H => SqL K H a vs, _, by rw [enumGo_len, ← s.length]; exact walk_enum, fun H1 e => SqL.ofL (lst_st8 n e ha), fun F' i H1 x H2 tp1 hF hi e w1 y => ?_⟩
  obtain ⟨T, vx, vy, rfl, hT, rfl, h1, h2⟩ := y
  have h1 : V.int (i : Nat) = vx := Option.some.inj h1
  subst h1
  obtain ⟨d, hd, r⟩ := (s.st8 w.nt hF e).getV h2
  obtain ⟨p1, p2, p3⟩ := pair_new w1 hT (.int _) r
  refine ⟨p1, p2, _, enumGo_get xs 0 i d hd, ?_⟩
  rw [Nat.zero_add]
  exact p3
theorem it_zip {a b : Addr} {vs us : List V} (w : World g F ta ca H tp) (ha : H a = some (.lst vs)) (n : m = .v → ¬ F a) (s : Reps K H F vs xs) (hb : H b = some (.lst us)) (n2 : m = .v → ¬ F b) (s2 : Reps K H F us ys) : ItOk g K m F ta ca H (zipGo xs ys) (Itz K a b) := by
  refine ⟨fun H => SqL K H a vs ∧ SqL K H b us, _, walk_zip (by rw [zipGo_len, ← s.length, ← s2.length]), fun H1 e => ⟨SqL.ofL (lst_st8 n e ha), SqL.ofL (lst_st8 n2 e hb)⟩, fun F' i H1 x H2 tp1 hF hi e w1 y => ?_⟩
  obtain ⟨T, vx, vy, rfl, hT, rfl, h1, h2⟩ := y
  obtain ⟨d, hd, r⟩ := (s.st8 w.nt hF e).getV h1
  obtain ⟨d2, hd2, r2⟩ := (s2.st8 w.nt hF e).getV h2
  obtain ⟨p1, p2, p3⟩ := pair_new w1 hT r r2
  exact ⟨p1, p2, _, zipGo_get xs ys i d d2 hd hd2, p3⟩
end
/-! #### the rules -/
theorem evs_one {a : C} {env : QE} {tp : Tp} : evs Γ m (.cons a .nil) env tp = (ev Γ m a env tp).bind fun x t => .ok [x] t := by
  unfold evs evs
  rfl
theorem bind_assoc' {α β γ : Type} (o : Out α) (f : α → Tp → Out β) (h : β → Tp → Out γ) : (o.bind f).bind h = o.bind fun a t => (f a t).bind h := by
  cases o <;> rfl
theorem it_str {K : PySem.W.Frag} {F : Addr → Prop} {ta ca : Addr} {H : Hp} {z : Str} : ItOk g K m F ta ca H (z.cps.toList.map fun c => PyData.str ⟨#[c]⟩) (Its z) := by
  refine ⟨fun _ => True, _, by rw [List.length_map, Array.length_toList]; exact walk_str, fun _ _ => True.intro, fun F' i H1 x H2 tp1 hF hi e w1 y => ?_⟩
  obtain ⟨rfl, c, hc, rfl⟩ := y
  refine ⟨.refl _ _ _, w1, _, by rw [List.getElem?_map, Array.getElem?_toList, hc]; rfl, .str _⟩
theorem i_seq {a : C} {tg e : Expr} (ha : PE X e (rdE g X.K W Γ m a)) : PI X tg e (rdI g X.K W Γ m .seq (.cons a .nil)) := by
  refine PI.imp (pi_seq ha) fun σ H R h => ?_
  obtain ⟨F, ta, ca, env, tp, E, h⟩ := h
  rw [evs_one, bind_assoc'] at h
  refine ⟨F, ta, ca, env, tp, E, h.bind.mono fun d t1 H1 e1 w1 h => fun x rx => ?_⟩
  by_cases hs : ∃ z, d = .str z
  · obtain ⟨z, rfl⟩ := hs
    obtain ⟨xs, hx, h⟩ := HdG.opt (o := grd (big z.length) (z.cps.toList.map fun c => PyData.str ⟨#[c]⟩)) h
    obtain ⟨_, rfl⟩ := grd_some hx
    exact .inr (.inl ⟨z, RepR.str_inv (RepM.r rx), h H1 (.refl _ _ _) w1 _ it_str⟩)
  by_cases hg : ∃ n, d = .dict [(.none, .int n)]
  · obtain ⟨n, rfl⟩ := hg
    obtain ⟨xs, hx, h⟩ := HdG.opt (o := grd (sm62 n && big n.toNat) (rngGo 0 0 n.toNat)) h
    obtain ⟨hb, rfl⟩ := grd_some hx
    obtain ⟨a, rfl, ha⟩ := RepR.rg_inv (RepM.r rx)
    have s62 := sm62_ok (band hb).1
    exact .inr (.inr ⟨a, n, rfl, ha, s62.2.2.1, s62.2.2.2, h H1 (.refl _ _ _) w1 _ it_range⟩)
  have e1d : seq1D [d] = seqOf d := by
    unfold seq1D
    split
    · rename_i e
      exact absurd ⟨_, (List.cons.inj e).1⟩ hs
    · rename_i e
      exact absurd ⟨_, (List.cons.inj e).1⟩ hg
    · rename_i e
      rw [(List.cons.inj e).1]
    · rename_i h1 h2 h3
      exact absurd rfl (h3 d)
  have h : HdG g W F ta ca H1 σ (Out.opt (seq1D [d]) t1) _ := h
  rw [e1d] at h
  obtain ⟨xs, hx, h⟩ := HdG.opt (o := seqOf d) h
  have h := h H1 (.refl _ _ _) w1
  obtain ⟨l, vs, rfl, s, hl⟩ := seq_inv hx rx
  rcases hl with ⟨hl, hn⟩ | hl
  · exact .inl ⟨l, rfl, .inl ⟨⟨vs, SqL.ofL hl⟩, h _ (it_list w1 hl hn s)⟩⟩
  · exact .inl ⟨l, rfl, .inr ⟨⟨vs, hl⟩, h _ (it_tup w1 hl s)⟩⟩
theorem RepMs.one {K : PySem.W.Frag} {H : Hp} {F : Addr → Prop} {vs : List V} {d : D} (r : RepMs m K H F vs [d]) : ∃ x, vs = [x] ∧ RepM m K H F x d := by
  cases m with
  | v => cases r with
    | cons a b => cases b; exact ⟨_, rfl, a⟩
  | r => cases r with
    | cons a b => cases b; exact ⟨_, rfl, a⟩
  | t => cases r with
    | cons a b => cases b; exact ⟨_, rfl, a⟩
theorem RepMs.two {K : PySem.W.Frag} {H : Hp} {F : Addr → Prop} {vs : List V} {d e : D} (r : RepMs m K H F vs [d, e]) : ∃ x y, vs = [x, y] ∧ RepM m K H F x d ∧ RepM m K H F y e := by
  cases m with
  | v => cases r with
    | cons a b => cases b with
      | cons c d => cases d; exact ⟨_, _, rfl, a, c⟩
  | r => cases r with
    | cons a b => cases b with
      | cons c d => cases d; exact ⟨_, _, rfl, a, c⟩
  | t => cases r with
    | cons a b => cases b with
      | cons c d => cases d; exact ⟨_, _, rfl, a, c⟩
theorem RepM.int_inv {K : PySem.W.Frag} {H : Hp} {F : Addr → Prop} {x : V} {i : Int} (r : RepM m K H F x (.int i)) : x = .int i := RepR.int_inv r.r
theorem i_rng1 {as : Cs} {tg e : Expr} {p pos : Pos} (G : Gd X N sc k) (hg : glB sc "range" = true) (hx : X.mg "range" = none) (ha : PA X [e] (rdEs g X.K W Γ m as)) (hs : starB e = false) : PI X tg (.Call (.Name "range" p) [e] [] pos) (rdI g X.K W Γ m .rng1 as) := by
  refine PI.imp (pi_range1 (gl_of G hg) hx ha (star_eq hs)) fun σ H R h => ?_
  obtain ⟨F, ta, ca, env, tp, E, h⟩ := h
  refine ⟨F, ta, ca, env, tp, E, h.bind.mono fun ds t1 H1 e1 w1 h => fun vs rs => ?_⟩
  obtain ⟨xs, hx, h⟩ := HdG.opt h
  have h := h H1 (.refl _ _ _) w1
  have hx : rng1D ds = some xs := hx
  unfold rng1D at hx
  split at hx
  · obtain ⟨hb, rfl⟩ := grd_some hx
    obtain ⟨x, rfl, r⟩ := rs.one
    cases r.int_inv
    have s := sm62_ok (band hb).1
    exact ⟨_, rfl, s.2.2.1, s.2.2.2, h _ it_range⟩
  · cases hx
theorem i_rng2 {as : Cs} {tg e e2 : Expr} {p pos : Pos} (G : Gd X N sc k) (hg : glB sc "range" = true) (hx : X.mg "range" = none) (ha : PA X [e, e2] (rdEs g X.K W Γ m as)) (hs : starB e = false) (hs2 : starB e2 = false) : PI X tg (.Call (.Name "range" p) [e, e2] [] pos) (rdI g X.K W Γ m .rng2 as) := by
  refine PI.imp (pi_range2 (gl_of G hg) hx ha (by rw [star_eq hs, star_eq hs2]; rfl) (star_eq hs2)) fun σ H R h => ?_
  obtain ⟨F, ta, ca, env, tp, E, h⟩ := h
  refine ⟨F, ta, ca, env, tp, E, h.bind.mono fun ds t1 H1 e1 w1 h => fun vs rs => ?_⟩
  obtain ⟨xs, hx, h⟩ := HdG.opt h
  have h := h H1 (.refl _ _ _) w1
  have hx : rng2D ds = some xs := hx
  unfold rng2D at hx
  split at hx
  · obtain ⟨hb, rfl⟩ := grd_some hx
    obtain ⟨x, y, rfl, r, r2⟩ := rs.two
    cases r.int_inv
    cases r2.int_inv
    have s := sm62_ok (band (band hb).1).1
    have s2 := sm62_ok (band (band hb).1).2
    exact ⟨_, _, rfl, ⟨s.2.2.1, s.2.2.2, s2.2.2.1, s2.2.2.2⟩, h _ it_range⟩
  · cases hx
end
end Q

set_option Elab.async false
set_option linter.all false
set_option maxRecDepth 100000
namespace Q
open PySem PySem.Spec L2
open PyProof.Rows hiding St
/-! ### targets -/
def Fz (X : Cx) (fz : Str → Bool) : Prop := ∀ x, fz x = true → X.fn x = true
def stB (sc : Scope) (fz : Str → Bool) (x : Str) : Bool := match sc.names.lookup x with
  | some .local => true
  | some .cell => fz x
  | _ => false
section
variable {g : G} {K : PySem.W.Frag} {F F' : Addr → Prop} {ta ca : Addr} {H H' : Hp} {σ : St} {env env' : QE} {tp tp' : Tp}
theorem EnvOk.set {i : Nat} {v : V} {d : D} (E : EnvOk g K F ta ca H σ env tp) (r : Rep K H F v d) : EnvOk g K F ta ca H (σ.set i (some v)) (env.set i (.val d)) tp := by
  refine ⟨by rw [List.length_set, List.length_set]; exact E.len, E.wd, fun j => ?_, fun a b l ha hb h1 h2 => ?_⟩
  · by_cases hj : i = j
    · subst hj
      by_cases hl : i < env.length
      · rw [getB_set_same hl]
        exact ⟨v, List.getElem?_set_self (by rw [← E.len]; exact hl), r⟩
      · rw [getB_set_out hl, getB_out hl]
        trivial
    · rw [getB_set_ne hj]
      have s := E.slot j
      cases q : getB env j with
      | un => trivial
      | val d2 =>
        rw [q] at s
        obtain ⟨w, h1, h2⟩ := s
        exact ⟨w, by rw [List.getElem?_set_ne hj]; exact h1, h2⟩
      | own ds =>
        rw [q] at s
        obtain ⟨a, vs, h1, h2⟩ := s
        exact ⟨a, vs, by rw [List.getElem?_set_ne hj]; exact h1, h2⟩
      | owd kb k =>
        rw [q] at s
        obtain ⟨a, h1, h2⟩ := s
        exact ⟨a, by rw [List.getElem?_set_ne hj]; exact h1, h2⟩
      | tape =>
        rw [q] at s
        show (σ.set i (some v))[j]? = _
        rw [List.getElem?_set_ne hj]
        exact s
  · have ne : ∀ {c}, isOwn (getB (env.set i (.val d)) c) = true → i ≠ c ∧ isOwn (getB env c) = true := fun {c} h => by
      by_cases hc : i = c
      · subst hc
        by_cases hl : i < env.length
        · rw [getB_set_same hl] at h
          cases h
        · rw [getB_set_out hl, getB_out hl] at h
          cases h
      · rw [getB_set_ne hc] at h
        exact ⟨hc, h⟩
    obtain ⟨n1, o1⟩ := ne ha
    obtain ⟨n2, o2⟩ := ne hb
    rw [List.getElem?_set_ne n1] at h1
    rw [List.getElem?_set_ne n2] at h2
    exact E.uniq a b l o1 o2 h1 h2
theorem EnvOk.unset {i : Nat} (E : EnvOk g K F ta ca H σ env tp) : EnvOk g K F ta ca H (σ.set i none) (env.set i .un) tp := by
  refine ⟨by rw [List.length_set, List.length_set]; exact E.len, E.wd, fun j => ?_, fun a b l ha hb h1 h2 => ?_⟩
  · by_cases hj : i = j
    · subst hj
      by_cases hl : i < env.length
      · rw [getB_set_same hl]
        trivial
      · rw [getB_set_out hl, getB_out hl]
        trivial
    · rw [getB_set_ne hj]
      have s := E.slot j
      cases q : getB env j with
      | un => trivial
      | val d2 =>
        rw [q] at s
        obtain ⟨w, h1, h2⟩ := s
        exact ⟨w, by rw [List.getElem?_set_ne hj]; exact h1, h2⟩
      | own ds =>
        rw [q] at s
        obtain ⟨a, vs, h1, h2⟩ := s
        exact ⟨a, vs, by rw [List.getElem?_set_ne hj]; exact h1, h2⟩
      | owd kb k =>
        rw [q] at s
        obtain ⟨a, h1, h2⟩ := s
        exact ⟨a, by rw [List.getElem?_set_ne hj]; exact h1, h2⟩
      | tape =>
        rw [q] at s
        show (σ.set i none)[j]? = _
        rw [List.getElem?_set_ne hj]
        exact s
  · have ne : ∀ {c}, isOwn (getB (env.set i .un) c) = true → i ≠ c ∧ isOwn (getB env c) = true := fun {c} h => by
      by_cases hc : i = c
      · subst hc
        by_cases hl : i < env.length
        · rw [getB_set_same hl] at h
          cases h
        · rw [getB_set_out hl, getB_out hl] at h
          cases h
      · rw [getB_set_ne hc] at h
        exact ⟨hc, h⟩
    obtain ⟨n1, o1⟩ := ne ha
    obtain ⟨n2, o2⟩ := ne hb
    rw [List.getElem?_set_ne n1] at h1
    rw [List.getElem?_set_ne n2] at h2
    exact E.uniq a b l o1 o2 h1 h2
theorem EnvOk.wipe (E : EnvOk g K F ta ca H σ env tp) : ∀ vs : List Nat, EnvOk g K F ta ca H (L2.wipe σ vs) (wipeB env vs) tp
  | [] => E
  | v :: vs => (EnvOk.wipe E vs).unset
end
/-! slots of a target -/
mutual
def tgIn (ow : List Nat) : Tg → Bool
  | .nm i => ow.contains i
  | .tp ts => tgsIn ow ts
def tgsIn (ow : List Nat) : Tgs → Bool
  | .nil => true
  | .cons t ts => tgIn ow t && tgsIn ow ts
end
theorem wipe_get (σ : St) (vs : List Nat) (j : Nat) : (L2.wipe σ vs)[j]? = if j ∈ vs ∧ j < σ.length then some none else σ[j]? := by
  induction vs with
  | nil => simp [L2.wipe]
  | cons v vs ih =>
    unfold L2.wipe
    by_cases h : v = j
    · subst h
      by_cases hl : v < σ.length
      · rw [List.getElem?_set_self (by rw [wipe_length]; exact hl)]
        simp [hl]
      · rw [List.set_eq_of_length_le (by rw [wipe_length]; omega), ih]
        simp [hl]
    · rw [List.getElem?_set_ne h, ih]
      have : (j ∈ v :: vs) ↔ j ∈ vs := by simp [Ne.symm h]
      simp only [this]
/-- two states alike outside ow -/
def Alk (ow : List Nat) (σ σ1 : St) : Prop := σ1.length = σ.length ∧ ∀ j, j ∉ ow → σ1[j]? = σ[j]?
theorem Alk.refl (ow : List Nat) (σ : St) : Alk ow σ σ := ⟨rfl, fun _ _ => rfl⟩
theorem Alk.trans {ow : List Nat} {σ σ1 σ2 : St} (a : Alk ow σ σ1) (b : Alk ow σ1 σ2) : Alk ow σ σ2 := ⟨b.1.trans a.1, fun j h => (b.2 j h).trans (a.2 j h)⟩
theorem Alk.set {ow : List Nat} {σ : St} {i : Nat} {v : Option V} (h : i ∈ ow) : Alk ow σ (σ.set i v) := ⟨List.length_set, fun j hj => List.getElem?_set_ne fun z => hj (by rw [← z]; exact h)⟩
theorem Alk.wipe {ow : List Nat} {σ σ1 : St} (a : Alk ow (L2.wipe σ ow) σ1) : L2.wipe σ1 ow = L2.wipe σ ow := by
  refine List.ext_getElem? fun j => ?_
  have hl : σ1.length = σ.length := by rw [a.1, wipe_length]
  rw [wipe_get, wipe_get, hl]
  by_cases h : j ∈ ow
  · by_cases h2 : j < σ.length
    · simp [h, h2]
    · simp only [h, h2, and_false, if_false]
      rw [List.getElem?_eq_none (by omega), List.getElem?_eq_none (by omega)]
  · simp only [h, false_and, if_false]
    rw [a.2 j h, wipe_get]
    simp [h]
section
variable {g : G} {W : WX} {Γ : Sm} {X : Cx} {N : List Str} {sc : Scope} {k : Nat} {fz : Str → Bool}
/-- lists of one's own stay where they are -/
def Kp (env : QE) (σ : St) (env1 : QE) (σ1 : St) : Prop := ∀ i, isOwn (getB env1 i) = true → isOwn (getB env i) = true ∧ σ1[i]? = σ[i]?
theorem Kp.refl (env : QE) (σ : St) : Kp env σ env σ := fun _ h => ⟨h, rfl⟩
theorem Kp.trans {env env1 env2 : QE} {σ σ1 σ2 : St} (a : Kp env σ env1 σ1) (b : Kp env1 σ1 env2 σ2) : Kp env σ env2 σ2 := fun i h => ⟨(a i (b i h).1).1, (b i h).2.trans (a i (b i h).1).2⟩
theorem Kp.set {env : QE} {σ : St} {i : Nat} {d : D} {v : Option V} : Kp env σ (env.set i (.val d)) (σ.set i v) := fun j h => by
  by_cases hc : i = j
  · subst hc
    by_cases hl : i < env.length
    · rw [getB_set_same hl] at h
      cases h
    · rw [getB_set_out hl, getB_out hl] at h
      cases h
  · rw [getB_set_ne hc] at h
    exact ⟨h, List.getElem?_set_ne hc⟩
/-- what is bound -/
def tgS (g : G) (K : PySem.W.Frag) (ow : List Nat) (t : Tg) : TG := fun v σ H Q => ∃ F ta ca env tp d env1, EnvOk g K F ta ca H σ env tp ∧ Rep K H F v d ∧ bindT t d env = some env1 ∧ ∀ σ1, Alk ow σ σ1 → Kp env σ env1 σ1 → EnvOk g K F ta ca H σ1 env1 tp → Q σ1 H
def tgsS (g : G) (K : PySem.W.Frag) (ow : List Nat) (t : Tgs) : TGs := fun v σ H Q => ∃ F ta ca env tp ds env1, EnvOk g K F ta ca H σ env tp ∧ Reps K H F v ds ∧ bindTs t ds env = some env1 ∧ ∀ σ1, Alk ow σ σ1 → Kp env σ env1 σ1 → EnvOk g K F ta ca H σ1 env1 tp → Q σ1 H
theorem PG.imp {e : Expr} {t t' : TG} (h : PG X e t) (f : ∀ v σ H Q, t' v σ H Q → t v σ H Q) : PG X e t' := ⟨fun pins s σ H v u Q I r q => h.run pins s σ H v u Q I r (f v σ H Q q)⟩
theorem PGs.imp {e : List Expr} {t t' : TGs} (h : PGs X e t) (f : ∀ v σ H Q, t' v σ H Q → t v σ H Q) : PGs X e t' := ⟨fun pins s σ H v u Q I r q => h.run pins s σ H v u Q I r (f v σ H Q q)⟩
theorem sto_of {x : Str} (G : Gd X N sc k) (fF : Fz X fz) (h : stB sc fz x = true) : Loc X.env.scope x ∧ (X.fn x = true ∨ X.env.scope.names.lookup x = some .local) := by
  rw [G.sc]
  unfold stB at h
  split at h
  · exact ⟨.inl (by assumption), .inr (by assumption)⟩
  · exact ⟨.inr (by assumption), .inl (fF _ h)⟩
  · cases h
theorem g_nm {ow : List Nat} {i : Nat} {x : Str} {pos : Pos} (G : Gd X N sc k) (fF : Fz X fz) (hi : N[i]? = some x) (hs : stB sc fz x = true) (ho : ow.contains i = true) : PG X (.Name x pos) (tgS g X.K ow (.nm i)) := by
  obtain ⟨h1, h2⟩ := sto_of G fF hs
  refine PG.imp (pg_name (by rw [G.hN]; exact G.nd) (by rw [G.hN]; exact hi) h1 h2) fun v σ H Q h => ?_
  obtain ⟨F, ta, ca, env, tp, d, env1, E, r, hb, h⟩ := h
  have e : env.set i (.val d) = env1 := Option.some.inj hb
  subst e
  exact h _ (Alk.set (by simpa using ho)) Kp.set (E.set r)
theorem gs_nil {ow : List Nat} : PGs X [] (tgsS g X.K ow .nil) := by
  refine PGs.imp pgs_nil fun v σ H Q h => ?_
  obtain ⟨F, ta, ca, env, tp, ds, env1, E, r, hb, h⟩ := h
  cases r with
  | nil =>
    have e : env = env1 := Option.some.inj hb
    subst e
    exact ⟨rfl, h _ (.refl _ _) (.refl _ _) E⟩
  | cons a b => cases hb
def noStar : Expr → Bool
  | .Starred _ _ => false
  | _ => true
theorem each_star {e : Expr} {es : List Expr} {env : Env} (h : noStar e = true) : assignEach (e :: es) env = (false, assign e env) :: assignEach es env := by
  cases e <;> first | rfl | cases h
theorem gs_cons {ow : List Nat} {t : Tg} {ts : Tgs} {e : Expr} {es : List Expr} (h1 : PG X e (tgS g X.K ow t)) (h2 : PGs X es (tgsS g X.K ow ts)) (hs : noStar e = true) : PGs X (e :: es) (tgsS g X.K ow (.cons t ts)) := by
  refine PGs.imp (pgs_cons h1 h2 (by rw [each_star hs]; rfl)) fun v σ H Q h => ?_
  obtain ⟨F, ta, ca, env, tp, ds, env1, E, r, hb, h⟩ := h
  cases r with
  | nil => cases hb
  | cons a b =>
    rename_i v vs d ds
    have hb : (bindT t d env).bind (fun e => bindTs ts ds e) = some env1 := hb
    obtain ⟨env2, h3, h4⟩ := Option.bind_eq_some_iff.mp hb
    exact ⟨v, vs, rfl, F, ta, ca, env, tp, d, env2, E, a, h3, fun σ1 A1 B1 E1 => ⟨F, ta, ca, env2, tp, ds, env1, E1, b, h4, fun σ2 A2 B2 E2 => h σ2 (A1.trans A2) (B1.trans B2) E2⟩⟩
theorem each_len {es : List Expr} {env : Env} (h : es.all noStar = true) : (assignEach es env).length = es.length ∧ (assignEach es env).findIdx? (·.1) = none := by
  induction es with
  | nil => exact ⟨rfl, rfl⟩
  | cons e es ih =>
    rw [List.all_cons, Bool.and_eq_true] at h
    rw [each_star h.1]
    obtain ⟨h1, h2⟩ := ih h.2
    refine ⟨by rw [List.length_cons, List.length_cons, h1], ?_⟩
    rw [List.findIdx?_cons]
    simp [h2]
def tgsN : Tgs → Nat
  | .nil => 0
  | .cons _ ts => tgsN ts + 1
theorem bindTs_n : ∀ {ts : Tgs} {ds : List D} {env env1 : QE}, bindTs ts ds env = some env1 → ds.length = tgsN ts
  | .nil, [], _, _, _ => rfl
  | .nil, _ :: _, _, _, h => nomatch h
  | .cons _ _, [], _, _, h => nomatch h
  | .cons t ts, d :: ds, env, env1, h => by
    have hb : (bindT t d env).bind (fun e => bindTs ts ds e) = some env1 := h
    obtain ⟨env2, h3, h4⟩ := Option.bind_eq_some_iff.mp hb
    rw [List.length_cons, bindTs_n h4]
    rfl
theorem g_tp {ow : List Nat} {ts : Tgs} {es : List Expr} {j : Nat} {pos : Pos} (G : Gd X N sc k) (h : PGs X es (tgsS g X.K ow ts)) (hs : es.all noStar = true) (hn : es.length = tgsN ts) : PG X (.Tuple es j pos) (tgS g X.K ow (.tp ts)) := by
  refine PG.imp (pg_tup (n := es.length) G.calm h (each_len hs).1 (each_len hs).2) fun v σ H Q h => ?_
  obtain ⟨F, ta, ca, env, tp, d, env1, E, r, hb, h⟩ := h
  cases d with
  | tuple ds =>
    have hb : bindTs ts ds env = some env1 := hb
    cases r with
    | tup hq rs => exact ⟨_, _, rfl, hq, by rw [rs.length, hn]; exact bindTs_n hb, F, ta, ca, env, tp, ds, env1, E, rs, hb, h⟩
  | _ => cases hb
/-! the check of targets -/
mutual
def chkG (N : List Str) (sc : Scope) (fz : Str → Bool) (ow : List Nat) : Tg → Expr → Bool
  | .nm i, .Name x _ => decide (N[i]? = some x) && stB sc fz x && ow.contains i
  | .tp ts, .Tuple es _ _ => chkGs N sc fz ow ts es && es.all noStar && Nat.beq es.length (tgsN ts)
  | _, _ => false
def chkGs (N : List Str) (sc : Scope) (fz : Str → Bool) (ow : List Nat) : Tgs → List Expr → Bool
  | .nil, [] => true
  | .cons t ts, e :: es => chkG N sc fz ow t e && chkGs N sc fz ow ts es
  | _, _ => false
end
theorem and2 {a b : Bool} (h : (a && b) = true) : a = true ∧ b = true := by simpa using h
mutual
theorem chkG_ok (G : Gd X N sc k) (fF : Fz X fz) {ow : List Nat} : ∀ {t : Tg} {e : Expr}, chkG N sc fz ow t e = true → PG X e (tgS g X.K ow t)
  | .nm i, e, h => by
    cases e with
    | Name x pos =>
      obtain ⟨h, h3⟩ := and2 (a := decide (N[i]? = some x) && stB sc fz x) h
      obtain ⟨h1, h2⟩ := and2 h
      exact g_nm G fF (of_decide_eq_true h1) h2 h3
    | _ => cases h
  | .tp ts, e, h => by
    cases e with
    | Tuple es j pos =>
      obtain ⟨h, h3⟩ := and2 (a := chkGs N sc fz ow ts es && es.all noStar) h
      obtain ⟨h1, h2⟩ := and2 h
      exact g_tp G (chkGs_ok G fF h1) h2 (Nat.eq_of_beq_eq_true h3)
    | _ => cases h
theorem chkGs_ok (G : Gd X N sc k) (fF : Fz X fz) {ow : List Nat} : ∀ {t : Tgs} {e : List Expr}, chkGs N sc fz ow t e = true → PGs X e (tgsS g X.K ow t)
  | .nil, e, h => by
    cases e with
    | nil => exact gs_nil
    | cons => cases h
  | .cons t ts, e, h => by
    cases e with
    | nil => cases h
    | cons e es =>
      obtain ⟨h1, h2⟩ := and2 (a := chkG N sc fz ow t e) (b := chkGs N sc fz ow ts es) h
      refine gs_cons (chkG_ok G fF h1) (chkGs_ok G fF h2) ?_
      cases e <;> first | rfl | (cases t <;> cases h1)
end
end
end Q

set_option Elab.async false
set_option linter.all false
set_option maxRecDepth 100000
namespace Q
open PySem PySem.Spec L2
open PyProof.Rows hiding St
/-! ### lists made new -/
section
variable {g : G} {K : PySem.W.Frag} {F F' : Addr → Prop} {ta ca : Addr} {H H' : Hp} {σ : St} {env env' : QE} {tp tp' : Tp}
theorem SlotOk.grow {i : Nat} {b : B} (hF : ∀ a, F a → F' a) (hn : ∀ a, F' a → F a ∨ ¬ MutK (H a)) (e : Ext ta H H') (h : SlotOk K F ta H σ i b) : SlotOk K F' ta H' σ i b := by
  cases b with
  | un => trivial
  | val d =>
    obtain ⟨v, h1, h2⟩ := h
    exact ⟨v, h1, (h2.chN hn).stepX e⟩
  | own ds =>
    obtain ⟨a, vs, h1, h2, h3, h4, h5⟩ := h
    exact ⟨a, vs, h1, hF a h2, h3, e _ _ (fun z => z) h4 True.intro, (h5.chN hn).stepX e⟩
  | owd kb k =>
    obtain ⟨a, h1, h2, h3, h4⟩ := h
    refine ⟨a, h1, hF a h2, h3, ?_⟩
    cases h4 with
    | k e1 n q r => exact .k (e _ _ (fun z => z) e1 (.inl h3)) n q ((r.chN hn).stepX e)
    | t e1 z q r r' => exact .t (e _ _ (fun z => z) e1 True.intro) z q ((r.chN hn).stepX e) ((r'.chN hn).stepX e)
  | tape => exact h
theorem EnvOk.grow (E : EnvOk g K F ta ca H σ env tp) (hF : ∀ a, F a → F' a) (hn : ∀ a, F' a → F a ∨ ¬ MutK (H a)) (e : Ext ta H H') (w : World g F' ta ca H' tp') : EnvOk g K F' ta ca H' σ env tp' :=
  ⟨E.len, w, fun i => (E.slot i).grow hF hn e, E.uniq⟩
/-- fresh behind some steps is fresh at their start -/
theorem mut_back {p : Addr} (w : World g F ta ca H' tp) (e : Ext ta H H') (h : H' p = none) : ¬ MutK (H p) := fun z => by
  have hp : p ≠ ta := fun q => by
    rw [q, w.tape] at h
    cases h
  cases q : H p with
  | none =>
    rw [q] at z
    exact z
  | some o =>
    have f : Fix ta p o := by
      rw [q] at z
      unfold MutK at z
      split at z <;> try exact z.elim
      · rename_i e; cases e; exact True.intro
      · rename_i e; cases e; exact .inl hp
      · rename_i e; cases e; exact True.intro
      · rename_i e; cases e; exact True.intro
    rw [e p o (fun z => z) q f] at h
    cases h
theorem mut_back2 {p : Addr} (w : World g F ta ca H' tp) (w0 : F ta) (e : Ext ta H H') (h : ¬ MutK (H' p)) : ¬ MutK (H p) := fun z => by
  have hp : p ≠ ta := fun q => by
    rw [q, w.tape] at h
    exact h True.intro
  cases q : H p with
  | none =>
    rw [q] at z
    exact z
  | some o =>
    have f : Fix ta p o := by
      rw [q] at z
      unfold MutK at z
      split at z <;> try exact z.elim
      · rename_i e; cases e; exact True.intro
      · rename_i e; cases e; exact .inl hp
      · rename_i e; cases e; exact True.intro
      · rename_i e; cases e; exact True.intro
    rw [e p o (fun z => z) q f] at h
    rw [q] at z
    exact h z
theorem World.sub (w : World g F' ta ca H tp) (h : ∀ a, F a → F' a) (ht : F ta) : World g F ta ca H tp :=
  ⟨fun a z => w.trk a (h a z), ht, w.tape, fun z => w.nca (h _ z), w.cells, w.tabs⟩
/-- a list of F written -/
theorem World.write (w : World g F ta ca H tp) {p : Addr} {o : HO} (h : F p) (hp : p ≠ ta) (m : MutK (some o)) : World g F ta ca (upd H p o) tp := by
  have n : ∀ b, b ≠ p → upd H p o b = H b := fun b u => upd_ne u
  refine ⟨fun a z => ?_, w.hta, ?_, w.nca, ?_, g.TS (ta := ta) w.hta w.trk (fun b u hb e _ => ?_) w.tabs⟩
  · by_cases q : a = p
    · subst q
      rw [upd_same]
      exact m
    · rw [n a q]
      exact w.trk a z
  · rw [n ta (Ne.symm hp)]
    exact w.tape
  · rw [n ca fun q => w.nca (by rw [q]; exact h)]
    exact w.cells
  · rw [n b fun q => hb (by rw [q]; exact h)]
    exact e
/-- F with one more -/
def ins (F : Addr → Prop) (p : Addr) : Addr → Prop := fun a => F a ∨ a = p
theorem World.insW (w : World g F ta ca H tp) {p : Addr} (m : MutK (H p)) (hc : p ≠ ca) : World g (ins F p) ta ca H tp :=
  ⟨fun a z => z.elim (w.trk a) fun q => by rw [q]; exact m, .inl w.hta, w.tape, fun z => z.elim w.nca fun q => hc q.symm, w.cells, w.tabs⟩
end
section
variable {g : G} {W : WX} {Γ : Sm} {X : Cx} {N : List Str} {sc : Scope} {k : Nat} {m : M} {fz : Str → Bool}
/-- a list that is made new -/
def rdF (g : G) (K : PySem.W.Frag) (W : WX) (Γ : Sm) (c : C) : TE := fun σ H Q => ∃ F ta ca env tp, EnvOk g K F ta ca H σ env tp ∧ HdG g W F ta ca H σ (ev Γ .v c env tp) fun d _ H' => ∀ a vs ds, d = .list ds → ¬ MutK (H a) → H' a = some (.lst vs) → Reps K H' (ins F a) vs ds → Q (.ref a) H'
theorem rdF_of {K : PySem.W.Frag} {c : C} {σ : L2.St} {H : Hp} {Q : VK} (hm : ∀ env tp, ev Γ m c env tp = ev Γ .v c env tp) (h : rdE g K W Γ m c σ H Q) : rdF g K W Γ c σ H Q := by
  obtain ⟨F, ta, ca, env, tp, E, h⟩ := h
  rw [hm] at h
  refine ⟨F, ta, ca, env, tp, E, h.mono fun d t1 H1 e1 w1 h => fun a vs ds hd hn ha rs => ?_⟩
  subst hd
  exact h _ (.of (Rep.lst ha (fun z => hn (E.wd.trk a z)) (rs.mono fun x z => .inl z)))
/-- conditions -/
def rdC (g : G) (K : PySem.W.Frag) (W : WX) (Γ : Sm) (cs : Cs) : TT := fun σ H Q => ∃ F ta ca env tp, EnvOk g K F ta ca H σ env tp ∧ HdG g W F ta ca H σ (evC Γ cs env tp) fun b _ H' => Q b H'
theorem c_nil : PTs X [] (rdC g X.K W Γ .nil) := ⟨fun pins s σ H Q I h => pts_nil.run pins s σ H Q I (by
  obtain ⟨F, ta, ca, env, tp, E, h⟩ := h
  unfold evC at h
  exact h.now E.wd)⟩
theorem c_one {c : C} {e : Expr} (hc : PT X e (rdT g X.K W Γ c)) : PTs X [e] (rdC g X.K W Γ (.cons c .nil)) := ⟨fun pins s σ H Q I h => (pts_one hc).run pins s σ H Q I (by
  obtain ⟨F, ta, ca, env, tp, E, h⟩ := h
  unfold evC at h
  refine ⟨F, ta, ca, env, tp, E, h.bind.mono fun d t1 H1 e1 w1 h => fun b hb => ?_⟩
  subst hb
  exact h.now w1)⟩
def W0 : WX := fun _ _ _ _ => False
theorem lcGo_ok {f : D → Tp → Out (Option D)} {d : D} {rest acc r : List D} {tp t3 : Tp} (h : lcGo f (d :: rest) acc tp = .ok r t3) : ∃ o tp1, f d tp = .ok o tp1 ∧ lcGo f rest (match o with | some y => acc ++ [y] | none => acc) tp1 = .ok r t3 := by
  unfold lcGo at h
  cases q : f d tp with
  | ok o tp1 =>
    rw [q] at h
    refine ⟨o, tp1, rfl, ?_⟩
    cases o with
    | none => exact h
    | some y => exact h
  | exc c t =>
    rw [q] at h
    cases h
  | bad =>
    rw [q] at h
    cases h
theorem lcGo_exc {f : D → Tp → Out (Option D)} (hf : ∀ d tp c t, f d tp ≠ .exc c t) : ∀ {xs acc : List D} {tp : Tp} {c : Nat} {t : Tp}, lcGo f xs acc tp ≠ .exc c t
  | [], _, _, _, _ => fun h => nomatch h
  | x :: xs, acc, tp, c, t => fun h => by
    unfold lcGo at h
    cases q : f x tp with
    | ok o tp1 =>
      rw [q] at h
      cases o with
      | none => exact lcGo_exc hf h
      | some y => exact lcGo_exc hf h
    | exc c t => exact hf _ _ _ _ q
    | bad =>
      rw [q] at h
      cases h
theorem nox_exc {α : Type} {o : Out α} {c : Nat} {t : Tp} : o.nox ≠ .exc c t := by
  cases o <;> exact fun h => nomatch h
theorem nox_ok {α : Type} {o : Out α} {a : α} {t : Tp} (h : o.nox = .ok a t) : o = .ok a t := by
  cases o with
  | ok b u => exact h
  | exc c u => cases h
  | bad => cases h
theorem bind_okE {α β : Type} {o : Out α} {f : α → Tp → Out β} {b : β} {t : Tp} (h : o.bind f = .ok b t) : ∃ a u, o = .ok a u ∧ f a u = .ok b t := by
  cases o with
  | ok a u => exact ⟨a, u, rfl, h⟩
  | exc c u => cases h
  | bad => cases h
def lcF (Γ : Sm) (t : Tg) (cs : Cs) (e : C) (env : QE) : D → Tp → Out (Option D) := fun x tp => match bindT t x env with
  | none => .bad
  | some env1 => ((evC Γ cs env1 tp).bind fun b tp2 => match b with
    | true => (ev Γ .v e env1 tp2).bind fun d tp3 => .ok (some d) tp3
    | false => .ok none tp2).nox
theorem lcF_exc {t : Tg} {cs : Cs} {e : C} {env : QE} {d : D} {tp : Tp} {c : Nat} {u : Tp} : lcF Γ t cs e env d tp ≠ .exc c u := by
  unfold lcF
  cases bindT t d env with
  | none => exact fun h => nomatch h
  | some e => exact nox_exc
theorem lc_loop {t : Tg} {cs : Cs} {e : C} {ow : List Nat} {F : Addr → Prop} {ta ca : Addr} {env : QE} {H1 : Hp} {σ : L2.St} {xs : List D} {t2 : Tp} {J : It} {D : Addr} {Q : VK} {R : List PyData → Tp → Hp → Prop} (hx : xs.length ≤ 16777216)
    (E : EnvOk g X.K F ta ca H1 σ env t2) (hJ : ItOk g X.K m F ta ca H1 xs J) (hD : H1 D = none)
    (h : HdG g W F ta ca H1 σ (lcGo (lcF Γ t cs e (wipeB env ow)) xs [] t2) R)
    (hR : ∀ r t3 H' vs, Ext ta H1 H' → World g F ta ca H' t3 → R r t3 H' → H' D = some (.lst vs) → Reps X.K H' (ins F D) vs r → Q (.ref D) H') :
    ∃ W : Nat → Nat → Hp → Prop, (∃ m, W 0 m (upd H1 D (.lst []))) ∧ ∀ i m H, W i m H →
      (J.stop i H ∧ Q (.ref D) H) ∨ (J.go i H ∧ ∃ Nx : Hp → Prop, (∀ H', Nx H' → ∃ m', m' < m ∧ W (i + 1) m' H') ∧ ∀ x H', J.yld i H x H' → tgS g X.K ow t x (L2.wipe σ ow) H' fun σ2 H2 => L2.wipe σ2 ow = L2.wipe σ ow ∧ rdC g X.K W0 Γ cs σ2 H2 fun b H3 =>
        if b = true then rdE g X.K W0 Γ .v e σ2 H3 fun y H4 => ∃ acc, H4 D = some (.lst acc) ∧ acc.length < sizeLine ∧ Nx (upd H4 D (.lst (acc ++ [y]))) else Nx H3) := by
  have w := E.wd
  have hta : ta ≠ D := fun q => by
    have := w.tape
    rw [q, hD] at this
    cases this
  have hca : D ≠ ca := fun q => by
    have := w.cells
    rw [← q, hD] at this
    cases this
  have hsz : sizeLine = 16777216 := rfl
  cases hr : lcGo (lcF Γ t cs e (wipeB env ow)) xs [] t2 with
  | exc c u => exact absurd hr (lcGo_exc fun _ _ _ _ => lcF_exc)
  | bad =>
    rw [hr] at h
    exact h.elim
  | ok r t3 =>
    rw [hr] at h
    obtain ⟨Gd, Y, wk, hG, hY⟩ := hJ
    let F' := ins F D
    have hF' : ∀ a, F' a → F a ∨ ¬ MutK (H1 a) := fun a z => z.elim .inl fun q => .inr (by rw [q]; exact mut_none hD)
    refine lc_it wk (fun i H => ∃ acc tpi vs, Ext ta H1 H ∧ World g F' ta ca H tpi ∧ H D = some (.lst vs) ∧ Reps X.K H F' vs acc ∧ vs.length ≤ i ∧ lcGo (lcF Γ t cs e (wipeB env ow)) (xs.drop i) acc tpi = .ok r t3) ?_ ?_ ?_ ?_
    · have e1 : Ext ta H1 (upd H1 D (.lst [])) := Ext.new hD
      exact ⟨[], t2, [], e1, (w.new hD).insW (by rw [upd_same]; exact True.intro) hca, upd_same, .nil, Nat.zero_le _, hr⟩
    · rintro i H _ ⟨acc, tpi, vs, e1, _⟩
      exact hG H (e1.mono fun _ z => z.elim)
    · rintro i x H H' hi ⟨acc, tpi, vs, e1, w1, hDv, rs, hl, hg⟩ y
      obtain ⟨e2, w2, d, hd, rx⟩ := hY F' i H x H' tpi hF' hi (e1.mono fun _ z => z.elim) w1 y
      have hdr : xs.drop i = d :: xs.drop (i + 1) := by
        have hlt : i < xs.length := hi
        rw [List.drop_eq_getElem_cons hlt]
        rw [List.getElem?_eq_getElem hlt] at hd
        rw [Option.some.inj hd]
      rw [hdr] at hg
      obtain ⟨o, tp1, hf, hg⟩ := lcGo_ok hg
      unfold lcF at hf
      cases hb : bindT t d (wipeB env ow) with
      | none =>
        rw [hb] at hf
        cases hf
      | some env1 =>
        rw [hb] at hf
        have hf := nox_ok hf
        obtain ⟨b, tp2, hc, hf⟩ := bind_okE hf
        have e02 : Ext ta H1 H' := e1.trans e2
        have E2 : EnvOk g X.K F' ta ca H' (L2.wipe σ ow) (wipeB env ow) tpi := ((E.grow (fun a z => .inl z) hF' e02 w2)).wipe ow
        refine ⟨F', ta, ca, _, tpi, d, env1, E2, rx, hb, fun σ1 A1 _ E3 => ⟨A1.wipe, F', ta, ca, env1, tpi, E3, ?_⟩⟩
        rw [hc]
        intro H3 e3 w3
        cases b with
        | false =>
          have hf : Out.ok none tp2 = Out.ok o tp1 := hf
          cases hf
          rw [if_neg Bool.false_ne_true]
          refine ⟨acc, _, vs, (e02.trans e3), w3, (e2.trans e3) _ _ (fun z => z) hDv True.intro, rs.stepX (e2.trans e3), Nat.le_succ_of_le hl, hg⟩
        | true =>
          have hf : ((ev Γ .v e env1 tp2).bind fun d tp3 => Out.ok (some d) tp3) = Out.ok o tp1 := hf
          obtain ⟨y1, tp3, he, hf⟩ := bind_okE hf
          cases hf
          rw [if_pos rfl]
          refine ⟨F', ta, ca, env1, tp2, E3.ext e3 w3, ?_⟩
          rw [he]
          intro H4 e4 w4 v rv
          have rv : Rep X.K H4 F' v y1 := rv
          have e24 : Ext ta H' H4 := e3.trans e4
          have hD4 : H4 D = some (.lst vs) := (e2.trans e24) _ _ (fun z => z) hDv True.intro
          have s4 : St8 F' ta H4 (upd H4 D (.lst (vs ++ [v]))) := St8.own (.inr rfl)
          refine ⟨vs, hD4, by rw [hsz]; have hi : i < xs.length := hi; omega, acc ++ [y1], _, vs ++ [v], ?_, w4.write (o := .lst (vs ++ [v])) (.inr rfl) (Ne.symm hta) True.intro, upd_same, ?_, ?_, hg⟩
          · intro b o hb hbo hfx
            have hbD : b ≠ D := fun q => by rw [q, hD] at hbo; cases hbo
            rw [upd_ne hbD]
            exact (e02.trans e24) b o hb hbo hfx
          · exact ((rs.stepX (e2.trans e24)).append (.cons rv .nil)).step w4.nt s4
          · rw [List.length_append]
            exact Nat.succ_le_succ hl
    · rintro H ⟨acc, tpi, vs, e1, w1, hDv, rs, hl, hg⟩
      rw [List.drop_length] at hg
      unfold lcGo at hg
      cases hg
      exact hR _ _ H vs e1 (w1.sub (fun a z => .inl z) w.hta) (h H e1 (w1.sub (fun a z => .inl z) w.hta)) hDv rs
theorem lc_imp {t : Tg} {kd : IK} {as cs : Cs} {e : C} {ow : List Nat} {σ : L2.St} {H : Hp} {Q : VK} (h : rdF g X.K W Γ (.lc e t kd as cs ow) σ H Q) : tLc (rdI g X.K W Γ kd.md kd as) (tgS g X.K ow t) (rdC g X.K W0 Γ cs) (rdE g X.K W0 Γ .v e) ow σ H Q := by
  obtain ⟨F, ta, ca, env, tp, E, h⟩ := h
  unfold ev at h
  rw [fin_v, ← bind_assoc'] at h
  refine ⟨F, ta, ca, env, tp, E, h.bind.mono fun xs t1 H1 e1 w1 h => fun J hJ D hD => ?_⟩
  cases hb : big xs.length with
  | false =>
    rw [hb] at h
    exact h.elim
  | true =>
    rw [hb] at h
    have h : HdG g W F ta ca H1 σ ((lcGo (lcF Γ t cs e (wipeB env ow)) xs [] t1).bind fun r t3 => Out.ok (PyData.list r) t3) (fun d _ H' => ∀ a vs ds, d = PyData.list ds → ¬ MutK (H a) → H' a = some (.lst vs) → Reps X.K H' (ins F a) vs ds → Q (.ref a) H') := h
    refine lc_loop (big_le hb) (E.ext e1 w1) hJ hD h.bind fun r t3 H' vs e2 w2 h hDv rs => ?_
    exact h.now w2 D vs r rfl (mut_back w1 e1 hD) hDv rs
theorem e_lcF {t : Tg} {kd : IK} {as cs : Cs} {e : C} {own : List (Str × Nat)} {elt tg iter : Expr} {ifs : List Expr} {scope : Scope} {pos : Pos} (G : Gd X N sc k) (hi : PI X tg iter (rdI g X.K W Γ kd.md kd as)) (ok : BlkOk N sc scope own)
    (hg : ∀ (s : Shared) (H : Hp) (C : Addr) (cl : List (Str × Addr)) (fp : List Addr), PG (X.blk s H scope (compEnvC scope cl C X.env) fp) tg (tgS g X.K (own.map (·.2)) t))
    (ht : ∀ (s : Shared) (H : Hp) (C : Addr) (cl : List (Str × Addr)) (fp : List Addr), PTs (X.blk s H scope (compEnvC scope cl C X.env) fp) ifs (rdC g X.K W0 Γ cs))
    (he : ∀ (s : Shared) (H : Hp) (C : Addr) (cl : List (Str × Addr)) (fp : List Addr), PE (X.blk s H scope (compEnvC scope cl C X.env) fp) elt (rdE g X.K W0 Γ .v e)) (hs : ∀ x, foldedSetIterable iter X.env x = pure x) :
    PE X (.ListComp elt [⟨tg, iter, ifs, 0⟩] scope pos) (rdF g X.K W Γ (.lc e t kd as cs (own.map (·.2)))) := by
  exact PE.imp (pe_lc G.calm (by rw [G.hN]; exact G.nd) hi (by rw [G.hN, G.sc]; exact ok) hg ht he hs) fun σ H Q h => lc_imp h
/-! two clauses -/
/-- a list of one's own grows: what the slots hold stays -/
theorem EnvOk.grown {K : PySem.W.Frag} {F : Addr → Prop} {ta ca D : Addr} {H H' : Hp} {σ : L2.St} {env : QE} {tp tp' : Tp} (E : EnvOk g K F ta ca H σ env tp) (hD : F D) (hta : ta ≠ D) (ho : ∀ l a, isOwn (getB env l) = true → σ[l]? = some (some (.ref a)) → a ≠ D) (e : St8 (fun a => a = D) ta H H') (w : World g F ta ca H' tp') : EnvOk g K F ta ca H' σ env tp' := by
  have eF : St8 F ta H H' := e.mono fun a z => by rw [z]; exact hD
  refine ⟨E.len, w, fun i => ?_, E.uniq⟩
  have sl := E.slot i
  cases q : getB env i with
  | un => trivial
  | val d =>
    rw [q] at sl
    obtain ⟨v, h1, h2⟩ := sl
    exact ⟨v, h1, h2.step E.wd.nt eF⟩
  | own ds =>
    rw [q] at sl
    obtain ⟨a, vs, h1, h2, h3, h4, h5⟩ := sl
    exact ⟨a, vs, h1, h2, h3, e _ _ (ho i a (by rw [q]; rfl) h1) h4 True.intro, h5.step E.wd.nt eF⟩
  | owd kb k =>
    rw [q] at sl
    obtain ⟨a, h1, h2, h3, h4⟩ := sl
    have hn : ¬ a = D := ho i a (by rw [q]; rfl) h1
    refine ⟨a, h1, h2, h3, ?_⟩
    cases h4 with
    | k e1 n q r => exact .k (e _ _ hn e1 (.inl h3)) n q (r.step E.wd.nt eF)
    | t e1 z q r r' => exact .t (e _ _ hn e1 True.intro) z q (r.step E.wd.nt eF) (r'.step E.wd.nt eF)
  | tape =>
    rw [q] at sl
    exact sl
def lc2F (Γ : Sm) (t : Tg) (cs : Cs) (k1 : IK) (as1 : Cs) (t1 : Tg) (cs1 : Cs) (e : C) (ow1 : List Nat) (env : QE) : D → List D → Tp → Out (List D) := fun x acc tp => match bindT t x env with
  | none => .bad
  | some env1 => ((evC Γ cs env1 tp).bind fun b tp2 => match b with
    | true => (evs Γ .v as1 env1 tp2).bind fun ds1 tp3 => (Out.opt (itemsOf k1 ds1) tp3).bind fun ys tp4 => match big (acc.length + ys.length) with
      | true => lcGo (lcF Γ t1 cs1 e (wipeB env1 ow1)) ys acc tp4
      | false => .bad
    | false => .ok acc tp2).nox
theorem lc2F_exc {t : Tg} {cs : Cs} {k1 : IK} {as1 : Cs} {t1 : Tg} {cs1 : Cs} {e : C} {ow1 : List Nat} {env : QE} {d : D} {acc : List D} {tp : Tp} {c : Nat} {u : Tp} : lc2F Γ t cs k1 as1 t1 cs1 e ow1 env d acc tp ≠ .exc c u := by
  unfold lc2F
  cases bindT t d env with
  | none => exact fun h => nomatch h
  | some e => exact nox_exc
theorem lcGo2_ok {f : D → List D → Tp → Out (List D)} {d : D} {rest acc r : List D} {tp t3 : Tp} (h : lcGo2 f (d :: rest) acc tp = .ok r t3) : ∃ acc1 tp1, f d acc tp = .ok acc1 tp1 ∧ lcGo2 f rest acc1 tp1 = .ok r t3 := by
  unfold lcGo2 at h
  obtain ⟨a, u, h1, h2⟩ := bind_okE h
  exact ⟨a, u, h1, h2⟩
theorem lcGo2_exc {f : D → List D → Tp → Out (List D)} (hf : ∀ d acc tp c t, f d acc tp ≠ .exc c t) : ∀ {xs acc : List D} {tp : Tp} {c : Nat} {t : Tp}, lcGo2 f xs acc tp ≠ .exc c t
  | [], _, _, _, _ => fun h => nomatch h
  | x :: xs, acc, tp, c, t => fun h => by
    unfold lcGo2 at h
    cases q : f x acc tp with
    | ok o tp1 =>
      rw [q] at h
      exact lcGo2_exc hf h
    | exc c t => exact hf _ _ _ _ _ q
    | bad =>
      rw [q] at h
      cases h
theorem St8.push {ta D : Addr} {H H' : Hp} {o : HO} (e : St8 (fun a => a = D) ta H H') : St8 (fun a => a = D) ta H (upd H' D o) := fun b u hb hu hf => by
  rw [upd_ne hb]
  exact e b u hb hu hf
theorem St8.extD {ta D : Addr} {H0 H H' : Hp} (e1 : Ext ta H0 H) (e : St8 (fun a => a = D) ta H H') (hD : H0 D = none) : Ext ta H0 H' := fun b u hb hu hf =>
  e b u (fun q => by rw [q, hD] at hu; cases hu) (e1 b u hb hu hf) hf
theorem lc2_loop {t t1 : Tg} {cs cs1 as1 : Cs} {k1 : IK} {e : C} {ow ow1 : List Nat} {F : Addr → Prop} {ta ca : Addr} {env : QE} {H1 : Hp} {σ : L2.St} {xs : List D} {t2 : Tp} {J : It} {D : Addr} {Q : VK} {R : List PyData → Tp → Hp → Prop}
    (E : EnvOk g X.K F ta ca H1 σ env t2) (hJ : ItOk g X.K m F ta ca H1 xs J) (hD : H1 D = none)
    (h : HdG g W F ta ca H1 σ (lcGo2 (lc2F Γ t cs k1 as1 t1 cs1 e ow1 (wipeB env ow)) xs [] t2) R)
    (hR : ∀ r t3 H' vs, Ext ta H1 H' → World g F ta ca H' t3 → R r t3 H' → H' D = some (.lst vs) → Reps X.K H' (ins F D) vs r → Q (.ref D) H') :
    ∃ W : Nat → Nat → Hp → Prop, (∃ m, W 0 m (upd H1 D (.lst []))) ∧ ∀ i m H, W i m H →
      (J.stop i H ∧ Q (.ref D) H) ∨ (J.go i H ∧ ∃ Nx : Hp → Prop, (∀ H', Nx H' → ∃ m', m' < m ∧ W (i + 1) m' H') ∧ ∀ x H', J.yld i H x H' → tgS g X.K ow t x (L2.wipe σ ow) H' fun σ2 H2 => L2.wipe σ2 ow = L2.wipe σ ow ∧ rdC g X.K W0 Γ cs σ2 H2 fun b H3 =>
        if b = true then rdI g X.K W0 Γ .v k1 as1 σ2 H3 fun J1 H4 => ∃ W1 : Nat → Nat → Hp → Prop, (∃ m, W1 0 m H4) ∧ ∀ j k H, W1 j k H →
          (J1.stop j H ∧ Nx H) ∨ (J1.go j H ∧ ∃ Nx1 : Hp → Prop, (∀ H', Nx1 H' → ∃ k', k' < k ∧ W1 (j + 1) k' H') ∧ ∀ x H', J1.yld j H x H' → tgS g X.K ow1 t1 x (L2.wipe σ2 ow1) H' fun σ3 H5 => L2.wipe σ3 ow1 = L2.wipe σ2 ow1 ∧ rdC g X.K W0 Γ cs1 σ3 H5 fun b H6 =>
            if b = true then rdE g X.K W0 Γ .v e σ3 H6 fun y H7 => ∃ acc, H7 D = some (.lst acc) ∧ acc.length < sizeLine ∧ Nx1 (upd H7 D (.lst (acc ++ [y]))) else Nx1 H6)
        else Nx H3) := by
  have w := E.wd
  have hta : ta ≠ D := fun q => by
    have := w.tape
    rw [q, hD] at this
    cases this
  have hca : D ≠ ca := fun q => by
    have := w.cells
    rw [← q, hD] at this
    cases this
  have hsz : sizeLine = 16777216 := rfl
  cases hr : lcGo2 (lc2F Γ t cs k1 as1 t1 cs1 e ow1 (wipeB env ow)) xs [] t2 with
  | exc c u => exact absurd hr (lcGo2_exc fun _ _ _ _ _ => lc2F_exc)
  | bad =>
    rw [hr] at h
    exact h.elim
  | ok r t3 =>
    rw [hr] at h
    obtain ⟨Gd, Y, wk, hG, hY⟩ := hJ
    let F' := ins F D
    have hF' : ∀ a, F' a → F a ∨ ¬ MutK (H1 a) := fun a z => z.elim .inl fun q => .inr (by rw [q]; exact mut_none hD)
    let Pv : Nat → Hp → Prop := fun i H => ∃ acc tpi vs, Ext ta H1 H ∧ World g F' ta ca H tpi ∧ H D = some (.lst vs) ∧ Reps X.K H F' vs acc ∧ lcGo2 (lc2F Γ t cs k1 as1 t1 cs1 e ow1 (wipeB env ow)) (xs.drop i) acc tpi = .ok r t3
    refine ⟨fun i m H => m = xs.length - i ∧ i ≤ xs.length ∧ Pv i H, ⟨xs.length, by simp, Nat.zero_le _, [], t2, [], Ext.new hD, (w.new hD).insW (by rw [upd_same]; exact True.intro) hca, upd_same, .nil, hr⟩, ?_⟩
    rintro i m H ⟨rfl, hi, acc, tpi, vs, e1, w1, hDv, rs, hg⟩
    have q := hG H (e1.mono fun _ z => z.elim)
    by_cases hlt : i < xs.length
    · refine .inr ⟨wk.goes i H hlt q, Pv (i + 1), fun H' p' => ⟨xs.length - (i + 1), by omega, rfl, hlt, p'⟩, fun x H' y => ?_⟩
      have y := wk.yields i H x H' hlt q y
      obtain ⟨e2, w2, d, hd, rx⟩ := hY F' i H x H' tpi hF' hlt (e1.mono fun _ z => z.elim) w1 y
      have hdr : xs.drop i = d :: xs.drop (i + 1) := by
        rw [List.drop_eq_getElem_cons hlt]
        rw [List.getElem?_eq_getElem hlt] at hd
        rw [Option.some.inj hd]
      rw [hdr] at hg
      obtain ⟨acc1, tp1, hf, hg⟩ := lcGo2_ok hg
      unfold lc2F at hf
      cases hb : bindT t d (wipeB env ow) with
      | none =>
        rw [hb] at hf
        cases hf
      | some env1 =>
        rw [hb] at hf
        have hf := nox_ok hf
        obtain ⟨b, tp2, hc, hf⟩ := bind_okE hf
        have e02 : Ext ta H1 H' := e1.trans e2
        have EG : EnvOk g X.K F' ta ca H' σ env tpi := E.grow (fun a z => .inl z) hF' e02 w2
        have E2 : EnvOk g X.K F' ta ca H' (L2.wipe σ ow) (wipeB env ow) tpi := EG.wipe ow
        -- things of one's own are not the new list
        have ow0 : ∀ l a, isOwn (getB (wipeB env ow) l) = true → (L2.wipe σ ow)[l]? = some (some (.ref a)) → a ≠ D := fun l a ho hs => by
          have sl := (E.wipe ow).slot l
          cases z : getB (wipeB env ow) l with
          | own ds =>
            rw [z] at sl
            obtain ⟨a', vs, h1, h2, h3, h4, h5⟩ := sl
            rw [hs] at h1
            cases h1
            exact fun q => by rw [q, hD] at h4; cases h4
          | owd kb k =>
            rw [z] at sl
            obtain ⟨a', h1, h2, h3, h4⟩ := sl
            rw [hs] at h1
            cases h1
            exact fun q => by
              cases h4 with
              | k e1 n _ r => rw [q, hD] at e1; cases e1
              | t e1 z _ r r' => rw [q, hD] at e1; cases e1
          | _ => rw [z] at ho; cases ho
        refine ⟨F', ta, ca, _, tpi, d, env1, E2, rx, hb, fun σ1 A1 kp E3 => ⟨A1.wipe, F', ta, ca, env1, tpi, E3, ?_⟩⟩
        have ow1' : ∀ l a, isOwn (getB env1 l) = true → σ1[l]? = some (some (.ref a)) → a ≠ D := fun l a ho hs => by
          obtain ⟨k1, k2⟩ := kp l ho
          rw [k2] at hs
          exact ow0 l a k1 hs
        rw [hc]
        intro H3 e3 w3
        cases b with
        | false =>
          have hf : Out.ok acc tp2 = Out.ok acc1 tp1 := hf
          cases hf
          refine iteF ?_
          exact ⟨acc, _, vs, e02.trans e3, w3, (e2.trans e3) _ _ (fun z => z) hDv True.intro, rs.stepX (e2.trans e3), hg⟩
        | true =>
          have hf : ((evs Γ .v as1 env1 tp2).bind fun ds1 tp3 => (Out.opt (itemsOf k1 ds1) tp3).bind fun ys tp4 => match big (acc.length + ys.length) with
            | true => lcGo (lcF Γ t1 cs1 e (wipeB env1 ow1)) ys acc tp4
            | false => .bad) = Out.ok acc1 tp1 := hf
          rw [← bind_assoc'] at hf
          obtain ⟨ys, tp4, hys, hf⟩ := bind_okE hf
          cases hbig : big (acc.length + ys.length) with
          | false =>
            rw [hbig] at hf
            cases hf
          | true =>
            rw [hbig] at hf
            have hbg := big_le hbig
            refine iteT ?_
            refine ⟨F', ta, ca, env1, tp2, E3.ext e3 w3, ?_⟩
            rw [hys]
            intro H4 e4 w4 J1 hJ1
            obtain ⟨Gd1, Y1, wk1, hG1, hY1⟩ := hJ1
            have E4 : EnvOk g X.K F' ta ca H4 σ1 env1 tp4 := (E3.ext e3 w3).ext e4 w4
            have e24 : Ext ta H' H4 := e3.trans e4
            have eHH : Ext ta H H4 := e2.trans e24
            have rs4 : Reps X.K H4 F' vs acc := rs.stepX eHH
            have hD4 : H4 D = some (.lst vs) := eHH _ _ (fun z => z) hDv True.intro
            have e14 : Ext ta H1 H4 := e02.trans e24
            have hF1 : ∀ a, F' a → F' a ∨ ¬ MutK (H4 a) := fun a z => .inl z
            have inF : ∀ {Ha : Hp}, St8 (fun a => a = D) ta H4 Ha → St8 (fsOf .v F') ta H4 Ha := fun z => z.mono fun a q => by rw [q]; exact .inr rfl
            let P1 : Nat → Hp → Prop := fun j Ha => ∃ ac tpj us, St8 (fun a => a = D) ta H4 Ha ∧ World g F' ta ca Ha tpj ∧ Ha D = some (.lst us) ∧ Reps X.K Ha F' us ac ∧ us.length ≤ acc.length + j ∧ lcGo (lcF Γ t1 cs1 e (wipeB env1 ow1)) (ys.drop j) ac tpj = .ok acc1 tp1
            refine ⟨fun j k Ha => k = ys.length - j ∧ j ≤ ys.length ∧ P1 j Ha, ⟨ys.length, by simp, Nat.zero_le _, acc, tp4, vs, .refl _ _ _, w4, hD4, rs4, by rw [rs4.length]; omega, hf⟩, ?_⟩
            rintro j k Ha ⟨rfl, hj, ac, tpj, us, ea, wa, hDa, ra, hla, hga⟩
            have qa := hG1 Ha (inF ea)
            by_cases hjl : j < ys.length
            · refine .inr ⟨wk1.goes j Ha hjl qa, P1 (j + 1), fun Hb pb => ⟨ys.length - (j + 1), by omega, rfl, hjl, pb⟩, fun xv Hb yv => ?_⟩
              have yv := wk1.yields j Ha xv Hb hjl qa yv
              obtain ⟨eb, wb, d1, hd1, rx1⟩ := hY1 F' j Ha xv Hb tpj hF1 hjl (inF ea) wa yv
              have hdr1 : ys.drop j = d1 :: ys.drop (j + 1) := by
                rw [List.drop_eq_getElem_cons hjl]
                rw [List.getElem?_eq_getElem hjl] at hd1
                rw [Option.some.inj hd1]
              rw [hdr1] at hga
              obtain ⟨o, tpk, hfo, hga⟩ := lcGo_ok hga
              unfold lcF at hfo
              cases hb1 : bindT t1 d1 (wipeB env1 ow1) with
              | none =>
                rw [hb1] at hfo
                cases hfo
              | some env2 =>
                rw [hb1] at hfo
                have hfo := nox_ok hfo
                obtain ⟨b1, tpl, hc1, hfo⟩ := bind_okE hfo
                have eab : St8 (fun a => a = D) ta H4 Hb := ea.trans (eb.mono fun _ z => z.elim)
                have E5 : EnvOk g X.K F' ta ca Hb (L2.wipe σ1 ow1) (wipeB env1 ow1) tpj := (E4.grown (.inr rfl) hta ow1' eab wb).wipe ow1
                refine ⟨F', ta, ca, _, tpj, d1, env2, E5, rx1, hb1, fun σ3 A3 _ E6 => ⟨A3.wipe, F', ta, ca, env2, tpj, E6, ?_⟩⟩
                rw [hc1]
                intro H6 e6 w6
                have eb6 : Ext ta Ha H6 := eb.trans e6
                have ea6 : St8 (fun a => a = D) ta H4 H6 := ea.trans (eb6.mono fun _ z => z.elim)
                cases b1 with
                | false =>
                  have hfo : Out.ok none tpl = Out.ok o tpk := hfo
                  cases hfo
                  refine iteF ?_
                  exact ⟨ac, _, us, ea6, w6, eb6 _ _ (fun z => z) hDa True.intro, ra.stepX eb6, Nat.le_succ_of_le hla, hga⟩
                | true =>
                  have hfo : ((ev Γ .v e env2 tpl).bind fun d tp3 => Out.ok (some d) tp3) = Out.ok o tpk := hfo
                  obtain ⟨y1, tpm, he, hfo⟩ := bind_okE hfo
                  cases hfo
                  refine iteT ?_
                  refine ⟨F', ta, ca, env2, tpl, E6.ext e6 w6, ?_⟩
                  rw [he]
                  intro H7 e7 w7 v rv
                  have rv : Rep X.K H7 F' v y1 := rv
                  have ea7 : Ext ta Ha H7 := eb6.trans e7
                  have hD7 : H7 D = some (.lst us) := ea7 _ _ (fun z => z) hDa True.intro
                  have s7 : St8 F' ta H7 (upd H7 D (.lst (us ++ [v]))) := St8.own (.inr rfl)
                  refine ⟨us, hD7, by rw [hsz]; omega, ac ++ [y1], _, us ++ [v], St8.push (ea.trans (ea7.mono fun _ z => z.elim)), w7.write (o := .lst (us ++ [v])) (.inr rfl) (Ne.symm hta) True.intro, upd_same, ?_, ?_, hga⟩
                  · exact ((ra.stepX ea7).append (.cons rv .nil)).step w7.nt s7
                  · rw [List.length_append]
                    exact Nat.succ_le_succ hla
            · have ej : j = ys.length := by omega
              subst ej
              rw [List.drop_length] at hga
              unfold lcGo at hga
              cases hga
              exact .inl ⟨wk1.stops Ha qa, _, _, us, St8.extD e14 ea hD, wa, hDa, ra, hg⟩
    · have ei : i = xs.length := by omega
      subst ei
      rw [List.drop_length] at hg
      unfold lcGo2 at hg
      cases hg
      exact .inl ⟨wk.stops H q, hR _ _ H vs e1 (w1.sub (fun a z => .inl z) w.hta) (h H e1 (w1.sub (fun a z => .inl z) w.hta)) hDv rs⟩
theorem lc2_imp {t t1 : Tg} {kd k1 : IK} {as cs as1 cs1 : Cs} {e : C} {ow ow1 : List Nat} {σ : L2.St} {H : Hp} {Q : VK} (h : rdF g X.K W Γ (.lc2 e t kd as cs t1 k1 as1 cs1 ow ow1) σ H Q) :
    tLc2 (rdI g X.K W Γ kd.md kd as) (tgS g X.K ow t) (rdC g X.K W0 Γ cs) (rdI g X.K W0 Γ .v k1 as1) (tgS g X.K ow1 t1) (rdC g X.K W0 Γ cs1) (rdE g X.K W0 Γ .v e) ow ow1 σ H Q := by
  obtain ⟨F, ta, ca, env, tp, E, h⟩ := h
  unfold ev at h
  rw [fin_v, ← bind_assoc'] at h
  refine ⟨F, ta, ca, env, tp, E, h.bind.mono fun xs t1_ H1 e1 w1 h => fun J hJ D hD => ?_⟩
  cases hb : big xs.length with
  | false =>
    rw [hb] at h
    exact h.elim
  | true =>
    rw [hb] at h
    have h : HdG g W F ta ca H1 σ ((lcGo2 (lc2F Γ t cs k1 as1 t1 cs1 e ow1 (wipeB env ow)) xs [] t1_).bind fun r t3 => Out.ok (PyData.list r) t3) (fun d _ H' => ∀ a vs ds, d = PyData.list ds → ¬ MutK (H a) → H' a = some (.lst vs) → Reps X.K H' (ins F a) vs ds → Q (.ref a) H') := h
    refine lc2_loop (E.ext e1 w1) hJ hD h.bind fun r t3 H' vs e2 w2 h hDv rs => ?_
    exact h.now w2 D vs r rfl (mut_back w1 e1 hD) hDv rs
theorem e_lc2F {t t1 : Tg} {kd k1 : IK} {as cs as1 cs1 : Cs} {e : C} {own : List (Str × Nat)} {ow1 : List Nat} {elt tg iter tg1 iter1 : Expr} {ifs ifs1 : List Expr} {scope : Scope} {pos : Pos} (G : Gd X N sc k) (hi : PI X tg iter (rdI g X.K W Γ kd.md kd as)) (ok : BlkOk N sc scope own) (hv : ∀ i ∈ ow1, i ∈ own.map (·.2))
    (hg : ∀ (s : Shared) (H : Hp) (C : Addr) (cl : List (Str × Addr)) (fp : List Addr), PG (X.blk s H scope (compEnvC scope cl C X.env) fp) tg (tgS g X.K (own.map (·.2)) t))
    (ht : ∀ (s : Shared) (H : Hp) (C : Addr) (cl : List (Str × Addr)) (fp : List Addr), PTs (X.blk s H scope (compEnvC scope cl C X.env) fp) ifs (rdC g X.K W0 Γ cs))
    (hi1 : ∀ (s : Shared) (H : Hp) (C : Addr) (cl : List (Str × Addr)) (fp : List Addr), PI (X.blk s H scope (compEnvC scope cl C X.env) fp) tg1 iter1 (rdI g X.K W0 Γ .v k1 as1))
    (hg1 : ∀ (s : Shared) (H : Hp) (C : Addr) (cl : List (Str × Addr)) (fp : List Addr), PG (X.blk s H scope (compEnvC scope cl C X.env) fp) tg1 (tgS g X.K ow1 t1))
    (ht1 : ∀ (s : Shared) (H : Hp) (C : Addr) (cl : List (Str × Addr)) (fp : List Addr), PTs (X.blk s H scope (compEnvC scope cl C X.env) fp) ifs1 (rdC g X.K W0 Γ cs1))
    (he : ∀ (s : Shared) (H : Hp) (C : Addr) (cl : List (Str × Addr)) (fp : List Addr), PE (X.blk s H scope (compEnvC scope cl C X.env) fp) elt (rdE g X.K W0 Γ .v e)) (hs : ∀ x, foldedSetIterable iter X.env x = pure x) (hs1 : ∀ env x, foldedSetIterable iter1 env x = pure x) :
    PE X (.ListComp elt [⟨tg, iter, ifs, 0⟩, ⟨tg1, iter1, ifs1, 0⟩] scope pos) (rdF g X.K W Γ (.lc2 e t kd as cs t1 k1 as1 cs1 (own.map (·.2)) ow1)) := by
  exact PE.imp (pe_lc2 G.calm (by rw [G.hN]; exact G.nd) hi (by rw [G.hN, G.sc]; exact ok) hv hg ht hi1 hg1 ht1 he hs hs1) fun σ H Q h => lc2_imp h
end
end Q

set_option Elab.async false
set_option linter.all false
set_option maxRecDepth 100000
namespace Q
open PySem PySem.Spec L2
open PyProof.Rows hiding St
/-! ### statements -/
structure Bs where
  F : Addr → Prop
  H : Hp
def BsOk (ta : Addr) (F : Addr → Prop) (H : Hp) (b : Bs) : Prop := b.F ta ∧ St8 b.F ta b.H H ∧ ∀ a, F a → b.F a ∨ ¬ MutK (b.H a)
structure SEnv (g : G) (K : PySem.W.Frag) (F0 : Addr → Prop) (H0 : Hp) (bs : List Bs) (F : Addr → Prop) (ta ca : Addr) (H : Hp) (σ : St) (env : QE) (tp : Tp) : Prop where
  E : EnvOk g K F ta ca H σ env tp
  sub : ∀ a, F0 a → F a
  hta : F0 ta
  nw : ∀ a, F a → F0 a ∨ ¬ MutK (H0 a)
  own : ∀ i a, isOwn (getB env i) = true → σ[i]? = some (some (.ref a)) → ¬ F0 a
  ext : Ext ta H0 H
  bs : ∀ b ∈ bs, BsOk ta F H b
def HdS (g : G) (K : PySem.W.Frag) (E : XK) (F0 : Addr → Prop) (H0 : Hp) (bs : List Bs) (ta ca : Addr) (o : SO) (D : Ends) : Prop := match o with
  | .nx env t => ∀ F σ H, SEnv g K F0 H0 bs F ta ca H σ env t → D.nx σ H
  | .br env t => ∀ F σ H, SEnv g K F0 H0 bs F ta ca H σ env t → D.bk σ H
  | .ct env t => ∀ F σ H, SEnv g K F0 H0 bs F ta ca H σ env t → D.ct σ H
  | .rt d t => ∀ v H, Ext ta H0 H → World g F0 ta ca H t → Rep K H F0 v d → D.rt v H
  | .exc c t => ∀ H, Ext ta H0 H → World g F0 ta ca H t → E (g.cls c) none H
  | .bad => False
def rdS (g : G) (K : PySem.W.Frag) (E : XK) (f : QE → Tp → SO) : TS := fun D σ H => ∃ F0 H0 bs F ta ca env tp, SEnv g K F0 H0 bs F ta ca H σ env tp ∧ HdS g K E F0 H0 bs ta ca (f env tp) D
def WX0 (E : XK) : WX := fun cls d _ H => E cls d H
section
variable {g : G} {K : PySem.W.Frag} {F0 F F' : Addr → Prop} {ta ca : Addr} {H0 H H' : Hp} {σ σ' : St} {env env' : QE} {tp tp' : Tp} {bs : List Bs} {E : XK} {D : Ends}
theorem BsOk.ext {b : Bs} (h : BsOk ta F H b) (e : Ext ta H H') : BsOk ta F H' b := ⟨h.1, h.2.1.trans (e.mono fun _ z => z.elim), h.2.2⟩
theorem SEnv.step (s : SEnv g K F0 H0 bs F ta ca H σ env tp) (e : Ext ta H H') (w : World g F ta ca H' tp') : SEnv g K F0 H0 bs F ta ca H' σ env tp' :=
  ⟨s.E.ext e w, s.sub, s.hta, s.nw, s.own, s.ext.trans e, fun b hb => (s.bs b hb).ext e⟩
theorem SEnv.set (s : SEnv g K F0 H0 bs F ta ca H σ env tp) {i : Nat} {v : V} {d : PyData} (r : Rep K H F v d) : SEnv g K F0 H0 bs F ta ca H (σ.set i (some v)) (env.set i (.val d)) tp := by
  refine ⟨s.E.set r, s.sub, s.hta, s.nw, fun j a ho hs => ?_, s.ext, s.bs⟩
  obtain ⟨h1, h2⟩ := Kp.set (σ := σ) (v := some v) j ho
  rw [h2] at hs
  exact s.own j a h1 hs
theorem SEnv.kp (s : SEnv g K F0 H0 bs F ta ca H σ env tp) (k : Kp env σ env' σ') (e : EnvOk g K F ta ca H σ' env' tp) : SEnv g K F0 H0 bs F ta ca H σ' env' tp :=
  ⟨e, s.sub, s.hta, s.nw, fun j a ho hs => by
    obtain ⟨h1, h2⟩ := k j ho
    rw [h2] at hs
    exact s.own j a h1 hs, s.ext, s.bs⟩
theorem HdS.so {α : Type} {o : Out α} {f : α → Tp → SO} (s : SEnv g K F0 H0 bs F ta ca H σ env tp) (h : HdS g K E F0 H0 bs ta ca (o.so f) D) : HdG g (WX0 E) F ta ca H σ o fun a t H1 => HdS g K E F0 H0 bs ta ca (f a t) D := by
  cases o with
  | ok a t => exact fun H1 e w => h
  | exc c t => exact fun H1 e w => h H1 (s.ext.trans e) (w.sub s.sub s.hta)
  | bad => exact h
/-- what a slot of one's own holds -/
theorem SEnv.slot (s : SEnv g K F0 H0 bs F ta ca H σ env tp) {i : Nat} {ds : List PyData} (h : getB env i = .own ds) : ∃ a vs, σ[i]? = some (some (.ref a)) ∧ F a ∧ a ≠ ta ∧ H a = some (.lst vs) ∧ Reps K H F vs ds ∧ ¬ F0 a := by
  have q := s.E.slot i
  rw [h] at q
  obtain ⟨a, vs, h1, h2, h3, h4, h5⟩ := q
  exact ⟨a, vs, h1, h2, h3, h4, h5, s.own i a (by rw [h]; rfl) h1⟩
theorem SEnv.slotD (s : SEnv g K F0 H0 bs F ta ca H σ env tp) {i : Nat} {kb : Bool} {ds : List (PyData × PyData)} (h : getB env i = .owd kb ds) : ∃ a, σ[i]? = some (some (.ref a)) ∧ F a ∧ a ≠ ta ∧ OwD K H F a kb ds ∧ ¬ F0 a := by
  have q := s.E.slot i
  rw [h] at q
  obtain ⟨a, h1, h2, h3, h4⟩ := q
  exact ⟨a, h1, h2, h3, h4, s.own i a (by rw [h]; rfl) h1⟩
theorem OwD.step {a : Addr} {kb : Bool} {ds : List (PyData × PyData)} (h : OwD K H F a kb ds) (t : ∀ a, F a → NT (H a)) (e : St8 F ta H H') (hk : H' a = H a) : OwD K H' F a kb ds := by
  cases h with
  | k e1 n q r => exact .k (by rw [hk]; exact e1) n q (r.step t e)
  | t e1 z q r r' => exact .t (by rw [hk]; exact e1) z q (r.step t e) (r'.step t e)
theorem OwD.mono {a : Addr} {kb : Bool} {ds : List (PyData × PyData)} (h : OwD K H F a kb ds) (m : ∀ x, F' x → F x) : OwD K H F' a kb ds := by
  cases h with
  | k e1 n q r => exact .k e1 n q (r.mono m)
  | t e1 z q r r' => exact .t e1 z q (r.mono m) (r'.mono m)
theorem OwD.mut {a : Addr} {kb : Bool} {ds : List (PyData × PyData)} (h : OwD K H F a kb ds) : MutK (H a) := by
  cases h with
  | k e1 n q r => rw [e1]; exact True.intro
  | t e1 z q r r' => rw [e1]; exact mutTd
/-- a thing of one's own written -/
theorem SEnv.writeG (s : SEnv g K F0 H0 bs F ta ca H σ env tp) {i : Nat} {a : Addr} {ho : HO} {b0 : B} (h : isOwn (getB env i) = true) (h1 : σ[i]? = some (some (.ref a))) (h2 : F a) (h3 : a ≠ ta) (h4 : MutK (H a)) (m : MutK (some ho)) (hb0 : isOwn b0 = true) (nw : SlotOk K F ta (upd H a ho) σ i b0) (h6 : ¬ F0 a) :
    SEnv g K F0 H0 bs F ta ca (upd H a ho) σ (env.set i b0) tp := by
  have w := s.E.wd
  have st : St8 F ta H (upd H a ho) := St8.own h2
  have hi : i < env.length := by
    by_cases q : i < env.length
    · exact q
    · rw [getB_out q] at h
      cases h
  have nm : ¬ MutK (H0 a) := (s.nw a h2).elim (fun q => absurd q h6) id
  have ow : ∀ j, isOwn (getB (env.set i b0) j) = true → isOwn (getB env j) = true := fun j z => by
    by_cases q : i = j
    · subst q
      exact h
    · rw [getB_set_ne q] at z
      exact z
  refine ⟨⟨by rw [List.length_set]; exact s.E.len, w.write (o := ho) h2 h3 m, fun j => ?_, fun x y l hx hy p1 p2 => s.E.uniq x y l (ow x hx) (ow y hy) p1 p2⟩, s.sub, s.hta, s.nw, fun j b hb p => s.own j b (ow j hb) p, fun b o hb hbo f => ?_, fun b hb => ⟨(s.bs b hb).1, fun c o hc hco f => ?_, (s.bs b hb).2.2⟩⟩
  · by_cases hj : i = j
    · subst hj
      rw [getB_set_same hi]
      exact nw
    · rw [getB_set_ne hj]
      have q := s.E.slot j
      cases z : getB env j with
      | un => trivial
      | val d =>
        rw [z] at q
        obtain ⟨v, p1, p2⟩ := q
        exact ⟨v, p1, p2.step w.nt st⟩
      | own d2 =>
        rw [z] at q
        obtain ⟨b, us, p1, p2, p3, p4, p5⟩ := q
        have hab : b ≠ a := fun e => hj (s.E.uniq i j a h (by rw [z]; rfl) h1 (by rw [← e]; exact p1))
        exact ⟨b, us, p1, p2, p3, by rw [upd_ne hab]; exact p4, p5.step w.nt st⟩
      | owd kb k =>
        rw [z] at q
        obtain ⟨b, p1, p2, p3, p4⟩ := q
        have hab : b ≠ a := fun e => hj (s.E.uniq i j a h (by rw [z]; rfl) h1 (by rw [← e]; exact p1))
        exact ⟨b, p1, p2, p3, p4.step w.nt st (upd_ne hab)⟩
      | tape =>
        rw [z] at q
        exact q
  · have hba : b ≠ a := fun e => by
      subst e
      have := s.ext b o hb hbo f
      rw [this, ← hbo] at h4
      exact nm h4
    rw [upd_ne hba]
    exact s.ext b o hb hbo f
  · obtain ⟨q1, q2, q3⟩ := s.bs b hb
    have hba : c ≠ a := fun e => by
      subst e
      have := q2 c o hc hco f
      rw [this, ← hco] at h4
      rcases q3 c h2 with z | z
      · exact hc z
      · exact z h4
    rw [upd_ne hba]
    exact q2 c o hc hco f
/-- a list of one's own written -/
theorem SEnv.write (s : SEnv g K F0 H0 bs F ta ca H σ env tp) {i : Nat} {ds es : List PyData} {a : Addr} {vs ws : List V} (h : getB env i = .own ds) (h1 : σ[i]? = some (some (.ref a))) (h2 : F a) (h3 : a ≠ ta) (h4 : H a = some (.lst vs)) (r : Reps K H F ws es) (h6 : ¬ F0 a) :
    SEnv g K F0 H0 bs F ta ca (upd H a (.lst ws)) σ (env.set i (.own es)) tp :=
  s.writeG (by rw [h]; rfl) h1 h2 h3 (by rw [h4]; exact True.intro) True.intro rfl ⟨a, ws, h1, h2, h3, upd_same, r.step s.E.wd.nt (St8.own (ta := ta) h2)⟩ h6
theorem mut_backS {b : Bs} {p : Addr} (q : BsOk ta F H b) (hb : ¬ MutK (H p)) : b.F p ∨ ¬ MutK (b.H p) := by
  by_cases z : b.F p
  · exact .inl z
  · refine .inr fun m => ?_
    have hp : p ≠ ta := fun e => z (by rw [e]; exact q.1)
    cases y : b.H p with
    | none =>
      rw [y] at m
      exact m
    | some o =>
      have f : Fix ta p o := by
        rw [y] at m
        unfold MutK at m
        split at m <;> try exact m.elim
        · rename_i e; cases e; exact True.intro
        · rename_i e; cases e; exact .inl hp
        · rename_i e; cases e; exact True.intro
        · rename_i e; cases e; exact True.intro
      rw [q.2.1 p o z y f] at hb
      rw [y] at m
      exact hb m
/-- a new thing becomes one's own: H the heap ahead of the expression, H' behind it -/
theorem SEnv.setG (s : SEnv g K F0 H0 bs F ta ca H σ env tp) (e : Ext ta H H') (w : World g F ta ca H' tp') {i : Nat} {a : Addr} {b0 : B} (hn : ¬ MutK (H a)) (mk : MutK (H' a)) (hb0 : isOwn b0 = true) (nw : a ≠ ta → i < σ.length → SlotOk K (ins F a) ta H' (σ.set i (some (.ref a))) i b0) :
    SEnv g K F0 H0 bs (ins F a) ta ca H' (σ.set i (some (.ref a))) (env.set i b0) tp' := by
  have hata : a ≠ ta := fun q => hn (by rw [q, s.E.wd.tape]; exact True.intro)
  have haca : a ≠ ca := fun q => hn (by rw [q, s.E.wd.cells]; exact True.intro)
  have nF : ¬ F a := fun z => hn (s.E.wd.trk a z)
  have ne : ∀ {j}, i ≠ j → isOwn (getB (env.set i b0) j) = true → isOwn (getB env j) = true := fun {j} q z => by
    rw [getB_set_ne q] at z
    exact z
  have lt : ∀ {j}, i = j → isOwn (getB (env.set i b0) j) = true → i < env.length := fun {j} q z => by
    subst q
    by_cases hl : i < env.length
    · exact hl
    · rw [getB_set_out hl, getB_out hl] at z
      cases z
  have g1 := s.E.grow (F' := ins F a) (fun x z => .inl z) (fun x z => z.elim .inl fun q => .inr (by rw [q]; exact hn)) e (w.insW mk haca)
  have hF : ∀ {j : Nat} {l : Addr}, isOwn (getB env j) = true → σ[j]? = some (some (.ref l)) → F l := fun {j l} ho hs => by
    have q := s.E.slot j
    cases z : getB env j with
    | own d2 =>
      rw [z] at q
      obtain ⟨b, us, p1, p2, _⟩ := q
      rw [p1] at hs
      cases hs
      exact p2
    | owd kb k =>
      rw [z] at q
      obtain ⟨b, p1, p2, _⟩ := q
      rw [p1] at hs
      cases hs
      exact p2
    | _ => rw [z] at ho; cases ho
  refine ⟨⟨by rw [List.length_set, List.length_set]; exact s.E.len, g1.wd, fun j => ?_, fun x y l hx hy p1 p2 => ?_⟩, fun x z => .inl (s.sub x z), s.hta, fun x z => z.elim (s.nw x) fun q => .inr (by rw [q]; exact mut_back2 s.E.wd s.E.wd.hta s.ext hn), fun j b hb p => ?_, s.ext.trans e, fun b hb => ?_⟩
  · by_cases hj : i = j
    · subst hj
      by_cases hl : i < env.length
      · rw [getB_set_same hl]
        exact nw hata (by rw [← s.E.len]; exact hl)
      · rw [getB_set_out hl, getB_out hl]
        trivial
    · rw [getB_set_ne hj]
      have q := g1.slot j
      cases z : getB env j with
      | un => trivial
      | val d =>
        rw [z] at q
        obtain ⟨v, p1, p2⟩ := q
        exact ⟨v, by rw [List.getElem?_set_ne hj]; exact p1, p2⟩
      | own d2 =>
        rw [z] at q
        obtain ⟨b, us, p1, p2⟩ := q
        exact ⟨b, us, by rw [List.getElem?_set_ne hj]; exact p1, p2⟩
      | owd kb k =>
        rw [z] at q
        obtain ⟨b, p1, p2⟩ := q
        exact ⟨b, by rw [List.getElem?_set_ne hj]; exact p1, p2⟩
      | tape =>
        rw [z] at q
        show (σ.set i _)[j]? = _
        rw [List.getElem?_set_ne hj]
        exact q
  · by_cases qx : i = x <;> by_cases qy : i = y
    · rw [← qx, ← qy]
    · exfalso
      have hl := lt qx hx
      subst qx
      rw [List.getElem?_set_self (by rw [← s.E.len]; exact hl)] at p1
      cases p1
      rw [List.getElem?_set_ne qy] at p2
      exact nF (hF (ne qy hy) p2)
    · exfalso
      have hl := lt qy hy
      subst qy
      rw [List.getElem?_set_self (by rw [← s.E.len]; exact hl)] at p2
      cases p2
      rw [List.getElem?_set_ne qx] at p1
      exact nF (hF (ne qx hx) p1)
    · rw [List.getElem?_set_ne qx] at p1
      rw [List.getElem?_set_ne qy] at p2
      exact s.E.uniq x y l (ne qx hx) (ne qy hy) p1 p2
  · by_cases q : i = j
    · have hl := lt q hb
      subst q
      rw [List.getElem?_set_self (by rw [← s.E.len]; exact hl)] at p
      cases p
      exact fun z => nF (s.sub _ z)
    · rw [List.getElem?_set_ne q] at p
      exact s.own j b (ne q hb) p
  · obtain ⟨q1, q2, q3⟩ := s.bs b hb
    exact ⟨q1, q2.trans (e.mono fun _ z => z.elim), fun x z => z.elim (q3 x) fun q => by rw [q]; exact mut_backS (s.bs b hb) hn⟩
theorem SEnv.setL (s : SEnv g K F0 H0 bs F ta ca H σ env tp) (e : Ext ta H H') (w : World g F ta ca H' tp') {i : Nat} {a : Addr} {vs : List V} {ds : List PyData} (hn : ¬ MutK (H a)) (ha : H' a = some (.lst vs)) (r : Reps K H' (ins F a) vs ds) :
    SEnv g K F0 H0 bs (ins F a) ta ca H' (σ.set i (some (.ref a))) (env.set i (.own ds)) tp' :=
  s.setG e w hn (by rw [ha]; exact True.intro) rfl fun h3 hl => ⟨a, vs, List.getElem?_set_self hl, .inr rfl, h3, ha, r⟩
/-- a dict of one's own is made a value: it is locked for good -/
theorem SEnv.frzD (s : SEnv g K F0 H0 bs F ta ca H σ env tp) {i : Nat} {ds : List (PyData × PyData)} (h : getB env i = .owd true ds) : ∃ a u, H a = some u ∧ Mut (some u) ∧ ∀ od, ∃ F', SEnv g K F0 H0 bs F' ta ca (upd H a (.frz od u)) σ (env.set i (.val (.dict ds))) tp := by
  obtain ⟨a, h1, h2, h3, h4, h6⟩ := s.slotD h
  have w := s.E.wd
  have hi : i < env.length := by
    by_cases q : i < env.length
    · exact q
    · rw [getB_out q] at h
      cases h
  have ow : ∀ j, isOwn (getB (env.set i (.val (.dict ds))) j) = true → i ≠ j ∧ isOwn (getB env j) = true := fun j z => by
    by_cases q : i = j
    · subst q
      rw [getB_set_same hi] at z
      cases z
    · rw [getB_set_ne q] at z
      exact ⟨q, z⟩
  have sb : ∀ x, (F x ∧ x ≠ a) → F x := fun x z => z.1
  have nm : ¬ MutK (H0 a) := (s.nw a h2).elim (fun q => absurd q h6) id
  have mk : MutK (H a) := h4.mut
  obtain ⟨u, hu, mu⟩ : ∃ u, H a = some u ∧ Mut (some u) := by
    cases h4 with
    | k e1 n q r => exact ⟨_, e1, True.intro⟩
  refine ⟨a, u, hu, mu, fun od => ⟨fun x => F x ∧ x ≠ a, ?_⟩⟩
  have st : St8 F ta H (upd H a (.frz od u)) := St8.own h2
  have ne : ∀ {b}, b ≠ a → upd H a (.frz od u) b = H b := fun q => upd_ne q
  refine ⟨⟨by rw [List.length_set]; exact s.E.len, ⟨fun x z => by rw [ne z.2]; exact w.trk x z.1, ⟨w.hta, Ne.symm h3⟩, by rw [ne (Ne.symm h3)]; exact w.tape, fun z => w.nca z.1, by rw [ne fun q => w.nca (by rw [q]; exact h2)]; exact w.cells, g.TS (ta := ta) w.hta w.trk (fun b o hb e _ => by rw [ne fun q => hb (by rw [q]; exact h2)]; exact e) w.tabs⟩, fun j => ?_, fun x y l hx hy p1 p2 => s.E.uniq x y l (ow x hx).2 (ow y hy).2 p1 p2⟩, fun x z => ⟨s.sub x z, fun q => h6 (by rw [← q]; exact z)⟩, s.hta, fun x z => s.nw x z.1, fun j b hb p => s.own j b (ow j hb).2 p, fun b o hb hbo f => ?_, fun b hb => ⟨(s.bs b hb).1, fun c o hc hco f => ?_, fun x z => (s.bs b hb).2.2 x z.1⟩⟩
  · by_cases hj : i = j
    · subst hj
      rw [getB_set_same hi]
      refine ⟨.ref a, h1, ?_⟩
      cases h4 with
      | k e1 n q r =>
        rw [hu] at e1
        cases e1
        exact .dcK (o := od) upd_same q ((r.step w.nt st).mono sb)
    · rw [getB_set_ne hj]
      have q := s.E.slot j
      cases z : getB env j with
      | un => trivial
      | val d =>
        rw [z] at q
        obtain ⟨v, p1, p2⟩ := q
        exact ⟨v, p1, (p2.step w.nt st).mono sb⟩
      | own d2 =>
        rw [z] at q
        obtain ⟨b, us, p1, p2, p3, p4, p5⟩ := q
        have hab : b ≠ a := fun e => hj (s.E.uniq i j a (by rw [h]; rfl) (by rw [z]; rfl) h1 (by rw [← e]; exact p1))
        exact ⟨b, us, p1, ⟨p2, hab⟩, p3, by rw [ne hab]; exact p4, (p5.step w.nt st).mono sb⟩
      | owd kb k =>
        rw [z] at q
        obtain ⟨b, p1, p2, p3, p4⟩ := q
        have hab : b ≠ a := fun e => hj (s.E.uniq i j a (by rw [h]; rfl) (by rw [z]; rfl) h1 (by rw [← e]; exact p1))
        exact ⟨b, p1, ⟨p2, hab⟩, p3, (p4.step w.nt st (ne hab)).mono sb⟩
      | tape =>
        rw [z] at q
        exact q
  · have hba : b ≠ a := fun e => by
      subst e
      have := s.ext b o hb hbo f
      rw [this, ← hbo] at mk
      exact nm mk
    rw [ne hba]
    exact s.ext b o hb hbo f
  · obtain ⟨q1, q2, q3⟩ := s.bs b hb
    have hba : c ≠ a := fun e => by
      subst e
      have := q2 c o hc hco f
      rw [this, ← hco] at mk
      rcases q3 c h2 with z | z
      · exact hc z
      · exact z mk
    rw [ne hba]
    exact q2 c o hc hco f
/-- a list of one's own is made a value -/
theorem SEnv.frz (s : SEnv g K F0 H0 bs F ta ca H σ env tp) {i : Nat} {ds : List PyData} (h : getB env i = .own ds) : ∃ F', SEnv g K F0 H0 bs F' ta ca H σ (env.set i (.val (.list ds))) tp := by
  obtain ⟨a, vs, h1, h2, h3, h4, h5, h6⟩ := s.slot h
  have hi : i < env.length := by
    by_cases q : i < env.length
    · exact q
    · rw [getB_out q] at h
      cases h
  have ow : ∀ j, isOwn (getB (env.set i (.val (.list ds))) j) = true → i ≠ j ∧ isOwn (getB env j) = true := fun j z => by
    by_cases q : i = j
    · subst q
      rw [getB_set_same hi] at z
      cases z
    · rw [getB_set_ne q] at z
      exact ⟨q, z⟩
  have sb : ∀ x, (F x ∧ x ≠ a) → F x := fun x z => z.1
  refine ⟨fun x => F x ∧ x ≠ a, ⟨by rw [List.length_set]; exact s.E.len, s.E.wd.sub sb ⟨s.E.wd.hta, Ne.symm h3⟩, fun j => ?_, fun x y l hx hy p1 p2 => s.E.uniq x y l (ow x hx).2 (ow y hy).2 p1 p2⟩, fun x z => ⟨s.sub x z, fun q => h6 (by rw [← q]; exact z)⟩, s.hta, fun x z => s.nw x z.1, fun j b hb p => s.own j b (ow j hb).2 p, s.ext, fun b hb => ⟨(s.bs b hb).1, (s.bs b hb).2.1, fun x z => (s.bs b hb).2.2 x z.1⟩⟩
  by_cases hj : i = j
  · subst hj
    rw [getB_set_same hi]
    exact ⟨.ref a, h1, .lst h4 (fun z => z.2 rfl) (h5.mono sb)⟩
  · rw [getB_set_ne hj]
    have q := s.E.slot j
    cases z : getB env j with
    | un => trivial
    | val d =>
      rw [z] at q
      obtain ⟨v, p1, p2⟩ := q
      exact ⟨v, p1, p2.mono sb⟩
    | own d2 =>
      rw [z] at q
      obtain ⟨b, us, p1, p2, p3, p4, p5⟩ := q
      exact ⟨b, us, p1, ⟨p2, fun e => hj (s.E.uniq i j a (by rw [h]; rfl) (by rw [z]; rfl) h1 (by rw [← e]; exact p1))⟩, p3, p4, p5.mono sb⟩
    | owd kb k =>
      rw [z] at q
      obtain ⟨b, p1, p2, p3, p4⟩ := q
      exact ⟨b, p1, ⟨p2, fun e => hj (s.E.uniq i j a (by rw [h]; rfl) (by rw [z]; rfl) h1 (by rw [← e]; exact p1))⟩, p3, p4.mono sb⟩
    | tape =>
      rw [z] at q
      exact q
/-- a dict of tuples of one's own is made a value -/
theorem SEnv.frzT (s : SEnv g K F0 H0 bs F ta ca H σ env tp) {i : Nat} {ds : List (PyData × PyData)} (h : getB env i = .owd false ds) : ∃ F', SEnv g K F0 H0 bs F' ta ca H σ (env.set i (.val (.dict ds))) tp := by
  obtain ⟨a, h1, h2, h3, h4, h6⟩ := s.slotD h
  have hi : i < env.length := by
    by_cases q : i < env.length
    · exact q
    · rw [getB_out q] at h
      cases h
  have ow : ∀ j, isOwn (getB (env.set i (.val (.dict ds))) j) = true → i ≠ j ∧ isOwn (getB env j) = true := fun j z => by
    by_cases q : i = j
    · subst q
      rw [getB_set_same hi] at z
      cases z
    · rw [getB_set_ne q] at z
      exact ⟨q, z⟩
  have sb : ∀ x, (F x ∧ x ≠ a) → F x := fun x z => z.1
  refine ⟨fun x => F x ∧ x ≠ a, ⟨by rw [List.length_set]; exact s.E.len, s.E.wd.sub sb ⟨s.E.wd.hta, Ne.symm h3⟩, fun j => ?_, fun x y l hx hy p1 p2 => s.E.uniq x y l (ow x hx).2 (ow y hy).2 p1 p2⟩, fun x z => ⟨s.sub x z, fun q => h6 (by rw [← q]; exact z)⟩, s.hta, fun x z => s.nw x z.1, fun j b hb p => s.own j b (ow j hb).2 p, s.ext, fun b hb => ⟨(s.bs b hb).1, (s.bs b hb).2.1, fun x z => (s.bs b hb).2.2 x z.1⟩⟩
  by_cases hj : i = j
  · subst hj
    rw [getB_set_same hi]
    cases h4 with
    | t e1 z q r r' => exact ⟨.ref a, h1, .dcT e1 (fun z => z.2 rfl) z q (r.mono sb) (r'.mono sb)⟩
  · rw [getB_set_ne hj]
    have q := s.E.slot j
    cases z : getB env j with
    | un => trivial
    | val d =>
      rw [z] at q
      obtain ⟨v, p1, p2⟩ := q
      exact ⟨v, p1, p2.mono sb⟩
    | own d2 =>
      rw [z] at q
      obtain ⟨b, us, p1, p2, p3, p4, p5⟩ := q
      exact ⟨b, us, p1, ⟨p2, fun e => hj (s.E.uniq i j a (by rw [h]; rfl) (by rw [z]; rfl) h1 (by rw [← e]; exact p1))⟩, p3, p4, p5.mono sb⟩
    | owd kb k =>
      rw [z] at q
      obtain ⟨b, p1, p2, p3, p4⟩ := q
      exact ⟨b, p1, ⟨p2, fun e => hj (s.E.uniq i j a (by rw [h]; rfl) (by rw [z]; rfl) h1 (by rw [← e]; exact p1))⟩, p3, p4.mono sb⟩
    | tape =>
      rw [z] at q
      exact q
end
end Q

set_option Elab.async false
set_option linter.all false
set_option maxRecDepth 100000
namespace Q
open PySem PySem.Spec L2
open PyProof.Rows hiding St
section
variable {g : G} {Γ : Sm} {X : Cx} {N : List Str} {sc : Scope} {k : Nat} {fz : Str → Bool} {E : XK} {n : Nat}
theorem PS.imp {st : Stmt} {t t' : TS} (h : PS X st t) (f : ∀ D σ H, t' D σ H → t D σ H) : PS X st t' := ⟨fun pins s σ H D I q => h.run pins s σ H D I (f D σ H q)⟩
theorem PSs.imp {st : List Stmt} {t t' : TS} (h : PSs X st t) (f : ∀ D σ H, t' D σ H → t D σ H) : PSs X st t' := ⟨fun pins s σ H D I q => h.run pins s σ H D I (f D σ H q)⟩
abbrev rdX (g : G) (X : Cx) (E : XK) (Γ : Sm) (n : Nat) (s : S) : TS := rdS g X.K E (exS Γ n s)
abbrev rdXs (g : G) (X : Cx) (E : XK) (Γ : Sm) (n : Nat) (ss : Ss) : TS := rdS g X.K E (exSs Γ n ss)
theorem s_nil : PSs X [] (rdXs g X E Γ n .nil) := by
  refine PSs.imp pss_nil fun D σ H h => ?_
  obtain ⟨F0, H0, bs, F, ta, ca, env, tp, s, h⟩ := h
  unfold exSs at h
  exact h F σ H s
theorem s_cons {s : S} {ss : Ss} {st : Stmt} {sts : List Stmt} (h1 : PS X st (rdX g X E Γ n s)) (h2 : PSs X sts (rdXs g X E Γ n ss)) : PSs X (st :: sts) (rdXs g X E Γ n (.cons s ss)) := by
  refine PSs.imp (pss_cons h1 h2) fun D σ H h => ?_
  obtain ⟨F0, H0, bs, F, ta, ca, env, tp, s, h⟩ := h
  unfold exSs at h
  refine ⟨F0, H0, bs, F, ta, ca, env, tp, s, ?_⟩
  cases q : exS Γ n ‹S› env tp with
  | nx e t =>
    rw [q] at h
    exact fun F1 σ1 H1 s1 => ⟨F0, H0, bs, F1, ta, ca, e, t, s1, h⟩
  | rt d t => rw [q] at h; exact h
  | br e t => rw [q] at h; exact h
  | ct e t => rw [q] at h; exact h
  | exc c t => rw [q] at h; exact h
  | bad => rw [q] at h; exact h
theorem HdG.map {α β : Type} {W : WX} {F : Addr → Prop} {ta ca : Addr} {H : Hp} {σ : L2.St} {o : Out α} {f : α → β} {R : α → Tp → Hp → Prop} {R' : β → Tp → Hp → Prop} (h : HdG g W F ta ca H σ o R) (i : ∀ a t H1, Ext ta H H1 → World g F ta ca H1 t → R a t H1 → R' (f a) t H1) : HdG g W F ta ca H σ (o.bind fun a t => .ok (f a) t) R' := by
  cases o with
  | ok a t => exact fun H1 e w => i a t H1 e w (h H1 e w)
  | exc c t => exact h
  | bad => exact h
/-- the step that no line shows -/
theorem s_frz {i : Nat} {ss : Ss} {sts : List Stmt} (h2 : PSs X sts (rdXs g X E Γ n ss)) : PSs X sts (rdXs g X E Γ n (.cons (.frz i) ss)) := by
  refine ⟨fun pins sh σ H D I h => ?_⟩
  obtain ⟨F0, H0, bs, F, ta, ca, env, tp, s, h⟩ := h
  unfold exSs exS at h
  cases q : getB env i with
  | own ds =>
    rw [q] at h
    obtain ⟨F', s'⟩ := s.frz q
    exact h2.run pins sh σ H D I ⟨F0, H0, bs, F', ta, ca, _, tp, s', h⟩
  | owd kb kvs =>
    rw [q] at h
    cases kb with
    | true =>
      obtain ⟨a, u, hu, mu, hk⟩ := s.frzD q
      obtain ⟨od, I'⟩ := I.lock hu mu
      obtain ⟨F', s'⟩ := hk od
      exact h2.run pins sh σ _ D I' ⟨F0, H0, bs, F', ta, ca, _, tp, s', h⟩
    | false =>
      obtain ⟨F', s'⟩ := s.frzT q
      exact h2.run pins sh σ H D I ⟨F0, H0, bs, F', ta, ca, _, tp, s', h⟩
  | un => rw [q] at h; exact h2.run pins sh σ H D I ⟨F0, H0, bs, F, ta, ca, _, tp, s, h⟩
  | val d => rw [q] at h; exact h2.run pins sh σ H D I ⟨F0, H0, bs, F, ta, ca, _, tp, s, h⟩
  | tape => rw [q] at h; exact h2.run pins sh σ H D I ⟨F0, H0, bs, F, ta, ca, _, tp, s, h⟩
theorem s_pass {st : Stmt} (h : PS X st tNext) : PS X st (rdX g X E Γ n .pass) := by
  refine PS.imp h fun D σ H h => ?_
  obtain ⟨F0, H0, bs, F, ta, ca, env, tp, s, h⟩ := h
  unfold exS at h
  exact h F σ H s
theorem s_brk {pos : Pos} : PS X (.Break pos) (rdX g X E Γ n .brk) := by
  refine PS.imp ps_break fun D σ H h => ?_
  obtain ⟨F0, H0, bs, F, ta, ca, env, tp, s, h⟩ := h
  unfold exS at h
  exact h F σ H s
theorem s_cont {pos : Pos} : PS X (.Continue pos) (rdX g X E Γ n .cont) := by
  refine PS.imp ps_continue fun D σ H h => ?_
  obtain ⟨F0, H0, bs, F, ta, ca, env, tp, s, h⟩ := h
  unfold exS at h
  exact h F σ H s
theorem s_ret {c : C} {e : Expr} {pos : Pos} (he : PE X e (rdE g X.K (WX0 E) Γ .v c)) : PS X (.Return (some e) pos) (rdX g X E Γ n (.ret c)) := by
  refine PS.imp (ps_ret he) fun D σ H h => ?_
  obtain ⟨F0, H0, bs, F, ta, ca, env, tp, s, h⟩ := h
  unfold exS at h
  refine ⟨F, ta, ca, env, tp, s.E, (HdS.so s h).mono fun d t H1 e1 w1 h => fun v r => ?_⟩
  exact h v H1 (s.ext.trans e1) (w1.sub s.sub s.hta) (Rep.mono s.sub r)
/-- a value stored -/
theorem set_imp {i : Nat} {c : C} {D : Ends} {σ : L2.St} {H : Hp} (h : rdX g X E Γ n (.set i c) D σ H) : tAsg (rdE g X.K (WX0 E) Γ .v c) (gName i) D σ H := by
  obtain ⟨F0, H0, bs, F, ta, ca, env, tp, s, h⟩ := h
  unfold exS at h
  refine ⟨F, ta, ca, env, tp, s.E, (HdS.so s h).mono fun d t H1 e1 w1 h => fun v r => ?_⟩
  exact h F _ H1 ((s.step e1 w1).set r)
theorem setL_imp {i : Nat} {c : C} {D : Ends} {σ : L2.St} {H : Hp} (h : rdX g X E Γ n (.setL i c) D σ H) : tAsg (rdF g X.K (WX0 E) Γ c) (gName i) D σ H := by
  obtain ⟨F0, H0, bs, F, ta, ca, env, tp, s, h⟩ := h
  unfold exS at h
  refine ⟨F, ta, ca, env, tp, s.E, (HdS.so s h).mono fun d t H1 e1 w1 h => fun a vs ds hd hn ha r => ?_⟩
  subst hd
  exact h _ _ H1 (s.setL e1 w1 hn ha r)
/-- an owned list, or a value, by name: passed on -/
theorem unp_imp {ow : List Nat} {t : Tg} {c : C} {D : Ends} {σ : L2.St} {H : Hp} (h : rdX g X E Γ n (.unp t c) D σ H) : tAsg (rdE g X.K (WX0 E) Γ .v c) (tgS g X.K ow t) D σ H := by
  obtain ⟨F0, H0, bs, F, ta, ca, env, tp, s, h⟩ := h
  unfold exS at h
  refine ⟨F, ta, ca, env, tp, s.E, (HdS.so s h).mono fun d tp1 H1 e1 w1 h => fun v r => ?_⟩
  have s1 := s.step e1 w1
  cases q : bindT t d env with
  | none =>
    rw [q] at h
    exact h.elim
  | some env1 =>
    rw [q] at h
    exact ⟨F, ta, ca, env, tp1, d, env1, s1.E, r, q, fun σ1 _ kp E1 => h F σ1 H1 (s1.kp kp E1)⟩
theorem par_imp {i j : Nat} {a b : C} {D : Ends} {σ : L2.St} {H : Hp} (h : rdX g X E Γ n (.par i j a b) D σ H) : tPar i j (rdEs g X.K (WX0 E) Γ .v (.cons a (.cons b .nil))) D σ H := by
  obtain ⟨F0, H0, bs, F, ta, ca, env, tp, s, h⟩ := h
  unfold exS at h
  refine ⟨F, ta, ca, env, tp, s.E, ?_⟩
  unfold evs evs evs
  cases qa : ev Γ .v a env tp with
  | bad =>
    rw [qa] at h
    exact h.elim
  | exc c t =>
    rw [qa] at h
    exact fun H1 e w => h H1 (s.ext.trans e) (w.sub s.sub s.hta)
  | ok x t1 =>
    rw [qa] at h
    have h : HdS g X.K E F0 H0 bs ta ca ((ev Γ .v b env t1).so fun y t => .nx ((env.set i (.val x)).set j (.val y)) t) D := h
    show HdG g (WX0 E) F ta ca H σ ((((ev Γ .v b env t1).bind fun y t2 => (Out.ok [] t2).bind fun ys t => Out.ok (y :: ys) t)).bind fun ys t => Out.ok (x :: ys) t) _
    cases qb : ev Γ .v b env t1 with
    | bad =>
      rw [qb] at h
      exact h.elim
    | exc c t =>
      rw [qb] at h
      exact fun H1 e w => h H1 (s.ext.trans e) (w.sub s.sub s.hta)
    | ok y t2 =>
      rw [qb] at h
      intro H1 e1 w1 vs r
      obtain ⟨v, u, rfl, rv, ru⟩ := RepMs.two (m := .v) r
      exact ⟨v, u, rfl, h F _ H1 (((s.step e1 w1).set rv).set ru)⟩
theorem ex_imp {c : C} {D : Ends} {σ : L2.St} {H : Hp} (h : rdX g X E Γ n (.ex c) D σ H) : tDrop (rdE g X.K (WX0 E) Γ .r c) D σ H := by
  obtain ⟨F0, H0, bs, F, ta, ca, env, tp, s, h⟩ := h
  unfold exS at h
  refine ⟨F, ta, ca, env, tp, s.E, (HdS.so s h).mono fun d t H1 e1 w1 h => fun v r => ?_⟩
  exact h F _ H1 (s.step e1 w1)
/-- an address by its name -/
theorem e_adr {i : Nat} {x : Str} {pos : Pos} (G : Gd X N sc k) (hi : N[i]? = some x) (hv : visB sc x = true) (hn : nameB x = true) : PE X (.Name x pos) (tVar i) := by
  unfold nameB at hn
  simp only [Bool.and_eq_true, Bool.not_eq_true'] at hn
  exact pe_var (by rw [G.hN]; exact hi) (vis_of G hv) hn.1.1 hn.1.2
theorem app_imp {i : Nat} {c : C} {D : Ends} {σ : L2.St} {H : Hp} (h : rdX g X E Γ n (.app i c) D σ H) : tDrop (tBM X.K "list" rAppend (tVar i) (rdEs g X.K (WX0 E) Γ .v (.cons c .nil))) D σ H := by
  obtain ⟨F0, H0, bs, F, ta, ca, env, tp, s, h⟩ := h
  unfold exS at h
  cases q : getB env i with
  | own ds =>
    obtain ⟨a, vs, h1, h2, h3, h4, h5, h6⟩ := s.slot q
    refine ⟨.ref a, h1, .inl ⟨rfl, vs, SqL.ofL h4⟩, F, ta, ca, env, tp, s.E, ?_⟩
    rw [evs_one]
    rw [q] at h
    have h' := HdS.so s h
    refine HdG.map h' fun d t H1 e1 w1 h us r => ?_
    obtain ⟨u, rfl, ru⟩ := RepMs.one (m := .v) r
    have s1 := s.step e1 w1
    have hH1 : H1 a = some (.lst vs) := e1 _ _ (fun z => z) h4 True.intro
    have r1 := h5.stepX e1
    have h : HdS g X.K E F0 H0 bs ta ca (match big (ds.length + 1) with
      | true => .nx (env.set i (.own (ds ++ [d]))) t
      | false => .bad) D := h
    cases hb : big (ds.length + 1) with
    | false =>
      rw [hb] at h
      exact h.elim
    | true =>
      rw [hb] at h
      have hl := big_le hb
      refine ⟨a, vs, u, rfl, rfl, hH1, by rw [h5.length]; omega, ?_⟩
      exact h F σ _ (s1.write q h1 h2 h3 hH1 (r1.append (.cons ru .nil)) h6)
  | _ => rw [q] at h; exact h.elim
theorem ext_imp {i : Nat} {c : C} {D : Ends} {σ : L2.St} {H : Hp} (h : rdX g X E Γ n (.ext i c) D σ H) : tDrop (tBM X.K "list" rExtend (tVar i) (rdEs g X.K (WX0 E) Γ .v (.cons c .nil))) D σ H := by
  obtain ⟨F0, H0, bs, F, ta, ca, env, tp, s, h⟩ := h
  unfold exS at h
  cases q : getB env i with
  | own ds =>
    obtain ⟨a, vs, h1, h2, h3, h4, h5, h6⟩ := s.slot q
    refine ⟨.ref a, h1, .inl ⟨rfl, vs, SqL.ofL h4⟩, F, ta, ca, env, tp, s.E, ?_⟩
    rw [evs_one]
    rw [q] at h
    have h' := HdS.so s h
    refine HdG.map h' fun d t H1 e1 w1 h us r => ?_
    obtain ⟨u, rfl, ru⟩ := RepMs.one (m := .v) r
    have s1 := s.step e1 w1
    have hH1 : H1 a = some (.lst vs) := e1 _ _ (fun z => z) h4 True.intro
    have r1 := h5.stepX e1
    cases d with
    | list es =>
      have h : HdS g X.K E F0 H0 bs ta ca (match big (ds.length + es.length) with
        | true => .nx (env.set i (.own (ds ++ es))) t
        | false => .bad) D := h
      cases hb : big (ds.length + es.length) with
      | false =>
        rw [hb] at h
        exact h.elim
      | true =>
        rw [hb] at h
        have hl := big_le hb
        have ru : Rep X.K H1 F u (.list es) := ru
        cases ru with
        | lst hB nB rB =>
          refine ⟨a, _, vs, _, rfl, rfl, hH1, hB, by rw [h5.length, rB.length]; exact hl, ?_⟩
          exact h F σ _ (s1.write q h1 h2 h3 hH1 (r1.append rB) h6)
    | _ => exact h.elim
  | _ => rw [q] at h; exact h.elim
theorem sub_imp {i : Nat} {kk c : C} {D : Ends} {σ : L2.St} {H : Hp} (h : rdX g X E Γ n (.sub i kk c) D σ H) : tAsg (rdE g X.K (WX0 E) Γ .v c) (gSub (tVar i) (rdE g X.K (WX0 E) Γ .r kk) rSetL) D σ H := by
  obtain ⟨F0, H0, bs, F, ta, ca, env, tp, s, h⟩ := h
  unfold exS at h
  cases q : getB env i with
  | own ds =>
    obtain ⟨a, vs, h1, h2, h3, h4, h5, h6⟩ := s.slot q
    rw [q] at h
    refine ⟨F, ta, ca, env, tp, s.E, (HdS.so s h).mono fun d t H1 e1 w1 h => fun v r => ⟨.ref a, h1, F, ta, ca, env, t, s.E.ext e1 w1, (HdS.so (s.step e1 w1) h).mono fun d2 t2 H2 e2 w2 h => fun v2 r2 => ?_⟩⟩
    have s2 := (s.step e1 w1).step e2 w2
    have r : Rep X.K H1 F v d := r
    have hH2 : H2 a = some (.lst vs) := (e1.trans e2) _ _ (fun z => z) h4 True.intro
    have rs := h5.stepX (e1.trans e2)
    cases d2 with
    | int b =>
      cases RepR.int_inv r2
      have h : HdS g X.K E F0 H0 bs ta ca (match ixN ds.length b with
        | some j => .nx (env.set i (.own (ds.set j d))) t2
        | none => .bad) D := h
      cases hj : ixN ds.length b with
      | none =>
        rw [hj] at h
        exact h.elim
      | some j =>
        rw [hj] at h
        exact ⟨a, vs, b, j, rfl, rfl, hH2, by rw [h5.length]; exact hj, h F σ _ (s2.write q h1 h2 h3 hH2 (rs.set j (r.stepX e2)) h6)⟩
    | _ => exact h.elim
  | _ => rw [q] at h; exact h.elim
theorem aug_imp {i : Nat} {o : BO} {f : Int → Int → Int} {c : C} {D : Ends} {σ : L2.St} {H : Hp} (hf : ∀ x y z, binD o (.int x) (.int y) = some z → z = .int (f x y)) (h : rdX g X E Γ n (.aug i o c) D σ H) : tAug i (rdE g X.K (WX0 E) Γ .r c) (ipI f) D σ H := by
  obtain ⟨F0, H0, bs, F, ta, ca, env, tp, s, h⟩ := h
  unfold exS at h
  have sl := s.E.slot i
  cases q : getB env i with
  | val d0 =>
    rw [q] at h sl
    cases d0 with
    | int x0 =>
      obtain ⟨v0, h1, h2⟩ := sl
      cases h2
      refine ⟨.int x0, h1, F, ta, ca, env, tp, s.E, (HdS.so s h).mono fun d t H1 e1 w1 h => fun v r => ?_⟩
      cases d with
      | int y0 =>
        cases RepR.int_inv r
        refine ⟨x0, y0, rfl, rfl, ?_⟩
        have h : HdS g X.K E F0 H0 bs ta ca (match binD o (.int x0) (.int y0) with
          | some z => .nx (env.set i (.val z)) t
          | none => .bad) D := h
        cases hz : binD o (.int x0) (.int y0) with
        | none =>
          rw [hz] at h
          exact h.elim
        | some z =>
          rw [hz] at h
          cases hf _ _ _ hz
          exact h F _ H1 ((s.step e1 w1).set (.int _))
      | _ => exact h.elim
    | _ => exact h.elim
  | _ => rw [q] at h; exact h.elim
theorem ife_imp {c : C} {a b : Ss} {D : Ends} {σ : L2.St} {H : Hp} (h : rdX g X E Γ n (.ife c a b) D σ H) : tIfS (rdT g X.K (WX0 E) Γ c) (rdXs g X E Γ n a) (rdXs g X E Γ n b) D σ H := by
  obtain ⟨F0, H0, bs, F, ta, ca, env, tp, s, h⟩ := h
  unfold exS at h
  refine ⟨F, ta, ca, env, tp, s.E, (HdS.so s h).mono fun d t H1 e1 w1 h => fun kk hk => ?_⟩
  subst hk
  cases kk with
  | true => exact iteT ⟨F0, H0, bs, F, ta, ca, env, t, s.step e1 w1, h⟩
  | false => exact iteF ⟨F0, H0, bs, F, ta, ca, env, t, s.step e1 w1, h⟩
end
end Q

set_option Elab.async false
set_option linter.all false
set_option maxRecDepth 100000
namespace Q
open PySem PySem.Spec L2
open PyProof.Rows hiding St
section
variable {g : G} {Γ : Sm} {X : Cx} {N : List Str} {sc : Scope} {k : Nat} {fz : Str → Bool} {E : XK} {n : Nat}
theorem for_imp {ow : List Nat} {t : Tg} {kd : IK} {as : Cs} {b : Ss} {D : Ends} {σ : L2.St} {H : Hp} (h : rdX g X E Γ n (.for_ t kd as b) D σ H) : tFor (rdI g X.K (WX0 E) Γ .v kd as) (tgS g X.K ow t) (rdXs g X E Γ n b) D σ H := by
  obtain ⟨F0, H0, bs, F, ta, ca, env, tp, s, h⟩ := h
  unfold exS at h
  refine ⟨F, ta, ca, env, tp, s.E, (HdS.so s h).mono fun xs t1 H1 e1 w1 h => fun J hJ => ?_⟩
  obtain ⟨Gd, Y, wk, hG, hY⟩ := hJ
  have s1 := s.step e1 w1
  refine for_it wk (fun i σ H => ∃ F' env' tp', SEnv g X.K F0 H0 (⟨F, H1⟩ :: bs) F' ta ca H σ env' tp' ∧ HdS g X.K E F0 H0 bs ta ca (forGo (fun x env tp => match bindT t x env with
      | some env1 => exSs Γ n b env1 tp
      | none => .bad) (xs.drop i) env' tp') D) ?_ ?_ ?_ ?_
  · exact ⟨F, env, t1, ⟨s1.E, s1.sub, s1.hta, s1.nw, s1.own, s1.ext, fun c hc => by
      rcases List.mem_cons.mp hc with e | hc
      · subst e
        exact ⟨s1.E.wd.hta, .refl _ _ _, fun a z => .inl z⟩
      · exact s1.bs c hc⟩, h⟩
  · rintro i σ' H' _ ⟨F', env', tp', s', _⟩
    exact hG H' (s'.bs _ (List.mem_cons_self ..)).2.1
  · rintro i x σ' H' H2 hi ⟨F', env', tp', s', hg⟩ y
    obtain ⟨b1, b2, b3⟩ := s'.bs ⟨F, H1⟩ (List.mem_cons_self ..)
    obtain ⟨e2, w2, d, hd, rx⟩ := hY F' i H' x H2 tp' b3 hi b2 s'.E.wd y
    have hdr : xs.drop i = d :: xs.drop (i + 1) := by
      have hlt : i < xs.length := hi
      rw [List.drop_eq_getElem_cons hlt]
      rw [List.getElem?_eq_getElem hlt] at hd
      rw [Option.some.inj hd]
    rw [hdr] at hg
    unfold forGo at hg
    have s2 := s'.step e2 w2
    cases hb : bindT t d env' with
    | none =>
      rw [hb] at hg
      exact hg.elim
    | some env1 =>
      rw [hb] at hg
      refine ⟨F', ta, ca, env', tp', d, env1, s2.E, rx, hb, fun σ1 _ kp E3 => ⟨F0, H0, ⟨F, H1⟩ :: bs, F', ta, ca, env1, tp', s2.kp kp E3, ?_⟩⟩
      have drop : ∀ {F3 σ3 H3 env3 t3}, SEnv g X.K F0 H0 (⟨F, H1⟩ :: bs) F3 ta ca H3 σ3 env3 t3 → SEnv g X.K F0 H0 bs F3 ta ca H3 σ3 env3 t3 := fun s => ⟨s.E, s.sub, s.hta, s.nw, s.own, s.ext, fun c hc => s.bs c (List.mem_cons_of_mem _ hc)⟩
      cases q : exSs Γ n b env1 tp' with
      | nx e t =>
        simp only [q] at hg
        exact fun F3 σ3 H3 s3 => ⟨F3, e, t, s3, hg⟩
      | ct e t =>
        simp only [q] at hg
        exact fun F3 σ3 H3 s3 => ⟨F3, e, t, s3, hg⟩
      | br e t =>
        simp only [q] at hg
        exact fun F3 σ3 H3 s3 => hg F3 σ3 H3 (drop s3)
      | rt d t =>
        simp only [q] at hg
        exact hg
      | exc c t =>
        simp only [q] at hg
        exact hg
      | bad =>
        simp only [q] at hg
        exact hg.elim
  · rintro σ' H' ⟨F', env', tp', s', hg⟩
    rw [List.drop_length] at hg
    unfold forGo at hg
    exact hg F' σ' H' ⟨s'.E, s'.sub, s'.hta, s'.nw, s'.own, s'.ext, fun c hc => s'.bs c (List.mem_cons_of_mem _ hc)⟩
theorem whl_imp {c : C} {b : Ss} {D : Ends} {σ : L2.St} {H : Hp} (h : rdX g X E Γ n (.whl c b) D σ H) : tWhile (rdT g X.K (WX0 E) Γ c) (rdXs g X E Γ n b) D σ H := by
  obtain ⟨F0, H0, bs, F, ta, ca, env, tp, s, h⟩ := h
  unfold exS at h
  refine ⟨fun m σ H => ∃ F env tp, SEnv g X.K F0 H0 bs F ta ca H σ env tp ∧ HdS g X.K E F0 H0 bs ta ca (whGo (fun env tp => ev Γ .t c env tp) (fun env tp => exSs Γ n b env tp) m env tp) D, ⟨n, F, env, tp, s, h⟩, ?_⟩
  rintro m σ1 H1 ⟨F1, env1, tp1, s1, h1⟩
  cases m with
  | zero => exact h1.elim
  | succ m =>
    unfold whGo at h1
    refine ⟨F1, ta, ca, env1, tp1, s1.E, (HdS.so s1 h1).mono fun d t H2 e2 w2 h => fun kk hk => ?_⟩
    subst hk
    have s2 := s1.step e2 w2
    cases kk with
    | false => exact iteF (h F1 σ1 H2 s2)
    | true =>
      refine iteT ⟨fun σ H => ∃ F env tp, SEnv g X.K F0 H0 bs F ta ca H σ env tp ∧ HdS g X.K E F0 H0 bs ta ca (whGo (fun env tp => ev Γ .t c env tp) (fun env tp => exSs Γ n b env tp) m env tp) D, fun σ' H' z => ⟨m, Nat.lt_succ_self m, z⟩, F0, H0, bs, F1, ta, ca, env1, t, s2, ?_⟩
      have h : HdS g X.K E F0 H0 bs ta ca (match exSs Γ n b env1 t with
      | .nx e t => whGo (fun env tp => ev Γ .t c env tp) (fun env tp => exSs Γ n b env tp) m e t
      | .ct e t => whGo (fun env tp => ev Γ .t c env tp) (fun env tp => exSs Γ n b env tp) m e t
      | .br e t => .nx e t
      | .rt d t => .rt d t
      | .exc c t => .exc c t
      | .bad => .bad) D := h
      cases q : exSs Γ n b env1 t with
      | nx e t =>
        simp only [q] at h
        exact fun F3 σ3 H3 s3 => ⟨F3, e, t, s3, h⟩
      | ct e t =>
        simp only [q] at h
        exact fun F3 σ3 H3 s3 => ⟨F3, e, t, s3, h⟩
      | br e t =>
        simp only [q] at h
        exact h
      | rt d t =>
        simp only [q] at h
        exact h
      | exc c t =>
        simp only [q] at h
        exact h
      | bad =>
        simp only [q] at h
        exact h.elim
end
end Q

set_option Elab.async false
set_option linter.all false
set_option maxRecDepth 100000
namespace Q
open PySem PySem.Spec L2
open PyProof.Rows hiding St
section
variable {g : G} {Γ : Sm} {X : Cx} {N : List Str} {sc : Scope} {k : Nat} {fz : Str → Bool} {E : XK} {n : Nat} {W : WX}
/-- .. where it is a list -/
def rdL (g : G) (K : PySem.W.Frag) (W : WX) (Γ : Sm) (c : C) : TE := fun σ H Q => ∃ F ta ca env tp, EnvOk g K F ta ca H σ env tp ∧ HdG g W F ta ca H σ (ev Γ .v c env tp) fun d _ H' => ∃ ds, d = .list ds ∧ ∀ a vs, ¬ MutK (H a) → H' a = some (.lst vs) → Reps K H' (ins F a) vs ds → Q (.ref a) H'
theorem rdL_of {K : PySem.W.Frag} {c : C} {σ : L2.St} {H : Hp} {Q : VK} (h : rdL g K W Γ c σ H Q) : rdF g K W Γ c σ H Q := by
  obtain ⟨F, ta, ca, env, tp, E, h⟩ := h
  refine ⟨F, ta, ca, env, tp, E, h.mono fun d t1 H1 e1 w1 h => fun a vs ds hd hn ha rs => ?_⟩
  obtain ⟨ds', h1, h2⟩ := h
  rw [hd] at h1
  cases h1
  exact h2 a vs hn ha rs
theorem setL_imp' {i : Nat} {c : C} {D : Ends} {σ : L2.St} {H : Hp} (h : rdX g X E Γ n (.setL i c) D σ H) : tAsg (rdL g X.K (WX0 E) Γ c) (gName i) D σ H := by
  obtain ⟨F0, H0, bs, F, ta, ca, env, tp, s, h⟩ := h
  unfold exS at h
  refine ⟨F, ta, ca, env, tp, s.E, (HdS.so s h).mono fun d t H1 e1 w1 h => ?_⟩
  cases d with
  | list ds => exact ⟨ds, rfl, fun a vs hn ha r => h _ _ H1 (s.setL e1 w1 hn ha r)⟩
  | _ => exact h.elim
theorem fresh_reps {K : PySem.W.Frag} {F : Addr → Prop} {ta : Addr} {H1 : Hp} {p : Addr} {vs : List V} {ds : List PyData} {o : HO} (hp : H1 p = none) (rs : Reps K H1 F vs ds) : Reps K (upd H1 p o) (ins F p) vs ds :=
  (rs.chN (F' := ins F p) fun a z => z.elim .inl fun q => .inr (by rw [q]; exact mut_none hp)).stepX (Ext.new (ta := ta) hp)
theorem e_lstF {as : Cs} {es : List Expr} {pos : Pos} (ha : PA X es (rdEs g X.K W Γ .v as)) : PE X (.List es pos) (rdF g X.K W Γ (.lst as)) := by
  refine PE.imp (pe_lst ha) fun σ H Q h => ?_
  obtain ⟨F, ta, ca, env, tp, E, h⟩ := h
  unfold ev at h
  rw [fin_v] at h
  refine ⟨F, ta, ca, env, tp, E, h.bind.mono fun ds t1 H1 e1 w1 h => fun vs rs => ?_⟩
  have rs : Reps X.K H1 F vs ds := rs
  obtain ⟨z, hz, h⟩ := h.opt
  obtain ⟨hb, rfl⟩ := grd_some hz
  exact ⟨by rw [rs.length]; exact big_le hb, fun p hp => h _ (Ext.new hp) (w1.new hp) p vs ds rfl (mut_back w1 e1 hp) upd_same (fresh_reps (ta := ta) hp rs)⟩
theorem bin_fresh {K : PySem.W.Frag} {F : Addr → Prop} {ta ca : Addr} {H : Hp} {tp : Tp} {o : BO} {x y : V} {d e : PyData} {zs : List PyData} {Q : VK} (h : binD o d e = some (.list zs)) (rx : RepR K H F x d) (ry : RepR K H F y e)
    (q : ∀ p vs, H p = none → Reps K H F vs zs → Q (.ref p) (upd H p (.lst vs))) : rBin K o x y H Q := by
  cases o with
  | add =>
    have h : addD d e = some (.list zs) := h
    unfold addD at h
    split at h
    · cases h
    · obtain ⟨_, h⟩ := grd_some h
      cases h
    · obtain ⟨hb, h⟩ := grd_some h
      cases h
      obtain ⟨a, xs, rfl, ha, sa⟩ := rx.lst_inv
      obtain ⟨b, ys, rfl, hb', sb⟩ := ry.lst_inv
      exact .inr (.inr (.inl ⟨a, b, xs, ys, rfl, rfl, ha, hb', by rw [sa.length, sb.length]; exact big_le hb, fun p hp => q p _ hp (sa.append sb)⟩))
    · obtain ⟨_, h⟩ := grd_some h
      cases h
    · cases h
  | mul =>
    have h : mulD d e = some (.list zs) := h
    unfold mulD at h
    split at h
    · obtain ⟨_, h⟩ := grd_some h
      cases h
    · obtain ⟨_, h⟩ := grd_some h
      cases h
    · obtain ⟨hb, h⟩ := grd_some h
      cases h
      obtain ⟨h1, h2⟩ := band hb
      obtain ⟨a, xs, rfl, ha, sa⟩ := rx.lst_inv
      have := sm62_ok h1
      exact .inr (.inl ⟨a, _, xs, rfl, ry.int_inv, ha, this.1, this.2.1, by rw [sa.length]; exact big_le h2, fun p hp => q p _ hp (sa.rep _)⟩)
    · split at h
      · cases h
      · obtain ⟨_, h⟩ := grd_some h
        cases h
    · cases h
  | sub =>
    have h : subD d e = some (.list zs) := h
    unfold subD at h
    split at h <;> cases h
  | fdiv =>
    have h : fdivD d e = some (.list zs) := h
    unfold fdivD at h
    split at h
    · obtain ⟨_, h⟩ := grd_some h
      cases h
    · cases h
  | mod =>
    have h : modD d e = some (.list zs) := h
    unfold modD at h
    split at h
    · obtain ⟨_, h⟩ := grd_some h
      cases h
    · cases h
  | shl =>
    have h : shlD d e = some (.list zs) := h
    unfold shlD at h
    split at h
    · obtain ⟨_, h⟩ := grd_some h
      cases h
    · cases h
theorem e_binL {o : BO} {a b : C} {ea eb : Expr} {pos : Pos} (ha : PE X ea (rdE g X.K W Γ .r a)) (hb : PE X eb (rdE g X.K W Γ .r b)) : PE X (.BinOp ea (opOf o) eb pos) (rdL g X.K W Γ (.bin o a b)) := by
  refine PE.imp (pe_op (op_bin o) ha hb) fun σ H Q h => ?_
  obtain ⟨F, ta, ca, env, tp, E, h⟩ := h
  unfold ev at h
  rw [fin_v] at h
  refine ⟨F, ta, ca, env, tp, E, h.bind.mono fun d t1 H1 e1 w1 h => fun x rx => ⟨F, ta, ca, env, t1, E.ext e1 w1, h.bind.mono fun d2 t2 H2 e2 w2 h => fun y ry => ?_⟩⟩
  obtain ⟨z, hz, h⟩ := h.opt
  obtain ⟨ds, rfl, _⟩ := h H2 (.refl _ _ _) w2
  refine bin_fresh (F := F) (ta := ta) (ca := ca) (tp := t2) hz (RepR.step w1.nt e2 rx) ry fun p vs hp rs => ?_
  obtain ⟨ds', h1, h2⟩ := h _ (Ext.new hp) (w2.new (o := .lst vs) hp)
  cases h1
  exact h2 p vs (mut_back w2 (e1.trans e2) hp) upd_same (fresh_reps (ta := ta) hp rs)
theorem list_rg {kvs : List (PyData × PyData)} {z : PyData} (h : bltD .list [.dict kvs] = some z) : ∃ n, kvs = [(.none, .int n)] := by
  cases kvs with
  | nil => simp [bltD] at h
  | cons p r =>
    obtain ⟨k, v⟩ := p
    cases r with
    | nil =>
      cases k <;> first | (simp [bltD] at h; done) | skip
      cases v <;> first | (simp [bltD] at h; done) | skip
      exact ⟨_, rfl⟩
    | cons q r => simp [bltD] at h
theorem e_listF {as : Cs} {e : Expr} {es : List Expr} {p pos : Pos} (G : Gd X N sc k) (hg : glB sc "list" = true) (hx : X.mg "list" = none) (ha : PA X (e :: es) (rdEs g X.K W Γ .r as)) (hst : (e :: es).all (fun e => !starB e) = true) :
    PE X (.Call (.Name "list" p) (e :: es) [] pos) (rdF g X.K W Γ (.blt .list as)) := by
  have hs : starB e = false := by
    rw [List.all_cons, Bool.and_eq_true, Bool.not_eq_true'] at hst
    exact hst.1
  have hr : es.all (fun e => !starB e) = true := by
    rw [List.all_cons, Bool.and_eq_true] at hst
    exact hst.2
  refine PE.imp (pe_callTy (op_blt (X := X) .list G.calm G.hu (fun h => nomatch h)) (gl_of G hg) hx (bf_boot .list) ha (bf_name .list).1 (bf_name .list).2 (star_eq hs) (star_none hr)) fun σ H Q h => ?_
  obtain ⟨F, ta, ca, env, tp, E, h⟩ := h
  unfold ev at h
  rw [fin_v] at h
  refine ⟨F, ta, ca, env, tp, E, h.bind.mono fun ds t1 H1 e1 w1 h => fun vs rs => ?_⟩
  obtain ⟨z, hz, h⟩ := h.opt
  have rs : RepRs X.K H1 F vs ds := rs
  have one : ∀ {vs : List V} {d : PyData}, RepRs X.K H1 F vs [d] → ∃ x, vs = [x] ∧ RepR X.K H1 F x d := fun r => by
    cases r with
    | cons r1 rr => cases rr; exact ⟨_, rfl, r1⟩
  obtain ⟨d, hd⟩ : ∃ d, ds = [d] := by
    cases ds with
    | nil => cases hz
    | cons d r =>
      cases r with
      | nil => exact ⟨d, rfl⟩
      | cons d2 r => cases d <;> first | cases hz | (rename_i kvs; exact absurd hz (fun z => by simp [bltD] at z))
  subst hd
  obtain ⟨x, rfl, rx⟩ := one rs
  cases d with
  | list xs =>
    obtain ⟨a, us, rfl, ha, sa⟩ := rx.lst_inv
    have hz : some (PyData.list xs) = some z := hz
    cases hz
    exact .inl ⟨a, us, rfl, .inl (SqL.ofL ha), fun l hl => h _ (Ext.new hl) (w1.new hl) l us xs rfl (mut_back w1 e1 hl) upd_same (fresh_reps (ta := ta) hl sa)⟩
  | tuple xs =>
    obtain ⟨a, us, rfl, ha, sa⟩ := rx.tup_inv.tup_inv
    have hz : some (PyData.list xs) = some z := hz
    cases hz
    exact .inl ⟨a, us, rfl, .inr ha, fun l hl => h _ (Ext.new hl) (w1.new hl) l us xs rfl (mut_back w1 e1 hl) upd_same (fresh_reps (ta := ta) hl sa)⟩
  | dict kvs =>
    obtain ⟨n, rfl⟩ := list_rg hz
    obtain ⟨hb, rfl⟩ := grd_some (show grd (sm62 n && big n.toNat) (PyData.list (rngGo 0 0 n.toNat)) = some z from hz)
    obtain ⟨a, rfl, ha⟩ := rx.rg_inv
    have s62 := sm62_ok (band hb).1
    have hb2 := big_le (band hb).2
    exact .inr ⟨a, _, rfl, ha, ⟨by omega, by omega, s62.2.2.1, s62.2.2.2, by rw [Int.sub_zero]; have : sizeLine = 16777216 := rfl; omega⟩, fun l hl => h _ (Ext.new hl) (w1.new hl) l _ _ rfl (mut_back w1 e1 hl) upd_same (fresh_reps (ta := ta) hl (reps_rg n))⟩
  | _ => cases hz
end
end Q

set_option Elab.async false
set_option linter.all false
set_option maxRecDepth 100000
namespace Q
open PySem PySem.Spec L2
open PyProof.Rows hiding St
def tfName : TF → Str
  | .cells => Str.ofString "cells" | .at => Str.ofString "at" | .left => Str.ofString "left" | .seed => Str.ofString "seed" | .salt => Str.ofString "salt"
def tfIx : TF → Nat
  | .cells => 0 | .at => 1 | .left => 2 | .seed => 3 | .salt => 4
theorem tf_ne : ∀ f h : TF, f ≠ h → tfName f ≠ tfName h := by
  intro f h n
  cases f <;> cases h <;> first | exact absurd rfl n | decide +kernel
def tfV (ca : Addr) (tp : Tp) : TF → V
  | .cells => .ref ca | .at => .int (tp.pos : Nat) | .left => .int tp.left | .seed => .int tp.seed | .salt => .int tp.salt
theorem tapeK_eq (ca : Addr) (tp : Tp) : tapeK ca tp = [(Sum.inr (tfName .cells), tfV ca tp .cells), (Sum.inr (tfName .at), tfV ca tp .at), (Sum.inr (tfName .left), tfV ca tp .left), (Sum.inr (tfName .seed), tfV ca tp .seed), (Sum.inr (tfName .salt), tfV ca tp .salt)] := rfl
theorem dec_same {k : L2.Key} : decide (k = k) = true := decide_eq_true rfl
theorem dec_ne {f h : TF} (n : f ≠ h) : decide ((Sum.inr (tfName f) : L2.Key) = Sum.inr (tfName h)) = false := decide_eq_false fun e => tf_ne f h n (Sum.inr.inj e)
theorem tape_get {ca : Addr} {tp : Tp} (f : TF) : valV (tapeK ca tp) (Sum.inr (tfName f)) = some (tfV ca tp f) := by
  rw [tapeK_eq]
  unfold valV
  cases f <;> simp only [List.find?_cons, dec_same, decide_true, dec_ne (show TF.cells ≠ TF.at from nofun), dec_ne (show TF.cells ≠ TF.left from nofun), dec_ne (show TF.cells ≠ TF.seed from nofun), dec_ne (show TF.cells ≠ TF.salt from nofun),
    dec_ne (show TF.at ≠ TF.left from nofun), dec_ne (show TF.at ≠ TF.seed from nofun), dec_ne (show TF.at ≠ TF.salt from nofun), dec_ne (show TF.left ≠ TF.seed from nofun), dec_ne (show TF.left ≠ TF.salt from nofun), dec_ne (show TF.seed ≠ TF.salt from nofun), Option.map_some]
theorem ifk_same {k : L2.Key} {α : Type} {a b : α} : (if k = k then a else b) = a := if_pos rfl
theorem ifk_ne {f h : TF} {α : Type} {a b : α} (n : f ≠ h) : (if (Sum.inr (tfName f) : L2.Key) = Sum.inr (tfName h) then a else b) = b := if_neg fun e => tf_ne f h n (Sum.inr.inj e)
theorem tape_put {ca : Addr} {tp tp' : Tp} {f : TF} (hf : f ≠ .cells) (hs : ∀ h, h ≠ f → tfV ca tp' h = tfV ca tp h) : putK (tapeK ca tp) (Sum.inr (tfName f)) (tfV ca tp' f) = tapeK ca tp' := by
  rw [tapeK_eq, tapeK_eq]
  unfold putK
  have hany : (List.any [(Sum.inr (tfName .cells), tfV ca tp .cells), (Sum.inr (tfName .at), tfV ca tp .at), (Sum.inr (tfName .left), tfV ca tp .left), (Sum.inr (tfName .seed), tfV ca tp .seed), (Sum.inr (tfName .salt), tfV ca tp .salt)] fun kv => decide (kv.1 = (Sum.inr (tfName f) : L2.Key))) = true := by
    rw [List.any_eq_true]
    refine ⟨(Sum.inr (tfName f), tfV ca tp f), ?_, decide_eq_true rfl⟩
    cases f <;> simp
  rw [if_pos hany]
  cases f with
  | cells => exact absurd rfl hf
  | «at» =>
    rw [hs .cells nofun, hs .left nofun, hs .seed nofun, hs .salt nofun]
    simp only [List.map_cons, List.map_nil, ifk_same, if_true, ifk_ne (show TF.cells ≠ TF.at from nofun), ifk_ne (show TF.left ≠ TF.at from nofun), ifk_ne (show TF.seed ≠ TF.at from nofun), ifk_ne (show TF.salt ≠ TF.at from nofun)]
  | left =>
    rw [hs .cells nofun, hs .at nofun, hs .seed nofun, hs .salt nofun]
    simp only [List.map_cons, List.map_nil, ifk_same, if_true, ifk_ne (show TF.cells ≠ TF.left from nofun), ifk_ne (show TF.at ≠ TF.left from nofun), ifk_ne (show TF.seed ≠ TF.left from nofun), ifk_ne (show TF.salt ≠ TF.left from nofun)]
  | seed =>
    rw [hs .cells nofun, hs .at nofun, hs .left nofun, hs .salt nofun]
    simp only [List.map_cons, List.map_nil, ifk_same, if_true, ifk_ne (show TF.cells ≠ TF.seed from nofun), ifk_ne (show TF.at ≠ TF.seed from nofun), ifk_ne (show TF.left ≠ TF.seed from nofun), ifk_ne (show TF.salt ≠ TF.seed from nofun)]
  | salt =>
    rw [hs .cells nofun, hs .at nofun, hs .left nofun, hs .seed nofun]
    simp only [List.map_cons, List.map_nil, ifk_same, if_true, ifk_ne (show TF.cells ≠ TF.salt from nofun), ifk_ne (show TF.at ≠ TF.salt from nofun), ifk_ne (show TF.left ≠ TF.salt from nofun), ifk_ne (show TF.seed ≠ TF.salt from nofun)]
theorem tapeP_ok {ca : Addr} {f : TF} {d : PyData} {tp tp' : Tp} (h : tapeP f d tp = some tp') : f ≠ .cells ∧ (∀ h, h ≠ f → tfV ca tp' h = tfV ca tp h) ∧ tp'.cells = tp.cells ∧ ∀ K H F v, Rep K H F v d → v = tfV ca tp' f := by
  unfold tapeP at h
  split at h <;> first | (cases h; done) | skip
  all_goals
    cases h
    refine ⟨nofun, fun h n => ?_, rfl, fun K H F v r => ?_⟩
    · cases h <;> first | rfl | exact absurd rfl n
    · cases r
      rfl
section
variable {g : G} {W : WX} {Γ : Sm} {X : Cx} {N : List Str} {sc : Scope} {k n : Nat} {m : M} {E : XK}
theorem tape_ext {ta ca : Addr} {H : Hp} {tp : Tp} {kvs2 : List (L2.Key × V)} (h : H ta = some (.dK (tapeK ca tp))) : Ext ta H (upd H ta (.dK kvs2)) := fun b o _ e f => by
  by_cases q : b = ta
  · subst q
    rw [h] at e
    cases e
    exact f.elim (fun z => absurd rfl z) fun z => absurd rfl z
  · rw [upd_ne q]
    exact e
theorem World.tput {F : Addr → Prop} {ta ca : Addr} {H : Hp} {tp tp' : Tp} (w : World g F ta ca H tp) (hc : tp'.cells = tp.cells) : World g F ta ca (upd H ta (.dK (tapeK ca tp'))) tp' := by
  refine ⟨fun a z => ?_, w.hta, upd_same, w.nca, ?_, g.TS (ta := ta) w.hta w.trk (fun b u _ e n => by rw [upd_ne n]; exact e) w.tabs⟩
  · by_cases q : a = ta
    · subst q
      rw [upd_same]
      exact True.intro
    · rw [upd_ne q]
      exact w.trk a z
  · rw [upd_ne fun q => w.nca (by rw [q]; exact w.hta), hc]
    exact w.cells
theorem const_nosl {c : Const} {j : Nat} {p : Pos} : NoSl (.Constant c j p) := fun _ _ => rfl
theorem e_tg {i : Nat} {f : TF} {x : Str} {j : Nat} {p p2 pos : Pos} (G : Gd X N sc k) (hm : m ≠ .t) (hi : N[i]? = some x) (hv : visB sc x = true) (hn : nameB x = true) : PE X (.Subscript (.Name x p) (.Constant (.str (tfName f)) j p2) pos) (rdE g X.K W Γ m (.tg i f)) := by
  unfold nameB at hn
  simp only [Bool.and_eq_true, Bool.not_eq_true'] at hn
  refine PE.imp (pe_dget (by have := G.hu; omega) (pe_var (by rw [G.hN]; exact hi) (vis_of G hv) hn.1.1 hn.1.2) pe_str const_nosl) fun σ H Q h => ?_
  obtain ⟨F, ta, ca, env, tp, E, h⟩ := h
  unfold ev at h
  rw [fin_ne hm] at h
  have s := E.slot i
  cases q : getB env i with
  | tape =>
    rw [q] at h s
    refine ⟨.ref ta, s, ta, tfV ca tp f, rfl, .inl ⟨_, Sum.inr (tfName f), .inl E.wd.tape, rfl, (tape_get f).symm⟩, h.now E.wd _ (.of ?_)⟩
    cases f with
    | cells => exact .lst E.wd.cells E.wd.nca (Reps.ofInts _)
    | «at» => exact .int _
    | left => exact .int _
    | seed => exact .int _
    | salt => exact .int _
  | _ => rw [q] at h; exact h.elim
theorem tput_imp {i : Nat} {f : TF} {c : C} {D : Ends} {σ : L2.St} {H : Hp} (h : rdX g X E Γ n (.tput i f c) D σ H) : sDPut (tVar i) (tC (.str (tfName f))) (rdE g X.K (WX0 E) Γ .v c) D σ H := by
  obtain ⟨F0, H0, bs, F, ta, ca, env, tp, s, h⟩ := h
  unfold exS at h
  have sl := s.E.slot i
  cases q : getB env i with
  | tape =>
    rw [q] at h sl
    refine ⟨F, ta, ca, env, tp, s.E, (HdS.so s h).mono fun d t H1 e1 w1 h => fun v r => ?_⟩
    have s1 := s.step e1 w1
    cases hp : tapeP f d t with
    | none =>
      rw [hp] at h
      exact h.elim
    | some t' =>
      rw [hp] at h
      obtain ⟨p1, p2, p3, p4⟩ := tapeP_ok (ca := ca) hp
      have hv := p4 _ _ _ _ r
      subst hv
      refine ⟨.ref ta, sl, ta, upd H1 ta (.dK (tapeK ca t')), rfl, .inl ⟨tapeK ca t, Sum.inr (tfName f), w1.tape, rfl, (by decide : 5 < sizeLine), by rw [tape_put p1 p2]⟩, ?_⟩
      exact h F σ _ (s1.step (tape_ext w1.tape) (w1.tput p3))
  | _ => rw [q] at h; exact h.elim
end
end Q

set_option Elab.async false
set_option linter.all false
set_option maxRecDepth 100000
namespace Q
open PySem PySem.Spec L2
open PyProof.Rows hiding St
/-! ### enumerate and zip over lists and tuples -/
/-- a source: a list (true), a tuple (false) -/
def SqB (K : PySem.W.Frag) (H : Hp) (a : Addr) (xs : List V) : Bool → Prop
  | true => SqL K H a xs
  | false => SqT K H a xs
def ItrB (h : Heap) (it a : Addr) (i : Nat) : Bool → Prop
  | true => h.IsListIter it a i
  | false => h.IsTupleIter it a i
def ObB (h : Heap) (a : Addr) (its : Array Value) : Bool → Prop
  | true => h.IsList a its
  | false => h.IsTuple a its
def itrO (a : Addr) : Bool → Obj
  | true => { cls := .type "list_iterator", data := .fields #[.ref a, .int 0 0] }
  | false => { cls := .type "tuple_iterator", data := .fields #[.ref a, .int 0 0] }
section
variable {X : Cx} {pins : List (Addr × Obj)} {σ : L2.St} {H : Hp} {s : Shared} {a : Addr} {xs ys : List V} {b : Bool} {h h' : Heap} {it : Addr} {i : Nat} {its : Array Value}
theorem sq_src (I : Inv X pins σ H s) (h : SqB X.K H a xs b) : ∃ its : List Value, Vals xs its ∧ ObB s.heap a its.toArray b ∧ xs.length ≤ sizeLine := by
  cases b with
  | true =>
    obtain ⟨its, r, p, z⟩ := I.list h
    exact ⟨its, r, p.isList, z⟩
  | false =>
    obtain ⟨its, r, p, z⟩ := I.tuple h
    exact ⟨its, r, (show s.heap.IsTuple a its.toArray from p), z⟩
theorem sq_inj (I : Inv X pins σ H s) (h : SqB X.K H a xs b) (h' : SqB X.K H a ys b) : xs = ys := by
  cases b with
  | true => exact I.list_inj h h'
  | false => exact I.tuple_inj h h'
theorem ItrB.obj (q : ItrB h it a i b) : ∃ o, h.get? it = some o ∧ ∀ v, o.data ≠ .cell v := by
  cases b with
  | true =>
    obtain ⟨o, e, c, d⟩ := q
    exact ⟨o, e, fun v z => by rw [d] at z; cases z⟩
  | false =>
    obtain ⟨o, e, c, d⟩ := q
    exact ⟨o, e, fun v z => by rw [d] at z; cases z⟩
theorem ItrB.at (q : ItrB h it a i b) (k : ∀ o, h.get? it = some o → h'.get? it = some o) : ItrB h' it a i b := by
  cases b with
  | true =>
    have q : h.IsListIter it a i := q
    exact (show h'.IsListIter it a i from Heap.IsListIter.at q k)
  | false =>
    have q : h.IsTupleIter it a i := q
    exact (show h'.IsTupleIter it a i from Heap.IsTupleIter.at q k)
theorem ObB.lt (q : ObB h a its b) : a < h.objs.size := by
  cases b with
  | true =>
    obtain ⟨o, e, _⟩ := q
    exact Heap.lt_size e
  | false =>
    obtain ⟨o, e, _⟩ := q
    exact Heap.lt_size e
theorem ItrB.new (e : h.get? it = some (itrO a b)) : ItrB h it a 0 b := by
  cases b with
  | true => exact ⟨_, e, rfl, rfl⟩
  | false => exact ⟨_, e, rfl, rfl⟩
end
theorem draws_src {prog : Program} {w : PySem.World} {A : Around} (hh : A.handled = none) (it a : Addr) (hne : a ≠ it) (its : Array Value) : ∀ b : Bool,
    Draws prog w A it [it, a] its.size (fun i v => its[i]? = some v) (fun i h => ItrB h it a i b ∧ ObB h a its b)
  | true => Draws.list hh it a hne its
  | false => Draws.tuple hh it a hne its
theorem begins_src (a : Addr) (its : Array Value) : ∀ b : Bool, Begins (.ref a) (itrO a b) fun h => ObB h a its b
  | true => begins_list a its
  | false => begins_tuple a its
/-- each item of a list or tuple in a new pair -/
def ItE (K : PySem.W.Frag) (a : Addr) (b : Bool) : It :=
  ⟨fun i H => ∃ (xs : List V) (x : V), SqB K H a xs b ∧ xs[i]? = some x, fun i H v H' => ∃ T x, v = .ref T ∧ H T = none ∧ H' = upd H T (.tup [.int (i : Nat), x]) ∧ ∀ xs, SqB K H a xs b → xs[i]? = some x, fun i H => ∃ xs : List V, SqB K H a xs b ∧ xs.length = i⟩
theorem turn_en {P : Program} {w : PySem.World} {K : PySem.W.Frag} {elts : List Expr} {kk : Nat} {tpos : Pos} (a e it : Addr) (b : Bool) (hei : e ≠ it) (hae : a ≠ e) (hai : a ≠ it) :
    Turn P w K (.Tuple elts kk tpos) (ItE K a b) [e, it] e (fun i h => (∃ old, IsEnum h e it ((i : Nat) : Int) old) ∧ ItrB h it a i b) where
  mem := by simp
  obj := fun i h st c hc => by
    obtain ⟨⟨old, he⟩, hi⟩ := st
    have e' : c = e ∨ c = it := by simpa using hc
    rcases e' with z | z
    · rw [z]; exact ⟨_, he, fun v q => nomatch q⟩
    · rw [z]; exact hi.obj
  keep := fun i h h' st k => let ⟨⟨old, he⟩, hi⟩ := st; ⟨⟨old, k e (by simp) _ he⟩, hi.at fun o q => k it (by simp) o q⟩
  item := by
    intro X hP hw hK hc i pins s σ H E I hf st hg
    subst hP hw hK
    obtain ⟨⟨old, he⟩, hit⟩ := st
    obtain ⟨xs, x, hq, hx⟩ := hg
    obtain ⟨its, rv, p, hz⟩ := sq_src I hq
    obtain ⟨u, hu, ru⟩ := rv.get hx
    have hel : e < s.heap.objs.size := Heap.lt_size he
    have hil : it < s.heap.objs.size := by obtain ⟨_, q, _⟩ := hit.obj; exact Heap.lt_size q
    have hlt : i < its.toArray.size := by
      rw [List.size_toArray]
      exact (List.getElem?_eq_some_iff.mp hu).1
    refine wpAny_pyNext_enum_itemD (draws_src (prog := X.prog) (w := X.w) (A := X.A.in1) (I.ok.hd hc) it a hai its.toArray b) he ⟨hit, p⟩ hlt hei (by simp [hei, Ne.symm hae]) fun u' h' tk hu' ho hst hT hsz hk => ?_
    have hu' : its.toArray[i]? = some u' := hu'
    have eu : u' = u := by
      have : its[i]? = some u' := by simpa using hu'
      rw [hu] at this
      exact (Option.some.inj this).symm
    subst eu
    refine ⟨_, rfl, wpAny_letOwnedTupleGo_enum (s := { s with heap := h', toks := tk + 1 }) ho fun h'' he' sb => ?_⟩
    have hT2 : h''.get? s.heap.objs.size = some { cls := .type "tuple", data := .seq #[.int i tk, u'] } := (sb.2 _ (Nat.ne_of_gt hel)).trans hT
    have new : ObjOk X.prog X.w (upd H s.heap.objs.size (.tup [.int (i : Nat), x])) h'' s.heap.objs.size (.tup [.int (i : Nat), x]) :=
      ⟨by show 2 ≤ sizeLine; decide, [.int i tk, u'], .cons ⟨_, rfl⟩ (.cons ru .nil), ⟨_, hT2, rfl, _, rfl⟩⟩
    have I1 : Inv X pins σ (upd H s.heap.objs.size (.tup [.int (i : Nat), x])) { s with heap := h'', toks := tk + 1 } :=
      I.turnedNew (ch := [e, it]) (fun c ob hb q => (sb.2 c (fun z => hb (by simp [z]))).trans (hk c ob (fun z => hb (by simp [z])) (fun z => hb (by simp [z])) q)) hf (Nat.le_refl _) new
    refine ⟨.ref s.heap.objs.size, _, I1, rfl, ⟨_, x, rfl, I.hok.fresh (Nat.le_refl _), rfl, fun ys hy => by rw [sq_inj I hy hq]; exact hx⟩, ⟨⟨u', ?_⟩, hst.1.at fun o q => (sb.2 it (Ne.symm hei)).trans q⟩, fun c hb => ?_⟩
    · have e1 : ((i + 1 : Nat) : Int) = (i : Int) + 1 := by omega
      rw [e1]; exact he'
    · have hb' : c < s.heap.objs.size := by
        have e' : c = e ∨ c = it := by simpa using hb
        rcases e' with z | z
        · rw [z]; exact hel
        · rw [z]; exact hil
      rw [upd_ne (Nat.ne_of_lt hb')]
      exact (hf c hb).1
  done := by
    intro X hP hw hK hc i pins s σ H E I hf st hg
    subst hP hw hK
    obtain ⟨⟨old, he⟩, hit⟩ := st
    obtain ⟨xs, hq, hx⟩ := hg
    obtain ⟨its, rv, p, hz⟩ := sq_src I hq
    obtain ⟨f0, f1, f2, f3, f4, f5⟩ := hf it (by simp)
    have hl := rv.length
    have hi : its.toArray.size = i := by
      rw [List.size_toArray]
      omega
    exact wpAny_pyNext_enum_endD (draws_src (prog := X.prog) (w := X.w) (A := X.A.in1) (I.ok.hd hc) it a hai its.toArray b) he ⟨by rw [hi]; exact hit, p⟩ fun h' eb => ⟨rfl, I.turned (t' := s.toks) (fun c o hb q => eb c o hb q) f0 f1 f3 f4 f5⟩
  self := fun A i s Q E st h => let ⟨⟨_, he⟩, _⟩ := st; wpAny_pyIter_enum he h
set_option maxHeartbeats 1000000 in
theorem meets_enum1 {v : Value} {o : Obj} {H : Heap → Prop} (B : Begins v o H) :
    Meets (Builtin.«enumerate.__new__» ⟨[.type "enumerate", v], []⟩) (fun _ R s => H s.heap ∧
      R (.ok (.ret (.ref (s.heap.push o).objs.size))) { s with heap := (s.heap.push o).push { cls := .type "enumerate", data := .fields #[.none, .bool false, .ref s.heap.objs.size, rawInt 0, .none, .none] } }) :=
  .of_wp fun prog w A R s h => by
    obtain ⟨hp, g, d, tk, os⟩ := s; obtain ⟨h1, h⟩ := h
    have hsub := sub_enumerate
    have q1 : ∀ {A' : Around} {E : Value → Shared → Prop} {Q : Value → Shared → Prop}, Q (.ref hp.objs.size) ⟨hp.push o, g, d, tk, os⟩ → wpAny (model prog w) A' (pyIter v) Q E ⟨hp, g, d, tk, os⟩ :=
      fun q => B.iter prog w _ _ ⟨hp, g, d, tk, os⟩ _ h1 q
    wp_walk using q1
    refine wpAny_stack_any fun st => wpAny_pure ?_
    split
    · rename_i c _ _ _ _ _
      cases (c == Value.type "enumerate")
      · wp_walk using q1
        exact ⟨_, rfl, h⟩
      · wp_walk using q1
        exact ⟨_, rfl, h⟩
    · wp_walk using q1
      exact ⟨_, rfl, h⟩
theorem enum_begins1 {prog : Program} {w : PySem.World} {A : Around} {E : Value → Shared → Prop} {s : Shared} {v : Value} {o : Obj} {H : Heap → Prop} {Q : Value → Shared → Prop} (B : Begins v o H) (h1 : H s.heap)
    (h : ∀ h', IsEnum h' (s.heap.objs.size + 1) s.heap.objs.size 0 .none → h'.get? s.heap.objs.size = some o → h'.objs.size = s.heap.objs.size + 2 →
      (∀ b o, s.heap.get? b = some o → h'.get? b = some o) → Q (.ref (s.heap.objs.size + 1)) { s with heap := h' }) :
    wpAny (model prog w) A (call (.type "enumerate") [v]) Q E s := by
  refine callType_new F.called_enumerate (by decide) (F.typeCall_enumerate_1 _) (F.newCall_enumerate_1 _) (fun obj => F.args_object_init_2 obj _) F.entry_enumerate_new
    (meets_enum1 B) ⟨h1, ?_⟩
  have hz : (s.heap.push o).objs.size = s.heap.objs.size + 1 := Heap.size_push ..
  show _ ∧ _
  rw [hz]
  have he : IsEnum ((s.heap.push o).push { cls := .type "enumerate", data := .fields #[.none, .bool false, .ref s.heap.objs.size, rawInt 0, .none, .none] }) (s.heap.objs.size + 1) s.heap.objs.size 0 .none := by
    have := Heap.get?_push_size (s.heap.push o) (o := { cls := .type "enumerate", data := .fields #[.none, .bool false, .ref s.heap.objs.size, rawInt 0, .none, .none] }) rfl
    rw [hz] at this; exact this
  refine ⟨⟨_, he, rfl⟩, h _ he (Heap.get?_push_of_some _ (Heap.get?_push_size _ B.free)) (by rw [Heap.size_push, hz]) fun b o x => Heap.get?_push_of_some _ (Heap.get?_push_of_some _ x)⟩
def iEn (K : PySem.W.Frag) (ta : TA) : TI := fun σ H R => ta σ H fun vs H1 => ∃ a xs b, vs = [.ref a] ∧ SqB K H1 a xs b ∧ R (ItE K a b) H1
theorem pi_en {X : Cx} {e : Expr} {ta : TA} {p pos tpos : Pos} {elts : List Expr} {kk : Nat} (hg : Gl X "enumerate") (hm : X.mg "enumerate" = none) (ha : PA X [e] ta) (hs : starEach [e] X.env = [(false, eval e X.env)] := by rfl) :
    PI X (.Tuple elts kk tpos) (.Call (.Name "enumerate" p) [e] [] pos) (iEn X.K ta) := by
  refine ⟨fun pins s σ H R I h => ?_⟩
  refine Call_ (ld_blt I hg hm boot_enumerate (PyProof.Rows.callWith_type1 (thn (ha.run pos pins s σ H _ I h) fun us s1 ⟨vs, H1, I1, r1, q1⟩ => ?_) hs rfl))
  obtain ⟨a, xs, b, ex, hq, q⟩ := q1
  subst ex
  cases r1 with
  | cons r rr =>
    cases rr
    cases r
    obtain ⟨its, rv, p', hz⟩ := sq_src I1 hq
    have la := p'.lt
    refine enum_begins1 (begins_src a its.toArray b) p' fun h' he hit hsz hk => wpAny_pyIter_enum he ?_
    have I2 : Inv X pins σ H1 { s1 with heap := h' } := I1.kept (t' := s1.toks) hk
    refine ⟨s1.heap.objs.size + 1, [s1.heap.objs.size + 1, s1.heap.objs.size], _, _, H1, rfl, I2, turn_en a (s1.heap.objs.size + 1) s1.heap.objs.size b (Nat.succ_ne_self _) (Nat.ne_of_lt (Nat.lt_succ_of_lt la)) (Nat.ne_of_lt la), ⟨⟨.none, he⟩, ItrB.new hit⟩, fun b hb => ?_, q⟩
    have e' : b = s1.heap.objs.size + 1 ∨ b = s1.heap.objs.size := by simpa using hb
    have hle : s1.heap.objs.size ≤ b := by
      rcases e' with z | z
      · rw [z]; exact Nat.le_add_right _ _
      · rw [z]; exact Nat.le_refl _
    exact I1.fpOk hle (I1.hok.fresh hle)
/-- zip of two -/
def ItZ (K : PySem.W.Frag) (a b : Addr) (ka kb : Bool) : It :=
  ⟨fun i H => ∃ (xs ys : List V) (x y : V), SqB K H a xs ka ∧ SqB K H b ys kb ∧ xs[i]? = some x ∧ ys[i]? = some y,
    fun i H v H' => ∃ T x y, v = .ref T ∧ H T = none ∧ H' = upd H T (.tup [x, y]) ∧ (∀ xs, SqB K H a xs ka → xs[i]? = some x) ∧ ∀ ys, SqB K H b ys kb → ys[i]? = some y,
    fun i H => ∃ xs ys : List V, SqB K H a xs ka ∧ SqB K H b ys kb ∧ i = min xs.length ys.length⟩
theorem turn_zp {P : Program} {w : PySem.World} {K : PySem.W.Frag} {elts : List Expr} {kk : Nat} {tpos : Pos} {a b z TI TO i1 i2 : Addr} {ka kb : Bool} (D : ZipSep2 z TI TO i1 i2 [i1, a] [i2, b]) (h1a : a ≠ i1) (h2b : b ≠ i2) (d2 : i1 ≠ z) (d3 : i2 ≠ z) (d4 : i1 ≠ TO) (d5 : i2 ≠ TO) :
    Turn P w K (.Tuple elts kk tpos) (ItZ K a b ka kb) [z, TI, TO, i1, i2] z (fun i h => IsZip h z TI TO .none ∧ IsTupOf2 h TI (.ref i1) (.ref i2) ∧ (∃ x y, IsTupOf2 h TO x y) ∧ ItrB h i1 a i ka ∧ ItrB h i2 b i kb) where
  mem := by simp
  obj := fun i h st c hc => by
    obtain ⟨hz, hTI, ⟨x, y, hTO⟩, h1, h2⟩ := st
    have e' : c = z ∨ c = TI ∨ c = TO ∨ c = i1 ∨ c = i2 := by simpa using hc
    rcases e' with q | q | q | q | q
    · rw [q]; exact ⟨_, hz, fun v q => nomatch q⟩
    · rw [q]; exact ⟨_, hTI, fun v q => nomatch q⟩
    · rw [q]; exact ⟨_, hTO, fun v q => nomatch q⟩
    · rw [q]; exact h1.obj
    · rw [q]; exact h2.obj
  keep := fun i h h' st k => by
    obtain ⟨hz, hTI, ⟨x, y, hTO⟩, h1, h2⟩ := st
    exact ⟨k z (by simp) _ hz, k TI (by simp) _ hTI, ⟨x, y, k TO (by simp) _ hTO⟩, h1.at fun o q => k i1 (by simp) o q, h2.at fun o q => k i2 (by simp) o q⟩
  item := by
    intro X hP hw hK hc i pins s σ H E I hf st hg
    subst hP hw hK
    obtain ⟨hz, hTI, ⟨x0, y0, hTO⟩, h1, h2⟩ := st
    obtain ⟨xs, ys, x, y, hqx, hqy, hx, hy⟩ := hg
    obtain ⟨its, rv, p, _⟩ := sq_src I hqx
    obtain ⟨its2, rv2, p2, _⟩ := sq_src I hqy
    obtain ⟨u, hu, ru⟩ := rv.get hx
    obtain ⟨u2, hu2, ru2⟩ := rv2.get hy
    have hzl : z < s.heap.objs.size := Heap.lt_size hz
    have hlt1 : i < its.toArray.size := by
      rw [List.size_toArray]
      exact (List.getElem?_eq_some_iff.mp hu).1
    have hlt2 : i < its2.toArray.size := by
      rw [List.size_toArray]
      exact (List.getElem?_eq_some_iff.mp hu2).1
    refine wpAny_pyNext_zipD2_item D (draws_src (prog := X.prog) (w := X.w) (A := X.A.in1) (I.ok.hd hc) i1 a h1a its.toArray ka) (draws_src (prog := X.prog) (w := X.w) (A := X.A.in1) (I.ok.hd hc) i2 b h2b its2.toArray kb) hz hTI hTO ⟨h1, p⟩ ⟨h2, p2⟩ hlt1 hlt2 fun v1 v2 h' tk e1 e2 z' TO' st1 st2 hT hsz hk => ?_
    have ev1 : v1 = u := by
      have : its[i]? = some v1 := by simpa using e1
      rw [hu] at this
      exact (Option.some.inj this).symm
    have ev2 : v2 = u2 := by
      have : its2[i]? = some v2 := by simpa using e2
      rw [hu2] at this
      exact (Option.some.inj this).symm
    subst ev1 ev2
    refine ⟨_, rfl, wpAny_letOwnedTupleGo_zip (s := { s with heap := h', toks := tk }) z' fun h'' z'' sb => ?_⟩
    have hT2 : h''.get? s.heap.objs.size = some { cls := .type "tuple", data := .seq #[v1, v2] } := (sb.2 _ (Nat.ne_of_gt hzl)).trans hT
    have new : ObjOk X.prog X.w (upd H s.heap.objs.size (.tup [x, y])) h'' s.heap.objs.size (.tup [x, y]) :=
      ⟨by show 2 ≤ sizeLine; decide, [v1, v2], .cons ru (.cons ru2 .nil), ⟨_, hT2, rfl, _, rfl⟩⟩
    have I1 : Inv X pins σ (upd H s.heap.objs.size (.tup [x, y])) { s with heap := h'', toks := tk } :=
      I.turnedNew (t' := tk) (ch := [z, TI, TO, i1, i2]) (fun c o hb q => (sb.2 c (fun q' => hb (by simp [q']))).trans (hk c o (fun q' => hb (by simp [q'])) (fun q' => hb (by simp [q'])) (fun q' => hb (by simp [q'])) (fun q' => hb (by simp [q'])) q)) hf (Nat.le_refl _) new
    refine ⟨.ref s.heap.objs.size, _, I1, rfl, ⟨_, x, y, rfl, I.hok.fresh (Nat.le_refl _), rfl, fun l hl => by rw [sq_inj I hl hqx]; exact hx, fun l hl => by rw [sq_inj I hl hqy]; exact hy⟩, ⟨z'', ?_, ⟨v1, v2, ?_⟩, ?_, ?_⟩, fun c hcm => ?_⟩
    · exact (sb.2 _ D.TIz).trans (hk _ _ D.TIz D.TITO D.TIi1 D.TIi2 hTI)
    · exact (sb.2 _ D.TOz).trans TO'
    · exact st1.1.at fun o q => (sb.2 _ d2).trans q
    · exact st2.1.at fun o q => (sb.2 _ d3).trans q
    · have hlt : c < s.heap.objs.size := by
        have e' : c = z ∨ c = TI ∨ c = TO ∨ c = i1 ∨ c = i2 := by simpa using hcm
        rcases e' with q | q | q | q | q
        · rw [q]; exact hzl
        · rw [q]; exact Heap.lt_size hTI
        · rw [q]; exact Heap.lt_size hTO
        · rw [q]; obtain ⟨_, e1, _⟩ := h1.obj; exact Heap.lt_size e1
        · rw [q]; obtain ⟨_, e2, _⟩ := h2.obj; exact Heap.lt_size e2
      rw [upd_ne (Nat.ne_of_lt hlt)]
      exact (hf c hcm).1
  done := by
    intro X hP hw hK hc i pins s σ H E I hf st hg
    subst hP hw hK
    obtain ⟨hz, hTI, ⟨x0, y0, hTO⟩, h1, h2⟩ := st
    obtain ⟨xs, ys, hqx, hqy, hend⟩ := hg
    obtain ⟨its, rv, p, _⟩ := sq_src I hqx
    obtain ⟨its2, rv2, p2, _⟩ := sq_src I hqy
    have l1 := rv.length
    have l2 := rv2.length
    have n1 : i ≤ its.toArray.size := by rw [List.size_toArray]; omega
    have n2 : i ≤ its2.toArray.size := by rw [List.size_toArray]; omega
    have he : i = its.toArray.size ∨ i = its2.toArray.size := by
      rw [List.size_toArray, List.size_toArray]
      omega
    refine wpAny_pyNext_zipD2_end D (draws_src (prog := X.prog) (w := X.w) (A := X.A.in1) (I.ok.hd hc) i1 a h1a its.toArray ka) (draws_src (prog := X.prog) (w := X.w) (A := X.A.in1) (I.ok.hd hc) i2 b h2b its2.toArray kb) hz hTI hTO ⟨h1, p⟩ ⟨h2, p2⟩ n1 n2 he fun h' tk hk => ⟨rfl, I.turnedL (t' := tk) (ch := [z, TI, TO, i1, i2]) (fun c o hb q =>
      hk c o (fun q' => hb (by simp [q'])) (fun q' => hb (by simp [q'])) (fun q' => hb (by simp [q'])) (fun q' => hb (by simp [q'])) q) hf⟩
  self := fun A i s Q E st h => wpAny_pyIter_zip st.1 h
def iZp (K : PySem.W.Frag) (ta : TA) : TI := fun σ H R => ta σ H fun vs H1 => ∃ a b xs ys ka kb, vs = [.ref a, .ref b] ∧ SqB K H1 a xs ka ∧ SqB K H1 b ys kb ∧ R (ItZ K a b ka kb) H1
theorem pi_zp {X : Cx} {e e2 : Expr} {ta : TA} {p pos tpos : Pos} {elts : List Expr} {kk : Nat} (hg : Gl X "zip") (hm : X.mg "zip" = none) (ha : PA X [e, e2] ta)
    (hs : starEach [e, e2] X.env = (false, eval e X.env) :: starEach [e2] X.env := by rfl) (hpl : (backTo pos (starEach [e2] X.env)).any (·.1) = false := by rfl) :
    PI X (.Tuple elts kk tpos) (.Call (.Name "zip" p) [e, e2] [] pos) (iZp X.K ta) := by
  refine ⟨fun pins s σ H R I h => ?_⟩
  refine Call_ (ld_blt I hg hm PyProof.Rows.boot_zip (PyProof.Rows.callWith_type1 (thn (ha.run pos pins s σ H _ I h) fun us s1 ⟨vs, H1, I1, r1, q1⟩ => ?_) hs hpl))
  obtain ⟨a, b, xs, ys, ka, kb, ex, hqx, hqy, q⟩ := q1
  subst ex
  cases r1 with
  | cons r rr =>
    cases rr with
    | cons r' rr =>
      cases rr
      cases r
      cases r'
      obtain ⟨its, rv, p1, _⟩ := sq_src I1 hqx
      obtain ⟨its2, rv2, p2, _⟩ := sq_src I1 hqy
      have la := p1.lt
      have lb := p2.lt
      refine zip_begins2 (begins_src a its.toArray ka) (begins_src b its2.toArray kb) p1 p2 fun h' hz hTI hTO h1 h2 hsz hk => wpAny_pyIter_zip hz ?_
      have I2 : Inv X pins σ H1 { s1 with heap := h' } := I1.kept (t' := s1.toks) hk
      have D : ZipSep2 (s1.heap.objs.size + 4) (s1.heap.objs.size + 2) (s1.heap.objs.size + 3) s1.heap.objs.size (s1.heap.objs.size + 1) [s1.heap.objs.size, a] [s1.heap.objs.size + 1, b] :=
        zip_sep2 (fun c hc => by rw [List.mem_singleton.mp hc]; exact la) (fun c hc => by rw [List.mem_singleton.mp hc]; exact lb)
      refine ⟨s1.heap.objs.size + 4, [s1.heap.objs.size + 4, s1.heap.objs.size + 2, s1.heap.objs.size + 3, s1.heap.objs.size, s1.heap.objs.size + 1], _, _, H1, rfl, I2, turn_zp D (Nat.ne_of_lt la) (Nat.ne_of_lt (Nat.lt_succ_of_lt lb)) (Nat.ne_of_lt (by omega)) (Nat.ne_of_lt (by omega)) (Nat.ne_of_lt (by omega)) (Nat.ne_of_lt (by omega)), ⟨hz, hTI, ⟨_, _, hTO⟩, ItrB.new h1, ItrB.new h2⟩, fun c hcm => ?_, q⟩
      have e' : c = s1.heap.objs.size + 4 ∨ c = s1.heap.objs.size + 2 ∨ c = s1.heap.objs.size + 3 ∨ c = s1.heap.objs.size ∨ c = s1.heap.objs.size + 1 := by simpa using hcm
      have hle : s1.heap.objs.size ≤ c := by
        rcases e' with z | z | z | z | z
        · rw [z]; exact Nat.le_add_right _ _
        · rw [z]; exact Nat.le_add_right _ _
        · rw [z]; exact Nat.le_add_right _ _
        · rw [z]; exact Nat.le_refl _
        · rw [z]; exact Nat.le_add_right _ _
      exact I1.fpOk hle (I1.hok.fresh hle)
end Q

set_option Elab.async false
set_option linter.all false
set_option maxRecDepth 100000
namespace Q
open PySem PySem.Spec L2
open PyProof.Rows hiding St
section
variable {K : PySem.W.Frag} {a b : Addr} {xs ys : List V} {ka kb : Bool}
theorem walk_en : Walk (ItE K a ka) xs.length (fun H => SqB K H a xs ka) (YPair (fun i => some (.int (i : Nat))) (fun i => xs[i]?)) := by
  refine ⟨fun i _ hi q => ⟨xs, xs[i], q, by simp [hi]⟩, fun _ q => ⟨xs, q, rfl⟩, fun i H v H' _ q y => ?_⟩
  obtain ⟨T, x, h1, h2, h3, h4⟩ := y
  exact ⟨T, .int (i : Nat), x, h1, h2, h3, rfl, h4 xs q⟩
theorem walk_zp {n : Nat} (hn : n = min xs.length ys.length) : Walk (ItZ K a b ka kb) n (fun H => SqB K H a xs ka ∧ SqB K H b ys kb) (YPair (fun i => xs[i]?) (fun i => ys[i]?)) := by
  subst hn
  refine ⟨fun i _ hi q => ?_, fun _ q => ⟨xs, ys, q.1, q.2, rfl⟩, fun i H v H' _ q y => ?_⟩
  · have h1 : i < xs.length := by omega
    have h2 : i < ys.length := by omega
    exact ⟨xs, ys, xs[i], ys[i], q.1, q.2, by simp [h1], by simp [h2]⟩
  · obtain ⟨T, x, z, h1, h2, h3, h4, h5⟩ := y
    exact ⟨T, x, z, h1, h2, h3, h4 xs q.1, h5 ys q.2⟩
end
section
variable {g : G} {W : WX} {Γ : Sm} {X : Cx} {N : List Str} {sc : Scope} {k : Nat} {m : M}
section
variable {K : PySem.W.Frag} {F F' : Addr → Prop} {ta ca : Addr} {H H1 : Hp} {tp : Tp} {x y : V} {d e : D} {xs ds ys es : List D}
theorem src_inv (h : seqOf d = some xs) (r : RepM m K H F x d) (t : ∀ a, F a → NT (H a)) : ∃ a vs b, x = .ref a ∧ Reps K H F vs xs ∧ ∀ H1, St8 (fsOf m F) ta H H1 → SqB K H1 a vs b := by
  obtain ⟨a, vs, hx, s, hl⟩ := seq_inv h r
  rcases hl with ⟨hl, hn⟩ | hl
  · exact ⟨a, vs, true, hx, s, fun H1 e => SqL.ofL (lst_st8 hn e hl)⟩
  · exact ⟨a, vs, false, hx, s, fun H1 e => SqT.st8 t e hl⟩
theorem it_en {a : Addr} {vs : List V} {b : Bool} (w : World g F ta ca H tp) (ha : ∀ H1, St8 (fsOf m F) ta H H1 → SqB K H1 a vs b) (s : Reps K H F vs xs) : ItOk g K m F ta ca H (enumGo 0 xs) (ItE K a b) := by
  refine ⟨fun H => SqB K H a vs b, _, by rw [enumGo_len, ← s.length]; exact walk_en, ha, fun F' i H1 x H2 tp1 hF hi e w1 y => ?_⟩
  obtain ⟨T, vx, vy, rfl, hT, rfl, h1, h2⟩ := y
  have h1 : V.int (i : Nat) = vx := Option.some.inj h1
  subst h1
  obtain ⟨d, hd, r⟩ := (s.st8 w.nt hF e).getV h2
  obtain ⟨p1, p2, p3⟩ := pair_new w1 hT (.int _) r
  refine ⟨p1, p2, _, enumGo_get xs 0 i d hd, ?_⟩
  rw [Nat.zero_add]
  exact p3
theorem it_zp {a b : Addr} {vs us : List V} {ka kb : Bool} (w : World g F ta ca H tp) (ha : ∀ H1, St8 (fsOf m F) ta H H1 → SqB K H1 a vs ka) (s : Reps K H F vs xs) (hb : ∀ H1, St8 (fsOf m F) ta H H1 → SqB K H1 b us kb) (s2 : Reps K H F us ys) : ItOk g K m F ta ca H (zipGo xs ys) (ItZ K a b ka kb) := by
  refine ⟨fun H => SqB K H a vs ka ∧ SqB K H b us kb, _, walk_zp (by rw [zipGo_len, ← s.length, ← s2.length]), fun H1 e => ⟨ha H1 e, hb H1 e⟩, fun F' i H1 x H2 tp1 hF hi e w1 y => ?_⟩
  obtain ⟨T, vx, vy, rfl, hT, rfl, h1, h2⟩ := y
  obtain ⟨d, hd, r⟩ := (s.st8 w.nt hF e).getV h1
  obtain ⟨d2, hd2, r2⟩ := (s2.st8 w.nt hF e).getV h2
  obtain ⟨p1, p2, p3⟩ := pair_new w1 hT r r2
  exact ⟨p1, p2, _, zipGo_get xs ys i d d2 hd hd2, p3⟩
end
def isTupE : Expr → Bool
  | .Tuple _ _ _ => true
  | _ => false
theorem i_enum {as : Cs} {tg e : Expr} {p pos : Pos} (G : Gd X N sc k) (ht : isTupE tg = true) (hg : glB sc "enumerate" = true) (hx : X.mg "enumerate" = none) (ha : PA X [e] (rdEs g X.K W Γ m as)) (hs : starB e = false) : PI X tg (.Call (.Name "enumerate" p) [e] [] pos) (rdI g X.K W Γ m .enum as) := by
  cases tg <;> try cases ht
  refine PI.imp (pi_en (gl_of G hg) hx ha (star_eq hs)) fun σ H R h => ?_
  obtain ⟨F, ta, ca, env, tp, E, h⟩ := h
  refine ⟨F, ta, ca, env, tp, E, h.bind.mono fun ds t1 H1 e1 w1 h => fun vs rs => ?_⟩
  obtain ⟨xs, hx, h⟩ := HdG.opt h
  have h := h H1 (.refl _ _ _) w1
  have hx : enumD ds = some xs := hx
  unfold enumD at hx
  split at hx
  · obtain ⟨zs, hz, rfl⟩ := Option.map_eq_some_iff.mp hx
    obtain ⟨x, rfl, r⟩ := rs.one
    obtain ⟨a, us, b, rfl, s, hb⟩ := src_inv (ta := ta) hz r w1.nt
    exact ⟨a, us, b, rfl, hb H1 (.refl _ _ _), h _ (it_en w1 hb s)⟩
  · cases hx
theorem i_zip {as : Cs} {tg e e2 : Expr} {p pos : Pos} (G : Gd X N sc k) (ht : isTupE tg = true) (hg : glB sc "zip" = true) (hx : X.mg "zip" = none) (ha : PA X [e, e2] (rdEs g X.K W Γ m as)) (hs : starB e = false) (hs2 : starB e2 = false) : PI X tg (.Call (.Name "zip" p) [e, e2] [] pos) (rdI g X.K W Γ m .zip as) := by
  cases tg <;> try cases ht
  refine PI.imp (pi_zp (gl_of G hg) hx ha (by rw [star_eq hs, star_eq hs2] <;> rfl) (by rw [star_eq hs2] <;> rfl)) fun σ H R h => ?_
  obtain ⟨F, ta, ca, env, tp, E, h⟩ := h
  refine ⟨F, ta, ca, env, tp, E, h.bind.mono fun ds t1 H1 e1 w1 h => fun vs rs => ?_⟩
  obtain ⟨xs, hx, h⟩ := HdG.opt h
  have h := h H1 (.refl _ _ _) w1
  have hx : zipD ds = some xs := hx
  unfold zipD at hx
  split at hx
  · obtain ⟨zs, hz, hx⟩ := Option.bind_eq_some_iff.mp hx
    obtain ⟨us, hu, rfl⟩ := Option.map_eq_some_iff.mp hx
    obtain ⟨x, y, rfl, r, r2⟩ := rs.two
    obtain ⟨a, us1, b, rfl, s, hb⟩ := src_inv (ta := ta) hz r w1.nt
    obtain ⟨a2, us2, b2, rfl, s2, hb2⟩ := src_inv (ta := ta) hu r2 w1.nt
    exact ⟨a, a2, us1, us2, b, b2, rfl, hb H1 (.refl _ _ _), hb2 H1 (.refl _ _ _), h _ (it_zp w1 hb s hb2 s2)⟩
  · cases hx
end
end Q

set_option Elab.async false
set_option linter.all false
set_option maxRecDepth 100000
namespace Q
open PySem PySem.Spec L2
open PyProof.Rows hiding St
/-! ### dicts made -/
section
variable {K : PySem.W.Frag} {H : Hp} {F : Addr → Prop}
theorem any_kD {k : L2.Key} : ∀ {kvs : List (L2.Key × V)} {ds : List (D × D)}, ds.map (·.1) = kvs.map (fun p => kD p.1) → (ds.any fun p => keq p.1 (kD k)) = kvs.any fun kv => decide (kv.1 = k)
  | [], [], _ => rfl
  | [], _ :: _, e => by simp at e
  | _ :: _, [], e => by simp at e
  | p :: kvs, q :: ds, e => by
    simp only [List.map_cons, List.cons.injEq] at e
    rw [List.any_cons, List.any_cons, any_kD e.2, e.1, keq_atom]
theorem put_map {k : L2.Key} {v : V} {d : D} (rv : Rep K H F v d) : ∀ {kvs : List (L2.Key × V)} {ds : List (D × D)}, ds.map (·.1) = kvs.map (fun p => kD p.1) → Reps K H F (kvs.map (·.2)) (ds.map (·.2)) →
    (ds.map fun p => match keq p.1 (kD k) with | true => (p.1, d) | false => p).map (·.1) = (kvs.map fun kv => if kv.1 = k then (kv.1, v) else kv).map (fun p => kD p.1) ∧
    Reps K H F ((kvs.map fun kv => if kv.1 = k then (kv.1, v) else kv).map (·.2)) ((ds.map fun p => match keq p.1 (kD k) with | true => (p.1, d) | false => p).map (·.2))
  | [], [], _, _ => ⟨rfl, .nil⟩
  | [], _ :: _, e, _ => by simp at e
  | _ :: _, [], e, _ => by simp at e
  | p :: kvs, q :: ds, e, r => by
    simp only [List.map_cons, List.cons.injEq] at e
    cases r with
    | cons r1 r2 =>
      obtain ⟨h1, h2⟩ := put_map rv e.2 r2
      have hq : keq q.1 (kD k) = decide (p.1 = k) := by rw [e.1, keq_atom]
      simp only [List.map_cons]
      by_cases h : p.1 = k
      · simp only [hq, h, decide_true, if_true]
        refine ⟨?_, .cons rv h2⟩
        rw [List.cons.injEq]
        exact ⟨by rw [e.1, h], h1⟩
      · simp only [hq, h, decide_false, if_false]
        refine ⟨?_, .cons r1 h2⟩
        rw [List.cons.injEq]
        exact ⟨e.1, h1⟩
theorem put_ok {k : L2.Key} {v : V} {d : D} {kvs : List (L2.Key × V)} {ds : List (D × D)} (rv : Rep K H F v d) (e : ds.map (·.1) = kvs.map (fun p => kD p.1)) (r : Reps K H F (kvs.map (·.2)) (ds.map (·.2))) :
    (dput ds (kD k) d).map (·.1) = (putK kvs k v).map (fun p => kD p.1) ∧ Reps K H F ((putK kvs k v).map (·.2)) ((dput ds (kD k) d).map (·.2)) := by
  unfold dput putK
  rw [any_kD e]
  by_cases h : (kvs.any fun kv => decide (kv.1 = k)) = true
  · rw [if_pos h, h]
    exact put_map rv e r
  · rw [if_neg h, show (kvs.any fun kv => decide (kv.1 = k)) = false from Bool.eq_false_iff.mpr h]
    refine ⟨by rw [List.map_append, List.map_append, e]; rfl, ?_⟩
    rw [List.map_append, List.map_append]
    exact r.append (.cons rv .nil)
end
/-- a value that is a dict, list: locked for good -/
def tFr (te : TE) : TE := fun σ H Q => te σ H fun x H1 => ∃ a u, x = .ref a ∧ H1 a = some u ∧ Mut (some u) ∧ ∀ od, Q x (upd H1 a (.frz od u))
theorem pe_fr {X : Cx} {e : Expr} {te : TE} (h : PE X e te) : PE X e (tFr te) := ⟨fun pins s σ H Q I q => thn (h.run pins s σ H _ I q) fun v s1 ⟨x, H1, I1, r1, a, u, e1, hu, mu, q1⟩ => by
  obtain ⟨od, I2⟩ := I1.lock hu mu
  exact ⟨x, _, I2, r1, q1 od⟩⟩
section
variable {g : G} {W : WX} {Γ : Sm} {X : Cx} {N : List Str} {sc : Scope} {k : Nat} {m : M} {fz : Str → Bool}
theorem dcGo_ok {f : D → Tp → Out (Option (D × D))} {d : D} {rest : List D} {acc r : List (D × D)} {tp t3 : Tp} (h : dcGo f (d :: rest) acc tp = .ok r t3) : ∃ o tp1, f d tp = .ok o tp1 ∧ dcGo f rest (match o with | some y => dput acc y.1 y.2 | none => acc) tp1 = .ok r t3 := by
  unfold dcGo at h
  cases q : f d tp with
  | ok o tp1 =>
    rw [q] at h
    refine ⟨o, tp1, rfl, ?_⟩
    cases o with
    | none => exact h
    | some y => exact h
  | exc c t =>
    rw [q] at h
    cases h
  | bad =>
    rw [q] at h
    cases h
theorem dcGo_exc {f : D → Tp → Out (Option (D × D))} (hf : ∀ d tp c t, f d tp ≠ .exc c t) : ∀ {xs : List D} {acc : List (D × D)} {tp : Tp} {c : Nat} {t : Tp}, dcGo f xs acc tp ≠ .exc c t
  | [], _, _, _, _ => fun h => nomatch h
  | x :: xs, acc, tp, c, t => fun h => by
    unfold dcGo at h
    cases q : f x tp with
    | ok o tp1 =>
      rw [q] at h
      cases o with
      | none => exact dcGo_exc hf h
      | some y => exact dcGo_exc hf h
    | exc c t => exact hf _ _ _ _ q
    | bad =>
      rw [q] at h
      cases h
def dcF (Γ : Sm) (t : Tg) (cs : Cs) (k v : C) (env : QE) : D → Tp → Out (Option (D × D)) := fun x tp => match bindT t x env with
  | none => .bad
  | some env1 => ((evC Γ cs env1 tp).bind fun b tp2 => match b with
    | true => (ev Γ .r k env1 tp2).bind fun y tp3 => (ev Γ .v v env1 tp3).bind fun z tp4 => .opt (grd (keyB y) (some (y, z))) tp4
    | false => .ok none tp2).nox
theorem dcF_exc {t : Tg} {cs : Cs} {k v : C} {env : QE} {d : D} {tp : Tp} {c : Nat} {u : Tp} : dcF Γ t cs k v env d tp ≠ .exc c u := by
  unfold dcF
  cases bindT t d env with
  | none => exact fun h => nomatch h
  | some e => exact nox_exc
theorem opt_ok {α : Type} {o : Option α} {t : Tp} {a : α} {u : Tp} (h : Out.opt o t = .ok a u) : o = some a ∧ t = u := by
  cases o with
  | none => cases h
  | some b => cases h; exact ⟨rfl, rfl⟩
theorem dc_loop {t : Tg} {cs : Cs} {kx vx : C} {ow : List Nat} {F : Addr → Prop} {ta ca : Addr} {env : QE} {H1 : Hp} {σ : L2.St} {xs : List D} {t2 : Tp} {J : It} {D : Addr} {Q : VK} {R : List (PyData × PyData) → Tp → Hp → Prop} (hx : xs.length ≤ 16777216)
    (E : EnvOk g X.K F ta ca H1 σ env t2) (hJ : ItOk g X.K m F ta ca H1 xs J) (hD : H1 D = none)
    (h : HdG g W F ta ca H1 σ (dcGo (dcF Γ t cs kx vx (wipeB env ow)) xs [] t2) R)
    (hR : ∀ r t3 H' kvs, Ext ta H1 H' → World g (ins F D) ta ca H' t3 → (∀ H2, Ext ta H1 H2 → World g F ta ca H2 t3 → R r t3 H2) → H' D = some (.dK kvs) → r.map (·.1) = kvs.map (fun p => kD p.1) → Reps X.K H' (ins F D) (kvs.map (·.2)) (r.map (·.2)) → Q (.ref D) H') :
    ∃ W : Nat → Nat → Hp → Prop, (∃ m, W 0 m (upd H1 D (.dK []))) ∧ ∀ i m H, W i m H →
      (J.stop i H ∧ Q (.ref D) H) ∨ (J.go i H ∧ ∃ Nx : Hp → Prop, (∀ H', Nx H' → ∃ m', m' < m ∧ W (i + 1) m' H') ∧ ∀ x H', J.yld i H x H' → tgS g X.K ow t x (L2.wipe σ ow) H' fun σ2 H2 => L2.wipe σ2 ow = L2.wipe σ ow ∧ rdC g X.K W0 Γ cs σ2 H2 fun b H3 =>
        if b = true then rdE g X.K W0 Γ .r kx σ2 H3 fun y H4 => rdE g X.K W0 Γ .v vx σ2 H4 fun z H5 => ∃ kvs k, y = kV k ∧ H5 D = some (.dK kvs) ∧ kvs.length < sizeLine ∧ Nx (upd H5 D (.dK (putK kvs k z))) else Nx H3) := by
  have w := E.wd
  have hta : ta ≠ D := fun q => by
    have := w.tape
    rw [q, hD] at this
    cases this
  have hca : D ≠ ca := fun q => by
    have := w.cells
    rw [← q, hD] at this
    cases this
  have hsz : sizeLine = 16777216 := rfl
  cases hr : dcGo (dcF Γ t cs kx vx (wipeB env ow)) xs [] t2 with
  | exc c u => exact absurd hr (dcGo_exc fun _ _ _ _ => dcF_exc)
  | bad =>
    rw [hr] at h
    exact h.elim
  | ok r t3 =>
    rw [hr] at h
    obtain ⟨Gd, Y, wk, hG, hY⟩ := hJ
    let F' := ins F D
    have hF' : ∀ a, F' a → F a ∨ ¬ MutK (H1 a) := fun a z => z.elim .inl fun q => .inr (by rw [q]; exact mut_none hD)
    let Pv : Nat → Hp → Prop := fun i H => ∃ acc tpi kvs, Ext ta H1 H ∧ World g F' ta ca H tpi ∧ H D = some (.dK kvs) ∧ acc.map (·.1) = kvs.map (fun p => kD p.1) ∧ Reps X.K H F' (kvs.map (·.2)) (acc.map (·.2)) ∧ kvs.length ≤ i ∧ dcGo (dcF Γ t cs kx vx (wipeB env ow)) (xs.drop i) acc tpi = .ok r t3
    refine ⟨fun i m H => m = xs.length - i ∧ i ≤ xs.length ∧ Pv i H, ⟨xs.length, by simp, Nat.zero_le _, [], t2, [], Ext.new hD, (w.new hD).insW (by rw [upd_same]; exact True.intro) hca, upd_same, rfl, .nil, Nat.zero_le _, hr⟩, ?_⟩
    rintro i m H ⟨rfl, hi, acc, tpi, kvs, e1, w1, hDv, hkey, rs, hl, hg⟩
    have q := hG H (e1.mono fun _ z => z.elim)
    by_cases hlt : i < xs.length
    · refine .inr ⟨wk.goes i H hlt q, Pv (i + 1), fun H' p' => ⟨xs.length - (i + 1), by omega, rfl, hlt, p'⟩, fun x H' y => ?_⟩
      have y := wk.yields i H x H' hlt q y
      obtain ⟨e2, w2, d, hd, rx⟩ := hY F' i H x H' tpi hF' hlt (e1.mono fun _ z => z.elim) w1 y
      have hdr : xs.drop i = d :: xs.drop (i + 1) := by
        rw [List.drop_eq_getElem_cons hlt]
        rw [List.getElem?_eq_getElem hlt] at hd
        rw [Option.some.inj hd]
      rw [hdr] at hg
      obtain ⟨o, tp1, hf, hg⟩ := dcGo_ok hg
      unfold dcF at hf
      cases hb : bindT t d (wipeB env ow) with
      | none =>
        rw [hb] at hf
        cases hf
      | some env1 =>
        rw [hb] at hf
        have hf := nox_ok hf
        obtain ⟨b, tp2, hc, hf⟩ := bind_okE hf
        have e02 : Ext ta H1 H' := e1.trans e2
        have E2 : EnvOk g X.K F' ta ca H' (L2.wipe σ ow) (wipeB env ow) tpi := ((E.grow (fun a z => .inl z) hF' e02 w2)).wipe ow
        refine ⟨F', ta, ca, _, tpi, d, env1, E2, rx, hb, fun σ1 A1 _ E3 => ⟨A1.wipe, F', ta, ca, env1, tpi, E3, ?_⟩⟩
        rw [hc]
        intro H3 e3 w3
        have dK3 : ∀ {H4}, Ext ta H' H4 → H4 D = some (.dK kvs) := fun {H4} e => (e2.trans e) _ _ (fun z => z) hDv (.inl (Ne.symm hta))
        cases b with
        | false =>
          have hf : Out.ok none tp2 = Out.ok o tp1 := hf
          cases hf
          refine iteF ?_
          exact ⟨acc, _, kvs, e02.trans e3, w3, dK3 e3, hkey, rs.stepX (e2.trans e3), Nat.le_succ_of_le hl, hg⟩
        | true =>
          have hf : ((ev Γ .r kx env1 tp2).bind fun y tp3 => (ev Γ .v vx env1 tp3).bind fun z tp4 => Out.opt (grd (keyB y) (some (y, z))) tp4) = Out.ok o tp1 := hf
          obtain ⟨y1, tp3, he, hf⟩ := bind_okE hf
          obtain ⟨z1, tp4, he2, hf⟩ := bind_okE hf
          obtain ⟨hf2, ht⟩ := opt_ok hf
          obtain ⟨hkb, ho⟩ := grd_some hf2
          subst ht
          subst ho
          refine iteT ?_
          refine ⟨F', ta, ca, env1, tp2, E3.ext e3 w3, ?_⟩
          rw [he]
          intro H4 e4 w4 vy ry
          refine ⟨F', ta, ca, env1, tp3, (E3.ext e3 w3).ext e4 w4, ?_⟩
          rw [he2]
          intro H5 e5 w5 vz rz
          obtain ⟨key, rfl, rfl⟩ := key_inv hkb ry
          have rz : Rep X.K H5 F' vz z1 := rz
          have e35 : Ext ta H' H5 := (e3.trans e4).trans e5
          have hD5 := dK3 e35
          obtain ⟨p1, p2⟩ := put_ok (k := key) rz hkey (rs.stepX (e2.trans e35))
          have s5 : St8 F' ta H5 (upd H5 D (.dK (putK kvs key vz))) := St8.own (.inr rfl)
          refine ⟨kvs, key, rfl, hD5, by rw [hsz]; omega, dput acc (kD key) z1, _, putK kvs key vz, ?_, w5.write (o := .dK (putK kvs key vz)) (.inr rfl) (Ne.symm hta) True.intro, upd_same, p1, p2.step w5.nt s5, ?_, hg⟩
          · intro b o hb hbo hfx
            have hbD : b ≠ D := fun q => by rw [q, hD] at hbo; cases hbo
            rw [upd_ne hbD]
            exact (e02.trans e35) b o hb hbo hfx
          · have := length_putK kvs key vz
            omega
    · have e : i = xs.length := by omega
      subst e
      rw [List.drop_length] at hg
      unfold dcGo at hg
      cases hg
      exact .inl ⟨wk.stops H q, hR _ _ H kvs e1 w1 (fun H2 e w => h H2 e w) hDv hkey rs⟩
theorem e_dcp {t : Tg} {kd : IK} {as cs : Cs} {ck cv : C} {own : List (Str × Nat)} {kx vx tg iter : Expr} {ifs : List Expr} {scope : Scope} {pos : Pos} (G : Gd X N sc k) (hm : m ≠ .t) (hi : PI X tg iter (rdI g X.K W Γ kd.md kd as)) (ok : BlkOk N sc scope own)
    (hg : ∀ (s : Shared) (H : Hp) (C : Addr) (cl : List (Str × Addr)) (fp : List Addr), PG (X.blk s H scope (compEnvC scope cl C X.env) fp) tg (tgS g X.K (own.map (·.2)) t))
    (ht : ∀ (s : Shared) (H : Hp) (C : Addr) (cl : List (Str × Addr)) (fp : List Addr), PTs (X.blk s H scope (compEnvC scope cl C X.env) fp) ifs (rdC g X.K W0 Γ cs))
    (hk : ∀ (s : Shared) (H : Hp) (C : Addr) (cl : List (Str × Addr)) (fp : List Addr), PE (X.blk s H scope (compEnvC scope cl C X.env) fp) kx (rdE g X.K W0 Γ .r ck))
    (he : ∀ (s : Shared) (H : Hp) (C : Addr) (cl : List (Str × Addr)) (fp : List Addr), PE (X.blk s H scope (compEnvC scope cl C X.env) fp) vx (rdE g X.K W0 Γ .v cv)) (hs : ∀ x, foldedSetIterable iter X.env x = pure x) :
    PE X (.DictComp kx vx [⟨tg, iter, ifs, 0⟩] scope pos) (rdE g X.K W Γ m (.dcp ck cv t kd as cs (own.map (·.2)))) := by
  refine PE.imp (pe_fr (pe_dc G.calm (by rw [G.hN]; exact G.nd) hi (by rw [G.hN, G.sc]; exact ok) hg ht hk he hs)) fun σ H Q h => ?_
  obtain ⟨F, ta, ca, env, tp, E, h⟩ := h
  unfold ev at h
  rw [fin_ne hm, ← bind_assoc'] at h
  refine ⟨F, ta, ca, env, tp, E, h.bind.mono fun xs t1 H1 e1 w1 h => fun J hJ D hD => ?_⟩
  cases hb : big xs.length with
  | false =>
    rw [hb] at h
    exact h.elim
  | true =>
    rw [hb] at h
    have h : HdG g W F ta ca H1 σ ((dcGo (dcF Γ t cs ck cv (wipeB env (own.map (·.2)))) xs [] t1).bind fun r t3 => Out.ok (PyData.dict r) t3) (fun d _ H' => ∀ v, RepM m X.K H' F v d → Q v H') := h
    refine dc_loop (Q := fun x H1 => ∃ a u, x = V.ref a ∧ H1 a = some u ∧ Mut (some u) ∧ ∀ (od : Obj), Q x (upd H1 a (.frz od u))) (big_le hb) (E.ext e1 w1) hJ hD h.bind fun r t3 H' kvs e2 w2 h hDv hkey rs => ?_
    refine ⟨D, _, rfl, hDv, True.intro, fun od => ?_⟩
    have nF : ¬ F D := w1.fresh hD
    have hta : ta ≠ D := fun q => nF (by rw [← q]; exact w1.hta)
    have hca : ca ≠ D := fun q => by
      have := w1.cells
      rw [q, hD] at this
      cases this
    have e3 : Ext ta H1 (upd H' D (.frz od (.dK kvs))) := fun b o hb hbo hfx => by
      have hbD : b ≠ D := fun q => by rw [q, hD] at hbo; cases hbo
      rw [upd_ne hbD]
      exact e2 b o hb hbo hfx
    have w3 : World g F ta ca (upd H' D (.frz od (.dK kvs))) t3 :=
      ⟨fun a z => by rw [upd_ne fun q => nF (by rw [← q]; exact z)]; exact w2.trk a (.inl z), w1.hta, by rw [upd_ne hta]; exact w2.tape, fun z => w2.nca (.inl z), by rw [upd_ne hca]; exact w2.cells, g.TS (ta := ta) w2.hta w2.trk (fun b o hb e _ => by rw [upd_ne fun q => hb (by rw [q]; exact .inr rfl)]; exact e) w2.tabs⟩
    have st : St8 (ins F D) ta H' (upd H' D (.frz od (.dK kvs))) := St8.own (.inr rfl)
    exact (h _ e3 w3).ok _ (.refl _ _ _) w3 _ (.of (.dcK (o := od) upd_same hkey ((rs.step w2.nt st).mono fun a z => .inl z)))
end
end Q

set_option Elab.async false
set_option linter.all false
set_option maxRecDepth 100000
namespace Q
open PySem PySem.Spec L2
open PyProof.Rows hiding St
section
variable {K : PySem.W.Frag} {H : Hp} {F F' : Addr → Prop}
mutual
theorem Rep.chL (h : ∀ a, F' a → F a ∨ (∃ ks, H a = some (.dK ks)) ∨ ∃ ks, H a = some (.dT ks)) : ∀ {v : V} {d : D}, Rep K H F v d → Rep K H F' v d
  | _, _, .non => .non
  | _, _, .bl b => .bl b
  | _, _, .int i => .int i
  | _, _, .str x => .str x
  | _, _, .lst e n r => .lst e (fun z => (h _ z).elim n fun q => by rcases q with ⟨_, q⟩ | ⟨_, q⟩ <;> (rw [q] at e; cases e)) (Reps.chL h r)
  | _, _, .tup e r => .tup e (Reps.chL h r)
  | _, _, .dcK e q r => .dcK e q (Reps.chL h r)
  | _, _, .rng e => .rng e
  | _, _, .dcT e n z q r r' => .dcT e (fun z => (h _ z).elim n fun q => by rcases q with ⟨_, q⟩ | ⟨_, q⟩ <;> (rw [q] at e; cases e)) z q (Reps.chL h r) (Reps.chL h r')
theorem Reps.chL (h : ∀ a, F' a → F a ∨ (∃ ks, H a = some (.dK ks)) ∨ ∃ ks, H a = some (.dT ks)) : ∀ {v : List V} {d : List D}, Reps K H F v d → Reps K H F' v d
  | _, _, .nil => .nil
  | _, _, .cons r s => .cons (Rep.chL h r) (Reps.chL h s)
end
end
section
variable {g : G} {Γ : Sm} {X : Cx} {N : List Str} {sc : Scope} {k : Nat} {fz : Str → Bool} {E : XK} {n : Nat} {W : WX}
theorem World.off {F : Addr → Prop} {ta ca : Addr} {H : Hp} {tp : Tp} {p : Addr} {o : HO} (w : World g F ta ca H tp) (nF : ¬ F p) (hc : p ≠ ca) (mk : MutK (H p)) (mo : MutK (some o)) : World g F ta ca (upd H p o) tp :=
  ((w.insW mk hc).write (.inr rfl) (fun q => nF (by rw [q]; exact w.hta)) mo).sub (fun a z => .inl z) w.hta
theorem setD0K_imp {i : Nat} {D : Ends} {σ : L2.St} {H : Hp} (h : rdX g X E Γ n (.setD0 i true) D σ H) : tAsg tDNewK (gName i) D σ H := by
  obtain ⟨F0, H0, bs, F, ta, ca, env, tp, s, h⟩ := h
  unfold exS at h
  intro p hp
  exact h _ _ _ (s.setG (Ext.new hp) (s.E.wd.new hp) (mut_none hp) (by rw [upd_same]; exact True.intro) rfl fun h3 hl => ⟨p, List.getElem?_set_self hl, .inr rfl, h3, .k upd_same True.intro rfl .nil⟩)
theorem setD0T_imp {i : Nat} {D : Ends} {σ : L2.St} {H : Hp} (h : rdX g X E Γ n (.setD0 i false) D σ H) : tAsg tDNewX (gName i) D σ H := by
  obtain ⟨F0, H0, bs, F, ta, ca, env, tp, s, h⟩ := h
  unfold exS at h
  intro p es ep hp te
  exact h _ _ _ (s.setG (Ext.new hp) (s.E.wd.new hp) (mut_none hp) (by rw [upd_same]; exact mutTd) rfl fun h3 hl => ⟨p, List.getElem?_set_self hl, .inr rfl, h3, .t upd_same te ⟨rfl, fun p hp => by simp at hp, .nil⟩ .nil .nil⟩)
theorem fst_hd {ds : List (PyData × PyData)} {kvs : List (L2.Key × V)} (h : fstB ds = true) (e : ds.map (·.1) = kvs.map (fun p => kD p.1)) : hdK kvs := by
  cases kvs with
  | nil => trivial
  | cons p r =>
    cases ds with
    | nil => simp at e
    | cons q t =>
      simp only [List.map_cons, List.cons.injEq] at e
      obtain ⟨q1, q2⟩ := q
      obtain ⟨p1, p2⟩ := p
      have e1 : q1 = kD p1 := e.1
      subst e1
      cases p1 with
      | inl i => exact fun z => nomatch z
      | inr x =>
        have h : decide (x ≠ Str.ofString "cells") = true := h
        have h := of_decide_eq_true h
        exact fun z => h (Sum.inr.inj z)
theorem setDT_imp {i : Nat} {kk c : C} {D : Ends} {σ : L2.St} {H : Hp} (ht : isTupC kk = true) (h : rdX g X E Γ n (.setD i (.cons kk .nil) (.cons c .nil)) D σ H) : tAsg (tDisp1X X.K (rdE g X.K (WX0 E) Γ .r kk) (rdE g X.K (WX0 E) Γ .v c)) (gName i) D σ H := by
  obtain ⟨F0, H0, bs, F, ta, ca, env, tp, s, h⟩ := h
  unfold exS at h
  dsimp only at h
  rw [ht] at h
  intro p hp
  have s1 := s.step (Ext.new (o := .dT []) hp) (s.E.wd.new hp)
  refine ⟨F, ta, ca, env, tp, s1.E, (HdS.so s1 h).mono fun y t1 H1 e1 w1 h => fun vy ry => ⟨F, ta, ca, env, t1, s1.E.ext e1 w1, (HdS.so (s1.step e1 w1) h).mono fun z t2 H2 e2 w2 h => fun vz rz => ?_⟩⟩
  have rz : Rep X.K H2 F vz z := rz
  have hD2 : H2 p = some (.dT []) := (e1.trans e2) _ _ (fun z => z) upd_same True.intro
  have h : HdS g X.K E F0 H0 bs ta ca (match keyT y with
      | true => .nx (env.set i (.owd false [(y, z)])) t2
      | false => .bad) D := h
  cases hb : keyT y with
  | false =>
    rw [hb] at h
    exact h.elim
  | true =>
    rw [hb] at h
    have ry2 : Rep X.K H2 F vy y := keyT_rep hb (RepR.step w1.nt e2 ry)
    have hy : ∃ b, vy = .ref b := by
      cases y <;> first | (exact absurd hb Bool.false_ne_true) | (cases ry2; exact ⟨_, rfl⟩)
    obtain ⟨b, rfl⟩ := hy
    refine ⟨hD2, b, kN y, rfl, ⟨F, y, ry2, hb, rfl⟩, fun w r es ep rv hs he => ?_⟩
    have nF : ¬ F p := s.E.wd.fresh hp
    have hca : p ≠ ca := fun q => by
      have := s.E.wd.cells
      rw [← q, hp] at this
      cases this
    have e3 : Ext ta H (upd H2 p (tdO p es ep)) := fun b o hb hbo hfx => by
      have hbp : b ≠ p := fun q => by rw [q, hp] at hbo; cases hbo
      rw [upd_ne hbp]
      exact ((Ext.new (o := .dT []) hp).trans (e1.trans e2)) b o hb hbo hfx
    have w3 : World g F ta ca (upd H2 p (tdO p es ep)) t2 := w2.off nF hca (by rw [hD2]; exact True.intro) mutTd
    have lift : ∀ {v : V} {d : PyData}, Rep X.K H2 F v d → Rep X.K (upd H2 p (tdO p es ep)) (ins F p) v d := fun r => by
      have r1 := Rep.chL (F' := ins F p) (fun a z => z.elim .inl fun q => .inr (.inr ⟨[], by rw [q]; exact hD2⟩)) r
      exact r1.step (fun a z => z.elim (w2.nt a) fun q => by rw [q, hD2]; exact True.intro) (St8.own (ta := ta) (.inr rfl))
    have key1 : ([(kN y, b, r)] : List (NestedKey × Addr × Value)).map (·.1) = [(y, z)].map (fun p => kN p.1) := rfl
    have ok1 : ∀ p ∈ [(y, z)], keyT p.1 = true := fun p hp => by
      have : p = (y, z) := by simpa using hp
      rw [this]; exact hb
    have te : TE0 p es [(kN y, b, r)] := ⟨fun w' => by
      have := td_hash key1 ok1 w w'
      rw [← this]
      exact he, by simp, by show 1 ≤ sizeLine; decide, hs⟩
    exact h _ _ _ (s.setG e3 w3 (mut_none hp) (by rw [upd_same]; exact mutTd) rfl fun h3 hl => ⟨p, List.getElem?_set_self hl, .inr rfl, h3, .t upd_same te ⟨key1, ok1, .cons rv .nil⟩ (.cons (lift ry2) .nil) (.cons (lift rz) .nil)⟩)
theorem setD_imp {i : Nat} {kk c : C} {D : Ends} {σ : L2.St} {H : Hp} (hnt : isTupC kk = false) (h : rdX g X E Γ n (.setD i (.cons kk .nil) (.cons c .nil)) D σ H) : tAsg (tDisp [(rdE g X.K (WX0 E) Γ .r kk, rdE g X.K (WX0 E) Γ .v c)]) (gName i) D σ H := by
  obtain ⟨F0, H0, bs, F, ta, ca, env, tp, s, h⟩ := h
  unfold exS at h
  dsimp only at h
  rw [hnt] at h
  intro p hp
  have s1 := s.step (Ext.new (o := .dK []) hp) (s.E.wd.new hp)
  refine ⟨F, ta, ca, env, tp, s1.E, (HdS.so s1 h).mono fun y t1 H1 e1 w1 h => fun vy ry => ⟨F, ta, ca, env, t1, s1.E.ext e1 w1, (HdS.so (s1.step e1 w1) h).mono fun z t2 H2 e2 w2 h => fun vz rz => ?_⟩⟩
  have rz : Rep X.K H2 F vz z := rz
  have hD2 : H2 p = some (.dK []) := (e1.trans e2) _ _ (fun z => z) upd_same (.inr True.intro)
  have h : HdS g X.K E F0 H0 bs ta ca (match keyB y && fstB [(y, z)] with
      | true => .nx (env.set i (.owd true [(y, z)])) t2
      | false => .bad) D := h
  cases hb : keyB y && fstB [(y, z)] with
  | false =>
    rw [hb] at h
    exact h.elim
  | true =>
    rw [hb] at h
    obtain ⟨h1, h2⟩ := band hb
    obtain ⟨key, rfl, rfl⟩ := key_inv h1 (RepR.step w1.nt e2 ry)
    refine ⟨hD2, [(key, vz)], rfl, (by decide : 1 ≤ 15), ?_⟩
    have nF : ¬ F p := s.E.wd.fresh hp
    have hca : p ≠ ca := fun q => by
      have := s.E.wd.cells
      rw [← q, hp] at this
      cases this
    have e3 : Ext ta H (upd H2 p (.dK [(key, vz)])) := fun b o hb hbo hfx => by
      have hbp : b ≠ p := fun q => by rw [q, hp] at hbo; cases hbo
      rw [upd_ne hbp]
      exact ((Ext.new (o := .dK []) hp).trans (e1.trans e2)) b o hb hbo hfx
    have w3 : World g F ta ca (upd H2 p (.dK [(key, vz)])) t2 := w2.off nF hca (by rw [hD2]; exact True.intro) True.intro
    have rz3 : Rep X.K (upd H2 p (.dK [(key, vz)])) (ins F p) vz z := by
      have r1 : Rep X.K H2 (ins F p) vz z := rz.chL fun a z => z.elim .inl fun q => .inr (.inl ⟨[], by rw [q]; exact hD2⟩)
      exact r1.step (fun a z => z.elim (w2.nt a) fun q => by rw [q, hD2]; exact True.intro) (St8.own (ta := ta) (.inr rfl))
    exact h _ _ _ (s.setG e3 w3 (mut_none hp) (by rw [upd_same]; exact True.intro) rfl fun h3 hl => ⟨p, List.getElem?_set_self hl, .inr rfl, h3, .k upd_same (fst_hd h2 rfl) rfl (.cons rz3 .nil)⟩)
theorem dput_imp {i : Nat} {kk c : C} {D : Ends} {σ : L2.St} {H : Hp} (h : rdX g X E Γ n (.dput i kk c) D σ H) : sDPutX X.K (tVar i) (rdE g X.K (WX0 E) Γ .r kk) (rdE g X.K (WX0 E) Γ .v c) D σ H := by
  obtain ⟨F0, H0, bs, F, ta, ca, env, tp, s, h⟩ := h
  unfold exS at h
  cases q : getB env i with
  | owd kb kvs =>
    rw [q] at h
    obtain ⟨a, h1, h2, h3, h4, h6⟩ := s.slotD q
    refine ⟨F, ta, ca, env, tp, s.E, (HdS.so s h).mono fun z t1 H1 e1 w1 h => fun vz rz => ⟨.ref a, h1, F, ta, ca, env, t1, s.E.ext e1 w1, (HdS.so (s.step e1 w1) h).mono fun y t2 H2 e2 w2 h => fun vy ry => ?_⟩⟩
    have s2 := (s.step e1 w1).step e2 w2
    have rz : Rep X.K H1 F vz z := rz
    have h : HdS g X.K E F0 H0 bs ta ca (match keyK kb y && Nat.blt kvs.length 16777216 && (!kb || fstB (dput kvs y z)) with
      | true => .nx (env.set i (.owd kb (dput kvs y z))) t2
      | false => .bad) D := h
    cases hb : keyK kb y && Nat.blt kvs.length 16777216 && (!kb || fstB (dput kvs y z)) with
    | false =>
      rw [hb] at h
      exact h.elim
    | true =>
      rw [hb] at h
      obtain ⟨hb, b3⟩ := band hb
      obtain ⟨b1, b2⟩ := band hb
      cases h4 with
      | @t es ep xs vs _ e te t ra rb =>
        have hT : keyT y = true := b1
        have ry2 : Rep X.K H2 F vy y := keyT_rep hT ry
        have hy : ∃ b, vy = .ref b := by
          cases y <;> first | (exact absurd hT Bool.false_ne_true) | (cases ry2; exact ⟨_, rfl⟩)
        obtain ⟨b, rfl⟩ := hy
        have eK : H2 a = some (tdO a es ep) := (e1.trans e2) _ _ (fun z => z) e True.intro
        have hl : xs.length = kvs.length := by
          have := congrArg List.length t.key
          simpa using this
        have ra2 := ra.stepX (e1.trans e2)
        refine ⟨a, rfl, .inr ⟨b, kN y, xs, rfl, ⟨F, y, ry2, hT, rfl⟩, ⟨es, ep, eK, te, td_keys t.key t.ok ra2⟩, by rw [hl, sizeLine_eq]; exact blt_lt b2, fun w r es' ep' rv he hn => ?_⟩⟩
        obtain ⟨vs', t', a', b'⟩ := td_put (b := b) (r := r) hT ry2 rv (rz.stepX e2) t ra2 (rb.stepX (e1.trans e2))
        have te' : TE0 a es' (storedH xs (kN y) b r) := ⟨fun w' => by rw [← td_hash t'.key t'.ok w w']; exact he, hn, by
          have h1 := dput_len kvs y z
          have h2 := congrArg List.length t'.key
          simp only [List.length_map] at h2
          have h3 := blt_lt b2
          rw [sizeLine_eq]
          omega, te.sys⟩
        have st : St8 F ta H2 (upd H2 a (tdO a es' ep')) := St8.own h2
        exact h F σ _ (s2.writeG (by rw [q]; rfl) h1 h2 h3 (by rw [eK]; exact mutTd) mutTd rfl ⟨a, h1, h2, h3, .t upd_same te' t' (a'.step w2.nt st) (b'.step w2.nt st)⟩ h6)
      | @k ks _ e nk qk r =>
        obtain ⟨key, rfl, rfl⟩ := key_inv (show keyB y = true from b1) ry
        have eK : H2 a = some (.dK ks) := (e1.trans e2) _ _ (fun z => z) e (.inl h3)
        have hl : ks.length = kvs.length := by
          have := congrArg List.length qk
          simpa using this.symm
        obtain ⟨p1, p2⟩ := put_ok (k := key) (rz.stepX e2) qk (r.stepX (e1.trans e2))
        refine ⟨a, rfl, .inl ⟨upd H2 a (.dK (putK ks key vz)), .inl ⟨ks, key, eK, rfl, by rw [hl, sizeLine_eq]; exact blt_lt b2, rfl⟩, ?_⟩⟩
        refine h F σ _ (s2.writeG (by rw [q]; rfl) h1 h2 h3 (by rw [eK]; exact True.intro) True.intro rfl ⟨a, h1, h2, h3, .k upd_same (fst_hd (show fstB (dput kvs (kD key) z) = true from b3) p1) p1 (p2.step w2.nt (St8.own (ta := ta) h2))⟩ h6)
  | _ => rw [q] at h; exact h.elim
theorem tup2_inv {K : PySem.W.Frag} {H : Hp} {F : Addr → Prop} {v : V} {d1 d2 : PyData} (r : Rep K H F v (.tuple [d1, d2])) : ∃ l v1 v2, v = .ref l ∧ SqT K H l [v1, v2] ∧ Rep K H F v1 d1 ∧ Rep K H F v2 d2 := by
  cases r with
  | tup hq rs =>
    cases rs with
    | cons r1 rs =>
      cases rs with
      | cons r2 rs =>
        cases rs
        exact ⟨_, _, _, rfl, hq, r1, r2⟩
theorem swp_imp {i : Nat} {k1 k2 c1 c2 : C} {D : Ends} {σ : L2.St} {H : Hp} (h : rdX g X E Γ n (.swp i k1 k2 c1 c2) D σ H) : tAsg (rdE g X.K (WX0 E) Γ .v (.tup (.cons c1 (.cons c2 .nil)))) (gTup X.K 2 (gCons (gSub (tVar i) (rdE g X.K (WX0 E) Γ .r k1) rSetL) (gCons (gSub (tVar i) (rdE g X.K (WX0 E) Γ .r k2) rSetL) gNil))) D σ H := by
  obtain ⟨F0, H0, bs, F, ta, ca, env, tp, s, h⟩ := h
  unfold exS at h
  cases q : getB env i with
  | own ds =>
    rw [q] at h
    obtain ⟨a, vs, h1, h2, h3, h4, h5, h6⟩ := s.slot q
    refine ⟨F, ta, ca, env, tp, s.E, (HdS.so s h).mono fun d t1 H1 e1 w1 h => fun v r => ?_⟩
    have s1 := s.step e1 w1
    have r : Rep X.K H1 F v d := r
    cases d with
    | tuple dd =>
      match dd, h, r with
      | [d1, d2], h, r =>
        obtain ⟨lt, v1, v2, rfl, hq, r1, r2⟩ := tup2_inv r
        have h : HdS g X.K E F0 H0 bs ta ca ((ev Γ .r k1 env t1).so fun x t => match x with
          | .int a => match ixN ds.length a with
            | some j => (ev Γ .r k2 (env.set i (.own (ds.set j d1))) t).so fun y t => match y with
              | .int b => match ixN (ds.set j d1).length b with
                | some l => .nx (env.set i (.own ((ds.set j d1).set l d2))) t
                | none => .bad
              | _ => .bad
            | none => .bad
          | _ => .bad) D := h
        refine ⟨lt, [v1, v2], rfl, hq, rfl, v1, [v2], rfl, .ref a, h1, F, ta, ca, env, t1, s1.E, (HdS.so s1 h).mono fun x t2 H2 e2 w2 h => fun vx rx => ?_⟩
        have s2 := s1.step e2 w2
        cases x with
        | int ia =>
          cases RepR.int_inv rx
          have h : HdS g X.K E F0 H0 bs ta ca (match ixN ds.length ia with
            | some j => (ev Γ .r k2 (env.set i (.own (ds.set j d1))) t2).so fun y t => match y with
              | .int b => match ixN (ds.set j d1).length b with
                | some l => .nx (env.set i (.own ((ds.set j d1).set l d2))) t
                | none => .bad
              | _ => .bad
            | none => .bad) D := h
          cases hj : ixN ds.length ia with
          | none =>
            rw [hj] at h
            exact h.elim
          | some j =>
            rw [hj] at h
            have hA : H2 a = some (.lst vs) := (e1.trans e2) _ _ (fun z => z) h4 True.intro
            have rs2 := (h5.stepX (e1.trans e2)).set j (r1.stepX e2)
            have s3 := s2.write q h1 h2 h3 hA rs2 h6
            have hi : i < env.length := by
              by_cases z : i < env.length
              · exact z
              · rw [getB_out z] at q
                cases q
            refine ⟨a, vs, ia, j, rfl, rfl, hA, by rw [h5.length]; exact hj, v2, [], rfl, .ref a, h1, F, ta, ca, _, t2, s3.E, (HdS.so s3 h).mono fun y t3 H3 e3 w3 h => fun vy ry => ?_⟩
            have s4 := s3.step e3 w3
            cases y with
            | int ib =>
              cases RepR.int_inv ry
              have h : HdS g X.K E F0 H0 bs ta ca (match ixN (ds.set j d1).length ib with
                | some l => .nx (env.set i (.own ((ds.set j d1).set l d2))) t3
                | none => .bad) D := h
              cases hl : ixN (ds.set j d1).length ib with
              | none =>
                rw [hl] at h
                exact h.elim
              | some l2 =>
                rw [hl] at h
                have hB : H3 a = some (.lst (vs.set j v1)) := e3 _ _ (fun z => z) upd_same True.intro
                obtain ⟨a', vs', g1, g2, g3, g4, g5, g6⟩ := s4.slot (getB_set_same hi)
                rw [h1] at g1
                cases g1
                rw [hB] at g4
                cases g4
                have r2' : Rep X.K H3 F v2 d2 := ((r2.stepX e2).step w2.nt (St8.own (ta := ta) h2)).stepX e3
                refine ⟨a, _, ib, l2, rfl, rfl, hB, by rw [g5.length]; exact hl, rfl, ?_⟩
                have s5 := s4.write (getB_set_same hi) h1 h2 h3 hB (g5.set l2 r2') h6
                rw [List.set_set] at s5
                exact h F σ _ s5
            | _ => exact h.elim
        | _ => exact h.elim
    | _ => exact h.elim
  | _ => rw [q] at h; exact h.elim
end
end Q

set_option Elab.async false
set_option linter.all false
set_option maxRecDepth 100000
namespace Q
open PySem PySem.Spec L2
open PyProof.Rows hiding St
/-! ### xs[::-1] -/
section
variable {prog : Program} {w : PySem.World} {A : Around} {E : Value → Shared → Prop} {s : Shared}
theorem adjust_rev (n : Nat) : Builtin.Slice.sliceAdjust none none (-1) (n : Int) = ((n : Int) - 1, -1) := by
  simp [Builtin.Slice.sliceAdjust]
theorem places_rev (n : Nat) : Builtin.Slice.slicePlaces ((n : Int) - 1) (-1) (-1) = n := by
  unfold Builtin.Slice.slicePlaces
  rw [if_neg (by decide)]
  by_cases h : n = 0
  · subst h
    rfl
  · rw [if_pos (by omega)]
    have : ((n : Int) - 1 - -1 - 1) / (- -1) + 1 = n := by
      rw [show (- -1 : Int) = 1 by decide, Int.ediv_one]
      omega
    rw [this]
    exact Int.toNat_natCast n
theorem sliceApplied_rev {sl : Addr} {t : Tok} {n : Nat} {Q : Int × Int × Nat → Shared → Prop} (hs : s.heap.IsSliceOf sl .none .none (.int (-1) t))
    (h : Q ((n : Int) - 1, -1, n) s) : wpAny (model prog w) A (Builtin.Slice.sliceApplied (.ref sl) (pure (n : Int))) Q E s := by
  obtain ⟨os, hos, hcs, hds⟩ := id hs
  unfold Builtin.Slice.sliceApplied Builtin.Slice.sliceFields
  refine wpAny_bind (wpAny_bind (wpAny_field hos hds (x := .none) rfl (wpAny_bind (wpAny_field hos hds (x := .none) rfl (wpAny_bind (wpAny_field hos hds (x := .int (-1) t) rfl (wpAny_pure ?_)))))))
  refine wpAny_bind (slicePart_int ?_)
  show wpAny _ _ (if ((-1 : Int) == 0) = true then _ else _) _ _ s
  rw [if_neg (by decide)]
  refine wpAny_bind (slicePart_none (wpAny_bind (slicePart_none (wpAny_bind (wpAny_pure ?_)))))
  show wpAny _ _ (match Builtin.Slice.sliceAdjust none none (-1) (n : Int) with | (lo, hi) => pure (lo, (-1 : Int), Builtin.Slice.slicePlaces lo hi (-1))) _ _ s
  rw [adjust_rev n]
  show wpAny _ _ (pure (((n : Int) - 1), (-1 : Int), Builtin.Slice.slicePlaces ((n : Int) - 1) (-1) (-1))) _ _ s
  rw [places_rev]
  exact wpAny_pure h
theorem rev_get {α : Type} (xs : List α) (m : Nat) (h : m < xs.length) : xs[(((xs.length : Nat) : Int) - 1 + (m : Int) * -1).toNat]? = xs.reverse[m]? := by
  rw [List.getElem?_reverse h]
  congr 1
  omega
theorem fm_congr {α β : Type} {f g : α → Option β} : ∀ {l : List α}, (∀ x ∈ l, f x = g x) → l.filterMap f = l.filterMap g
  | [], _ => rfl
  | x :: l, h => by
    rw [List.filterMap_cons, List.filterMap_cons, h x (List.mem_cons_self ..), fm_congr fun y hy => h y (List.mem_cons_of_mem _ hy)]
theorem fm_take {α : Type} (ys : List α) : ∀ n, n ≤ ys.length → (List.range n).filterMap (fun m => ys[m]?) = ys.take n
  | 0, _ => rfl
  | n + 1, h => by
    have hn : n < ys.length := h
    rw [List.range_succ, List.filterMap_append, fm_take ys n (by omega), List.take_succ]
    simp [hn]
theorem filterMap_range {α : Type} (ys : List α) : (List.range ys.length).filterMap (fun m => ys[m]?) = ys := by
  rw [fm_take ys _ (Nat.le_refl _), List.take_length]
theorem pick_rev (xs : Array Value) : ((List.range xs.size).filterMap fun (m : Nat) => xs[(((xs.size : Nat) : Int) - 1 + (m : Int) * -1).toNat]?).toArray = xs.toList.reverse.toArray := by
  congr 1
  have e : (List.range xs.size).filterMap (fun (m : Nat) => xs[(((xs.size : Nat) : Int) - 1 + (m : Int) * -1).toNat]?) = (List.range xs.toList.reverse.length).filterMap (fun m => xs.toList.reverse[m]?) := by
    rw [List.length_reverse, Array.length_toList]
    apply fm_congr
    intro m hm
    have hm := List.mem_range.mp hm
    have := rev_get xs.toList m (by rw [Array.length_toList]; exact hm)
    rw [Array.length_toList] at this
    rw [← this]
    simp
  rw [e, filterMap_range]
theorem getItem_tuple_rev {t sl : Addr} {items : Array Value} {tk : Tok} {Q : Value → Shared → Prop} (ht : IsTup s.heap t items) (hs : s.heap.IsSliceOf sl .none .none (.int (-1) tk))
    (h : Q (.ref s.heap.objs.size) { s with heap := s.heap.push { cls := .type "tuple", data := .seq items.toList.reverse.toArray } })
    (hsz : items.size ≤ sizeLine) : wpAny (model prog w) A (getItem (.ref t) (.ref sl)) Q E s := by
  have htake : sizeOk (.seq items.toList.reverse.toArray) := by
    show items.toList.reverse.toArray.size ≤ sizeLine
    rw [List.size_toArray, List.length_reverse, Array.length_toList]
    exact hsz
  obtain ⟨os, hos, hcs, hds⟩ := id hs
  have hTs : s.TypeIs (.ref sl) "slice" := ⟨os, hos, hcs⟩
  unfold getItem
  try with_reducible refine wpAny_holding ?_
  first | refine wpAny_bind (wpAny_pure ?_) | skip
  refine wpAny_bind (wpAny_sequenceKey ht.typeIs (by decide) ?_)
  refine wpAny_bind (wpAny_callSpecial?_slot (name := Str.ofString "__getitem__") ht.typeIs PyProof.Rows.slot_tuple_getitem
    (wpAny_call_entry PyProof.Rows.slot_tuple_getitem ht.typeIs PyProof.Rows.entry_tuple_getitem ?_ (PyProof.Rows.args_tuple_getitem _ _)))
  show wpAny _ _ (Builtin.Tuple.tupleItemsOf (.ref t) >>= _) _ _ s
  refine wpAny_bind (tupleItemsOf_ ht ?_)
  refine wpAny_bind (wpAny_typeOf hTs ?_)
  rw [if_pos (by decide)]
  refine wpAny_bind (sliceApplied_rev hs ?_)
  have hno : ¬ ((((items.size : Int) - 1) == 0 && (-1 : Int) == 1 && items.size == items.size) = true) := by
    simp
  show wpAny _ _ (if ((((items.size : Int) - 1) == 0 && (-1 : Int) == 1 && items.size == items.size) = true) then _ else _) _ _ s
  rw [if_neg hno, pick_rev]
  first
    | exact wpAny_bind (m := Builtin.Tuple.tupleExact _) (wpAny_newObj_type (wpAny_pure ⟨_, rfl, wpAny_pure h⟩) htake)
    | exact wpAny_bind (m := Builtin.Tuple.tupleExact _) (wpAny_newObj_type (wpAny_bind (wpAny_pure (wpAny_pure ⟨_, rfl, wpAny_pure h⟩))) htake)
    | exact wpAny_bind (wpAny_bind (m := Builtin.Tuple.tupleExact _) (wpAny_newObj_type (wpAny_pure (wpAny_pure ⟨_, rfl, wpAny_pure h⟩)) htake))
    | exact wpAny_bind (wpAny_bind (m := Builtin.Tuple.tupleExact _) (wpAny_newObj_type (wpAny_pure ⟨_, rfl, wpAny_pure h⟩) htake))
end
section
variable {X : Cx} {e : Expr} {te : TE}
def tRev (K : PySem.W.Frag) (te : TE) : TE := fun σ H Q => te σ H fun x H1 => ∃ a xs, x = .ref a ∧ ((SqL K H1 a xs ∧ ∀ p, H1 p = none → Q (.ref p) (upd H1 p (.lst xs.reverse))) ∨ (SqT K H1 a xs ∧ ∀ p, H1 p = none → Q (.ref p) (upd H1 p (.tup xs.reverse))))
theorem Vals.rev {xs : List V} {us : List Value} (r : Vals xs us) : Vals xs.reverse us.reverse := by
  have key : ∀ (xs : List V) (us : List Value) (ys : List V) (ws : List Value), Vals xs us → Vals ys ws → Vals (xs.reverse ++ ys) (us.reverse ++ ws) := by
    intro xs
    induction xs with
    | nil => intro us ys ws r q; cases r; exact q
    | cons x xs ih =>
      intro us ys ws r q
      cases r with
      | cons a b =>
        rw [List.reverse_cons, List.reverse_cons, List.append_assoc, List.append_assoc]
        exact ih _ _ _ b (.cons a q)
  have := key xs us [] [] r .nil
  simpa using this
theorem slicePick_rev (its : List Value) : slicePick its.toArray none none (some (-1)) = its.reverse.toArray := by
  have hb : sliceBounds none none (some (-1)) its.toArray.size = ((its.toArray.size : Int) - 1, -1, -1) := rfl
  unfold slicePick
  rw [hb]
  show ((sliceRange ((its.toArray.size : Int) - 1) (-1) (-1)).filterMap (its.toArray[·]?)).toArray = _
  congr 1
  unfold sliceRange
  have hc : (if (-1 : Int) > 0 then (if (its.toArray.size : Int) - 1 < -1 then (-1 - ((its.toArray.size : Int) - 1) + -1 - 1) / -1 else 0) else (if (its.toArray.size : Int) - 1 > -1 then ((its.toArray.size : Int) - 1 - -1 - -1 - 1) / (- -1) else 0)) = (its.length : Int) := by
    rw [if_neg (by decide), List.size_toArray]
    by_cases h : its.length = 0
    · rw [h, if_neg (by decide)]
      rfl
    · rw [if_pos (by omega), show (- -1 : Int) = 1 by decide, Int.ediv_one]
      omega
  simp only [hc, Int.toNat_natCast]
  rw [List.filterMap_map]
  have e : (List.range its.length).filterMap ((fun x => its.toArray[x]?) ∘ fun (k : Nat) => ((its.toArray.size : Int) - 1 + -1 * (k : Int)).toNat) = (List.range its.reverse.length).filterMap (fun m => its.reverse[m]?) := by
    rw [List.length_reverse]
    apply fm_congr
    intro m hm
    have := rev_get its m (List.mem_range.mp hm)
    rw [← this, Function.comp_apply, List.size_toArray, Int.mul_comm (-1) (m : Int)]
    simp
  rw [e, filterMap_range]
theorem pe_rev {j : Nat} {p0 p1 p2 pos : Pos} (he : PE X e te) : PE X (.Subscript e (.Slice none none (some (.UnaryOp .USub (.Constant (.int 1) j p0) p1)) p2) pos) (tRev X.K te) := by
  have hstep : PE X (.UnaryOp .USub (.Constant (.int 1) j p0) p1) (tUn (fun x H Q => ∃ i, x = .int i ∧ Q (.int (-i)) H) (tC (.int 1))) := pe_un un_neg pe_int
  refine ⟨fun pins s σ H Q I h => ?_⟩
  refine Subscript_ (thn (he.run pins s σ H _ I h) fun v s1 ⟨x, H1, I1, r1, a, xs, ex, q1⟩ => ?_)
  subst ex
  cases r1
  refine wpAny_Slice ?_
  rw [evalPart_none]
  refine wpAny_pure ?_
  refine wpAny_pure ?_
  rw [evalPart_some]
  refine thn (hstep.run pins s1 σ H1 (fun y H2 => y = .int (-1) ∧ H2 = H1) I1 ⟨1, rfl, rfl, rfl⟩) fun u s2 ⟨y, H2, I2, r2, e1, e2⟩ => ?_
  subst e1 e2
  obtain ⟨t, rfl⟩ := r2
  have I4 : Inv X pins σ H2 { s2 with heap := s2.heap.push { cls := .type "slice", data := .fields #[.none, .none, .int (-1) t] } } := I2.kept (t' := s2.toks) fun b ob q => Heap.get?_push_of_some _ q
  have hsl : ({ s2 with heap := s2.heap.push { cls := .type "slice", data := .fields #[.none, .none, .int (-1) t] } } : Shared).heap.IsSliceOf s2.heap.objs.size .none .none (.int (-1) t) := Heap.IsSliceOf.new ..
  generalize ({ s2 with heap := s2.heap.push { cls := .type "slice", data := .fields #[.none, .none, .int (-1) t] } } : Shared) = s4 at I4 hsl
  show wpAny (model X.prog X.w) X.A (subscriptTail e (.Slice none none (some (.UnaryOp .USub (.Constant (.int 1) j p0) p1)) p2) (.ref a) (.ref s2.heap.objs.size)) (EP X pins σ Q) X.xe s4
  rcases q1 with ⟨hx, q⟩ | ⟨hx, q⟩
  · obtain ⟨its, r, ht, hz⟩ := I4.list hx
    have hlen := r.length
    refine tail_any (ops := [.ref a, .ref s2.heap.objs.size]) ht.isList.typeIs slot_list_getitem.lookup ?_ (by with_unfolding_all rfl)
    refine wpAny_getItem_list_slice ht.isList hsl .none .none (.int (-1) t) (by decide) ?_ (by rw [List.size_toArray] <;> omega)
    rw [slicePick_rev]
    refine ⟨.ref s4.heap.objs.size, _, I4.laid (t' := s4.toks) (o := .lst xs.reverse) (fun b ob q => Heap.get?_push_of_some _ q) (Nat.le_refl _) ?_, rfl, q _ (I4.hok.fresh (Nat.le_refl _))⟩
    exact ⟨by rw [List.length_reverse]; exact hz, _, 0, Vals.rev r, Heap.get?_push_size _ rfl⟩
  · obtain ⟨its, r, ht, hz⟩ := I4.tuple hx
    have hlen := r.length
    refine tail_any (ops := [.ref a, .ref s2.heap.objs.size]) ht.typeIs PyProof.Rows.slot_tuple_getitem.lookup ?_ (by with_unfolding_all rfl)
    refine getItem_tuple_rev ht hsl ?_ (by rw [List.size_toArray] <;> omega)
    refine ⟨.ref s4.heap.objs.size, _, I4.laid (t' := s4.toks) (o := .tup xs.reverse) (fun b ob q => Heap.get?_push_of_some _ q) (Nat.le_refl _) ?_, rfl, q _ (I4.hok.fresh (Nat.le_refl _))⟩
    exact ⟨by rw [List.length_reverse]; exact hz, _, Vals.rev r, IsTup.new _ _⟩
end

section
variable {g : G} {W : WX} {Γ : Sm} {X : Cx} {N : List Str} {sc : Scope} {k : Nat} {m : M}
theorem Reps.rev {K : PySem.W.Frag} {H : Hp} {F : Addr → Prop} {vs : List V} {ds : List PyData} (r : Reps K H F vs ds) : Reps K H F vs.reverse ds.reverse := by
  induction vs generalizing ds with
  | nil => cases r; exact .nil
  | cons v vs ih =>
    cases r with
    | cons a b =>
      rw [List.reverse_cons, List.reverse_cons]
      exact (ih b).append (.cons a .nil)
theorem e_rev {a : C} {ea : Expr} {j : Nat} {p0 p1 p2 pos : Pos} (hm : m ≠ .t) (ha : PE X ea (rdE g X.K W Γ .r a)) : PE X (.Subscript ea (.Slice none none (some (.UnaryOp .USub (.Constant (.int 1) j p0) p1)) p2) pos) (rdE g X.K W Γ m (.rev a)) := by
  refine PE.imp (pe_rev ha) fun σ H Q h => ?_
  obtain ⟨F, ta, ca, env, tp, E, h⟩ := h
  unfold ev at h
  rw [fin_ne hm] at h
  refine ⟨F, ta, ca, env, tp, E, h.bind.mono fun d t1 H1 e1 w1 h => fun x rx => ?_⟩
  obtain ⟨z, hz, h⟩ := h.opt
  cases d with
  | list xs =>
    cases hz
    obtain ⟨l, vs, rfl, hl, s⟩ := RepR.lst_inv rx
    exact ⟨l, vs, rfl, .inl ⟨SqL.ofL hl, fun p hp => h _ (Ext.new hp) (w1.new hp) _ (.of (new_lst w1 s.rev hp))⟩⟩
  | tuple xs =>
    cases hz
    obtain ⟨l, vs, rfl, hl, s⟩ := (RepR.tup_inv rx).tup_inv
    exact ⟨l, vs, rfl, .inr ⟨hl, fun p hp => h _ (Ext.new hp) (w1.new hp) _ (.of (new_tup w1 s.rev hp))⟩⟩
  | _ => cases hz
/-! a op b op c op d -/
def tChain3 (r r' r'' : R2) (ta tb tc td : TE) : TE := fun σ H Q => ta σ H fun x H1 => tb σ H1 fun y H2 => r x y H2 fun z H3 => ∃ k, z = .bl k ∧
  (if k = true then tc σ H3 fun w' H4 => r' y w' H4 fun z2 H5 => ∃ k2, z2 = .bl k2 ∧ (if k2 = true then td σ H5 fun u H6 => r'' w' u H6 Q else Q (.bl false) H5) else Q (.bl false) H3)
theorem iteFF {α : Prop} {β : Prop} (h : β) : if false = true then α else β := by
  rw [if_neg Bool.false_ne_true]
  exact h
theorem pe_chain3 {op op' op'' : CmpOp} {r r' r'' : R2} {a b c d : Expr} {ta tb tc td : TE} {pos : Pos} (ho : OpR X (compareOp op) r) (ho' : OpR X (compareOp op') r') (ho'' : OpR X (compareOp op'') r'') (ha : PE X a ta) (hb : PE X b tb) (hc : PE X c tc) (hd : PE X d td)
    (hm : lastMarks [op, op', op''] [b, c, d] = false) : PE X (.Compare a [op, op', op''] [b, c, d] pos) (tChain3 r r' r'' ta tb tc td) := by
  refine ⟨fun pins s σ H Q I h => ?_⟩
  refine Compare_chain (thn (ha.run pins s σ H _ I h) fun v s1 ⟨x, H1, I1, r1, q1⟩ => chain_link (thn (hb.run pins s1 σ H1 _ I1 q1) fun u s2 ⟨y, H2, I2, r2, q2⟩ =>
    thn (ho pins s2 σ H2 x y v u _ I2 r1 r2 q2) fun d s3 ⟨z, H3, I3, r3, k, e, q3⟩ => ?_)) hm
  subst e
  cases r3
  refine wpAny_truthy_bool ?_
  cases k with
  | false => exact ite_ff ⟨.bl false, H3, I3, rfl, q3⟩
  | true =>
    refine ite_tt (chain_link (thn (hc.run pins s3 σ H3 _ I3 q3) fun w' s4 ⟨z', H4, I4, r4, q4⟩ => thn (ho' pins s4 σ H4 y z' u w' _ I4 r2 r4 q4) fun d s5 ⟨z2, H5, I5, r5, k2, e2, q5⟩ => ?_))
    subst e2
    cases r5
    refine wpAny_truthy_bool ?_
    cases k2 with
    | false => exact ite_ff ⟨.bl false, H5, I5, rfl, q5⟩
    | true => exact ite_tt (chain_last (thn (hd.run pins s5 σ H5 _ I5 q5) fun w2 s6 ⟨z3, H6, I6, r6, q6⟩ => ho'' pins s6 σ H6 z' z3 w' w2 Q I6 r4 r6 q6))
theorem pt_chain3 {op op' op'' : CmpOp} {r r' r'' : R2} {a b c d : Expr} {ta tb tc td : TE} {pos : Pos} (ho : OpR X (compareOp op) r) (ho' : OpR X (compareOp op') r') (ho'' : OpR X (compareOp op'') r'') (ha : PE X a ta) (hb : PE X b tb) (hc : PE X c tc) (hd : PE X d td)
    (hm : lastMarks [op, op', op''] [b, c, d] = false) : PT X (.Compare a [op, op', op''] [b, c, d] pos) (tTest (tChain3 r r' r'' ta tb tc td)) := by
  refine ⟨fun pins s σ H Q I h => ?_⟩
  refine isTrue_chain (thn (ha.run pins s σ H _ I h) fun v s1 ⟨x, H1, I1, r1, q1⟩ => test_link (thn (hb.run pins s1 σ H1 _ I1 q1) fun u s2 ⟨y, H2, I2, r2, q2⟩ =>
    thn (ho pins s2 σ H2 x y v u _ I2 r1 r2 q2) fun d s3 ⟨z, H3, I3, r3, k, e, q3⟩ => ?_)) hm
  subst e
  cases r3
  refine wpAny_truthy_bool ?_
  cases k with
  | false =>
    obtain ⟨k', e', q'⟩ := q3
    cases e'
    exact ite_ff ⟨H3, I3, q'⟩
  | true =>
    refine ite_tt (test_link (thn (hc.run pins s3 σ H3 _ I3 q3) fun w' s4 ⟨z', H4, I4, r4, q4⟩ => thn (ho' pins s4 σ H4 y z' u w' _ I4 r2 r4 q4) fun d s5 ⟨z2, H5, I5, r5, k2, e2, q5⟩ => ?_))
    subst e2
    cases r5
    refine wpAny_truthy_bool ?_
    cases k2 with
    | false =>
      obtain ⟨k', e', q'⟩ := q5
      cases e'
      exact ite_ff ⟨H5, I5, q'⟩
    | true =>
      refine ite_tt (test_last (thn (hd.run pins s5 σ H5 _ I5 q5) fun w2 s6 ⟨z3, H6, I6, r6, q6⟩ => thn (ho'' pins s6 σ H6 z' z3 w' w2 _ I6 r4 r6 q6) fun d s7 ⟨z4, H7, I7, r7, k3, e3, q7⟩ => ?_))
      subst e3
      cases r7
      exact wpAny_truthy_bool ⟨H7, I7, q7⟩
theorem chain3_imp {o p q : CO} {a b c d : C} {R : PyData → Tp → Hp → Prop} {Q : VK} {F : Addr → Prop} {ta ca : Addr} {env : QE} {tp : Tp} {σ : L2.St} {H : Hp} (E : EnvOk g X.K F ta ca H σ env tp)
    (h : HdG g W F ta ca H σ (ev Γ m (.chain3 o p q a b c d) env tp) R) (hR : ∀ kk tp H', R (.bool kk) tp H' → Q (.bl kk) H') : tChain3 (rCmp X.K o) (rCmp X.K p) (rCmp X.K q) (rdE g X.K W Γ .r a) (rdE g X.K W Γ .r b) (rdE g X.K W Γ .r c) (rdE g X.K W Γ .r d) σ H Q := by
  unfold ev at h
  refine ⟨F, ta, ca, env, tp, E, h.bind.mono fun d t1 H1 e1 w1 h => fun x rx => ⟨F, ta, ca, env, t1, E.ext e1 w1, h.bind.mono fun d2 t2 H2 e2 w2 h => fun y ry => ?_⟩⟩
  obtain ⟨kk, hz, h⟩ := h.bind.opt
  have h := h H2 (.refl _ _ _) w2
  refine cmp_ok hz (RepR.step w1.nt e2 rx) ry ⟨kk, rfl, ?_⟩
  cases kk with
  | false => exact iteF (hR _ _ _ (h.now w2))
  | true =>
    refine iteT ⟨F, ta, ca, env, t2, (E.ext e1 w1).ext e2 w2, h.bind.mono fun d3 t3 H3 e3 w3 h => fun z rz => ?_⟩
    obtain ⟨k2, hz, h⟩ := h.bind.opt
    have h := h H3 (.refl _ _ _) w3
    refine cmp_ok hz (RepR.step w2.nt e3 ry) rz ⟨k2, rfl, ?_⟩
    cases k2 with
    | false => exact iteF (hR _ _ _ (h.now w3))
    | true =>
      refine iteT ⟨F, ta, ca, env, t3, ((E.ext e1 w1).ext e2 w2).ext e3 w3, h.bind.mono fun d4 t4 H4 e4 w4 h => fun u ru => ?_⟩
      obtain ⟨z4, hz, h⟩ := h.opt
      obtain ⟨k4, hk, rfl⟩ := Option.map_eq_some_iff.mp hz
      exact cmp_ok hk (RepR.step w3.nt e4 rz) ru (hR _ _ _ (h H4 (.refl _ _ _) w4))
theorem e_chain3 {o p q : CO} {a b c d : C} {ea eb ec ed : Expr} {pos : Pos} (G : Gd X N sc k) (hm : m ≠ .t) (ha : PE X ea (rdE g X.K W Γ .r a)) (hb : PE X eb (rdE g X.K W Γ .r b)) (hc : PE X ec (rdE g X.K W Γ .r c)) (hd : PE X ed (rdE g X.K W Γ .r d)) (hk : lastMarks [coOf o, coOf p, coOf q] [eb, ec, ed] = false) :
    PE X (.Compare ea [coOf o, coOf p, coOf q] [eb, ec, ed] pos) (rdE g X.K W Γ m (.chain3 o p q a b c d)) := by
  refine PE.imp (pe_chain3 (op_cmp o G.hu) (op_cmp p G.hu) (op_cmp q G.hu) ha hb hc hd hk) fun σ H Q h => ?_
  obtain ⟨F, ta, ca, env, tp, E, h⟩ := h
  exact chain3_imp E h fun kk _ _ h => h _ (.of (.bl _))
theorem t_chain3 {o p q : CO} {a b c d : C} {ea eb ec ed : Expr} {pos : Pos} (G : Gd X N sc k) (ha : PE X ea (rdE g X.K W Γ .r a)) (hb : PE X eb (rdE g X.K W Γ .r b)) (hc : PE X ec (rdE g X.K W Γ .r c)) (hd : PE X ed (rdE g X.K W Γ .r d)) (hk : lastMarks [coOf o, coOf p, coOf q] [eb, ec, ed] = false) :
    PT X (.Compare ea [coOf o, coOf p, coOf q] [eb, ec, ed] pos) (rdT g X.K W Γ (.chain3 o p q a b c d)) := by
  refine PT.imp (pt_chain3 (op_cmp o G.hu) (op_cmp p G.hu) (op_cmp q G.hu) ha hb hc hd hk) fun σ H Q h => ?_
  obtain ⟨F, ta, ca, env, tp, E, h⟩ := h
  exact chain3_imp E h fun kk _ _ h => ⟨kk, rfl, h _ rfl⟩
/-! range(a, b, -1); d.items() -/
theorem downGo_len (lo : Int) : ∀ n i, (downGo lo i n).length = n
  | 0, _ => rfl
  | n + 1, i => by
    unfold downGo
    rw [List.length_cons, downGo_len lo n]
theorem downGo_get (lo : Int) : ∀ n i j, j < n → (downGo lo i n)[j]? = some (PyData.int (lo + ((i + j : Nat) : Int) * -1))
  | 0, _, _, h => absurd h (Nat.not_lt_zero _)
  | n + 1, i, 0, _ => rfl
  | n + 1, i, j + 1, h => by
    unfold downGo
    rw [List.getElem?_cons_succ, downGo_get lo n (i + 1) j (Nat.lt_of_succ_lt_succ h)]
    rw [show i + 1 + j = i + (j + 1) by omega]
theorem it_down {K : PySem.W.Frag} {F : Addr → Prop} {ta ca : Addr} {H : Hp} {lo : Int} {n : Nat} : ItOk g K m F ta ca H (downGo lo 0 n) (Itc lo (-1) n) := by
  refine ⟨fun _ => True, _, by rw [downGo_len]; exact walk_rangeC, fun _ _ => True.intro, fun F' i H1 x H2 tp1 hF hi e w1 y => ?_⟩
  obtain ⟨rfl, rfl⟩ := y
  rw [downGo_len] at hi
  refine ⟨.refl _ _ _, w1, _, downGo_get lo n 0 i hi, ?_⟩
  rw [Nat.zero_add]
  exact .int _
theorem RepMs.three {K : PySem.W.Frag} {H : Hp} {F : Addr → Prop} {vs : List V} {d e f : PyData} (r : RepMs m K H F vs [d, e, f]) : ∃ x y z, vs = [x, y, z] ∧ RepM m K H F x d ∧ RepM m K H F y e ∧ RepM m K H F z f := by
  cases m with
  | v => cases r with
    | cons a b => cases b with
      | cons c d => cases d with
        | cons e f => cases f; exact ⟨_, _, _, rfl, a, c, e⟩
  | r => cases r with
    | cons a b => cases b with
      | cons c d => cases d with
        | cons e f => cases f; exact ⟨_, _, _, rfl, a, c, e⟩
  | t => cases r with
    | cons a b => cases b with
      | cons c d => cases d with
        | cons e f => cases f; exact ⟨_, _, _, rfl, a, c, e⟩
theorem i_rng3 {as : Cs} {tg e e2 e3 : Expr} {p pos : Pos} (G : Gd X N sc k) (hg : glB sc "range" = true) (hx : X.mg "range" = none) (ha : PA X [e, e2, e3] (rdEs g X.K W Γ m as)) (hs : starB e = false) (hs2 : [e2, e3].all (fun e => !starB e) = true) : PI X tg (.Call (.Name "range" p) [e, e2, e3] [] pos) (rdI g X.K W Γ m .rng3 as) := by
  refine PI.imp (pi_range3 (gl_of G hg) hx ha (star_eq hs) (star_none hs2)) fun σ H R h => ?_
  obtain ⟨F, ta, ca, env, tp, E, h⟩ := h
  refine ⟨F, ta, ca, env, tp, E, h.bind.mono fun ds t1 H1 e1 w1 h => fun vs rs => ?_⟩
  obtain ⟨xs, hx, h⟩ := HdG.opt h
  have hJ := h H1 (.refl _ _ _) w1
  have hx : rng3D ds = some xs := hx
  unfold rng3D at hx
  split at hx
  · obtain ⟨hb, rfl⟩ := grd_some hx
    obtain ⟨x, y, z, rfl, r, r2, r3⟩ := rs.three
    cases r.int_inv
    cases r2.int_inv
    cases r3.int_inv
    obtain ⟨hb, _⟩ := band hb
    obtain ⟨hb, s2⟩ := band hb
    obtain ⟨hc, s1⟩ := band hb
    cases of_decide_eq_true hc
    have s := sm62_ok s1
    have s2 := sm62_ok s2
    exact ⟨_, _, _, _, rfl, RgC.neg s.2.2.1 s.2.2.2 s2.2.2.1 s2.2.2.2, hJ _ it_down⟩
  · cases hx
def isTupE2 : Expr → Bool
  | .Tuple _ _ _ => true
  | _ => false
theorem it_items {K : PySem.W.Frag} {F : Addr → Prop} {ta ca : Addr} {H : Hp} {tp : Tp} {d : Addr} {o : Obj} {kvs : List (L2.Key × V)} {ds : List (PyData × PyData)} (w : World g F ta ca H tp) (e : H d = some (.frz o (.dK kvs))) (q : ds.map (·.1) = kvs.map (fun p => kD p.1)) (r : Reps K H F (kvs.map (·.2)) (ds.map (·.2))) :
    ItOk g K m F ta ca H (ds.map fun p => .tuple [p.1, p.2]) (Iti d o kvs) := by
  have hl : ds.length = kvs.length := by
    have := congrArg List.length q
    simpa using this
  refine ⟨fun H => H d = some (.frz o (.dK kvs)), _, by rw [List.length_map, hl]; exact walk_items, fun H1 e1 => ?_, fun F' i H1 x H2 tp1 hF hi e1 w1 y => ?_⟩
  · cases m with
    | v => exact frz_keep w.nt e1 e
    | r => exact frz_keep (fun _ z => z.elim) e1 e
    | t => exact frz_keep (fun _ z => z.elim) e1 e
  · obtain ⟨T, vx, vy, rfl, hT, rfl, h1, h2⟩ := y
    rw [List.length_map] at hi
    have hik : i < kvs.length := by rw [← hl]; exact hi
    dsimp only at h1 h2
    rw [List.getElem?_eq_getElem hik] at h1 h2
    simp only [Option.map_some, Option.some.injEq] at h1 h2
    subst h1 h2
    have hk : (ds.map (·.1))[i]? = (kvs.map (fun p => kD p.1))[i]? := by rw [q]
    rw [List.getElem?_map, List.getElem?_map, List.getElem?_eq_getElem hi, List.getElem?_eq_getElem hik] at hk
    simp only [Option.map_some, Option.some.injEq] at hk
    obtain ⟨dv, hd, rv⟩ := (Reps.st8 w.nt hF e1 r).getV (i := i) (v := kvs[i].2) (by rw [List.getElem?_map, List.getElem?_eq_getElem hik]; rfl)
    rw [List.getElem?_map, List.getElem?_eq_getElem hi] at hd
    simp only [Option.map_some, Option.some.injEq] at hd
    have rk : Rep K H1 F' (kV kvs[i].1) ds[i].1 := by
      rw [hk]
      cases kvs[i].1 with
      | inl j => exact .int _
      | inr s => exact .str _
    rw [← hd] at rv
    obtain ⟨p1, p2, p3⟩ := pair_new w1 hT rk rv
    exact ⟨p1, p2, _, by rw [List.getElem?_map, List.getElem?_eq_getElem hi]; rfl, p3⟩
/-! items of a dict of tuples -/
def EnR (es : Array DictEntry) (ks : List Addr) (vs : List V) : Prop := ∀ i (hi : i < es.size), ∃ b v, ks[i]? = some b ∧ vs[i]? = some v ∧ es[i].key = .ref b ∧ RelV v es[i].val
def Itx (d : Addr) (es : Array DictEntry) (ep : Nat) (ks : List Addr) (vs : List V) : It :=
  ⟨fun i H => H d = some (tdO d es ep) ∧ i < es.size, fun i H x H' => ∃ T b v, ks[i]? = some b ∧ vs[i]? = some v ∧ x = .ref T ∧ H T = none ∧ H' = upd H T (.tup [.ref b, v]), fun i H => H d = some (tdO d es ep) ∧ es.size ≤ i⟩
theorem turn_itx {P : Program} {w : PySem.World} {K : PySem.W.Frag} {elts : List Expr} {kk : Nat} {tpos : Pos} {d : Addr} {es : Array DictEntry} {ep : Nat} {ks : List Addr} {vs : List V} (it : Addr) (en : EnR es ks vs) :
    Turn P w K (.Tuple elts kk tpos) (Itx d es ep ks vs) [it] it (fun i h => ∃ ok ov, IsItemIter h it d i es.size ep ok ov) where
  mem := by simp
  obj := fun i h st b hb => by
    have e : b = it := by simpa using hb
    subst e
    obtain ⟨ok, ov, e⟩ := st
    exact ⟨_, e, fun v z => nomatch z⟩
  keep := fun i h h' st k => let ⟨ok, ov, e⟩ := st; ⟨ok, ov, k it (by simp) _ e⟩
  item := by
    intro X hP hw hK hc i pins s σ H E I hf st hg
    subst hP hw hK
    obtain ⟨hd, hi⟩ := hg
    have dr := td_raw I hd
    obtain ⟨b, v, hb, hv, hkey, rv⟩ := en i hi
    obtain ⟨ok, ov, he⟩ := st
    have hlt : it < s.heap.objs.size := Heap.lt_size he
    refine wpAny_pyNext_items_item_raw he dr hi fun h' ho hT hz hk => ?_
    refine ⟨_, rfl, wpAny_letOwnedTupleGo_items (s := { s with heap := h' }) ho fun h'' he' sb => ?_⟩
    have hT2 : h''.get? s.heap.objs.size = some { cls := .type "tuple", data := .seq #[es[i].key, es[i].val] } := (sb.2 _ (Nat.ne_of_gt hlt)).trans hT
    have new : ObjOk X.prog X.w (upd H s.heap.objs.size (.tup [.ref b, v])) h'' s.heap.objs.size (.tup [.ref b, v]) :=
      ⟨by show 2 ≤ sizeLine; decide, [es[i].key, es[i].val], .cons (by rw [hkey]; rfl) (.cons rv .nil), ⟨_, hT2, rfl, _, rfl⟩⟩
    have I1 : Inv X pins σ (upd H s.heap.objs.size (.tup [.ref b, v])) { s with heap := h'' } :=
      I.turnedNew (t' := s.toks) (ch := [it]) (fun b ob hb e => (sb.2 b (by simpa using hb)).trans (hk b ob (by simpa using hb) e)) hf (Nat.le_refl _) new
    refine ⟨.ref s.heap.objs.size, _, I1, rfl, ⟨_, b, v, hb, hv, rfl, I.hok.fresh (Nat.le_refl _), rfl⟩, ⟨_, _, he'⟩, fun b hb => ?_⟩
    have e : b = it := by simpa using hb
    rw [e, upd_ne (Nat.ne_of_lt hlt)]
    exact (hf it (by simp)).1
  done := by
    intro X hP hw hK hc i pins s σ H E I hf st hg
    subst hP hw hK
    obtain ⟨hd, hi⟩ := hg
    obtain ⟨f0, f1, f2, f3, f4, f5⟩ := hf it (by simp)
    obtain ⟨ok, ov, he⟩ := st
    exact wpAny_pyNext_items_end_raw (I.ok.hd hc) he (td_raw I hd) hi fun h' eb => ⟨rfl, I.turned (t' := s.toks) (fun b ob hb e => eb b ob hb e) f0 f1 f3 f4 f5⟩
  self := fun A i s Q E st h => let ⟨_, _, e⟩ := st; PySem.W.kcp_self e h
def iItemsX (td : TE) : TI := fun σ H R => td σ H fun x H1 => ∃ d, x = .ref d ∧ ((∃ o kvs, H1 d = some (.frz o (.dK kvs)) ∧ R (Iti d o kvs) H1) ∨ ∃ es ep ks vs, H1 d = some (tdO d es ep) ∧ (d == sysModules) = false ∧ EnR es ks vs ∧ R (Itx d es ep ks vs) H1)
theorem pi_itemsX {X : Cx} {e : Expr} {td : TE} {apos cpos : Pos} {elts : List Expr} {kk : Nat} {tpos : Pos} (he : PE X e td) (hbase : attributeBase e "items" X.env (eval e X.env) = eval e X.env) (hline : (apos.endLine == cpos.line) = true) :
    PI X (.Tuple elts kk tpos) (.Call (.Attribute e "items" apos) [] [] cpos) (iItemsX td) := by
  refine ⟨fun pins s σ H R I h => ?_⟩
  refine wpAny_Call_method (T := "dict") (id := "dict.items") hbase rfl hline F.plainAttrs_dict F.slot_dict_items F.type_dict_items (thn (he.run pins s σ H _ I h) fun u s1 ⟨x, H1, I1, rx, d, ex, q⟩ => ?_)
  subst ex
  obtain rfl : u = Value.ref d := rx
  have I2 : Inv X pins σ H1 { s1 with heap := s1.heap.push { cls := .type "dict_items", data := .fields #[.ref d] } } := I1.kept (t' := s1.toks) fun b ob q => Heap.get?_push_of_some _ q
  rcases q with ⟨o, kvs, hd, q⟩ | ⟨es, ep, ks, vs, hd, hs, en, q⟩
  · obtain ⟨hs, hgd, hx, es, ep, vs, hdt, hsz, kv, hm⟩ := I1.frzK hd
    have hl : kvs.length = vs.length := Paired.length kv
    refine ⟨hm.dictOf.typeIs, hm.dictOf.mapOf.noDict, ?_⟩
    have fin : wpAny (model X.prog X.w) X.A (pyIter (.ref s1.heap.objs.size)) (PIE X pins σ (.Tuple elts kk tpos) R) X.xe { s1 with heap := s1.heap.push { cls := .type "dict_items", data := .fields #[.ref d] } } := by
      refine wpAny_pyIter_items (d := d) (knd := mixKind X.prog X.w) ⟨_, Heap.get?_push_size _ rfl, rfl, rfl⟩ (hm.push _) (pi_one (tk := s1.toks) I2 _ (turn_items _ hdt) ⟨.none, .none, ?_⟩ q)
      rw [hl]
      exact Heap.get?_push_size _ rfl
    show wpAny _ _ (callWith cpos (.builtin "dict.items") [.ref d] [] []) _ X.xe s1
    exact method_meetsIn F.slot_dict_items F.entry_dict_items rfl (PySem.evalArgs_none ⟨rfl, hm.dictOf.typeIs, F.args_dict_items_1 _, _, meets_dict_items (mixKind X.prog X.w) d hs, ⟨vs, hm.dictOf⟩, fin⟩)
  · have dr := td_raw I1 hd
    refine ⟨dr.typeIs, fun b q => ?_, ?_⟩
    · cases q
      obtain ⟨ob, h1, h2, _⟩ := dr
      exact ⟨ob, h1, h2.2.1⟩
    have fin : wpAny (model X.prog X.w) X.A (pyIter (.ref s1.heap.objs.size)) (PIE X pins σ (.Tuple elts kk tpos) R) X.xe { s1 with heap := s1.heap.push { cls := .type "dict_items", data := .fields #[.ref d] } } := by
      refine wpAny_pyIter_items_raw (d := d) ⟨_, Heap.get?_push_size _ rfl, rfl, rfl⟩ (dr.at fun o e => Heap.get?_push_of_some _ e) (pi_one (tk := s1.toks) I2 _ (turn_itx _ en) ⟨.none, .none, ?_⟩ q)
      exact Heap.get?_push_size _ rfl
    show wpAny _ _ (callWith cpos (.builtin "dict.items") [.ref d] [] []) _ X.xe s1
    exact method_meetsIn F.slot_dict_items F.entry_dict_items rfl (PySem.evalArgs_none ⟨rfl, dr.typeIs, F.args_dict_items_1 _, _, meets_dict_items_raw d hs, ⟨⟨es, ep, dr⟩, fin⟩⟩)
theorem en_of {es : Array DictEntry} {a : Addr} {xs : List (NestedKey × Addr × Value)} {vs : List V} {ds : List (PyData × PyData)} (te : TE0 a es xs) (t : TD xs vs ds) (w : PySem.World) : EnR es (xs.map fun x => x.2.1) vs := by
  intro i hi
  have e := te.ent w
  have hz : es.size = xs.length := by
    have := congrArg List.length e
    simpa using this
  have hx : i < xs.length := by omega
  have q : es.toList[i]? = (xs[i]?).map fun x => (⟨NestedKey.hash w x.1, .ref x.2.1, x.2.2⟩ : DictEntry) := by rw [e, List.getElem?_map]
  rw [Array.getElem?_toList, Array.getElem?_eq_getElem hi, List.getElem?_eq_getElem hx, Option.map_some] at q
  have q := Option.some.inj q
  have hv : i < vs.length := by
    have := t.val.length
    rw [List.length_map] at this
    omega
  obtain ⟨u, hu, ru⟩ := t.val.get (i := i) (x := vs[i]) (List.getElem?_eq_getElem hv)
  rw [List.getElem?_map, List.getElem?_eq_getElem hx] at hu
  cases hu
  exact ⟨xs[i].2.1, vs[i], by rw [List.getElem?_map, List.getElem?_eq_getElem hx]; rfl, List.getElem?_eq_getElem hv, by rw [q], by rw [q]; exact ru⟩
theorem it_itx {K : PySem.W.Frag} {F : Addr → Prop} {ta ca : Addr} {H : Hp} {tp : Tp} {d : Addr} {es : Array DictEntry} {ep : Nat} {xs : List (NestedKey × Addr × Value)} {vs : List V} {ds : List (PyData × PyData)} (w : World g F ta ca H tp) (e : H d = some (tdO d es ep)) (nF : ¬ F d) (te : TE0 d es xs) (t : TD xs vs ds) (ra : Reps K H F (xs.map fun x => V.ref x.2.1) (ds.map (·.1))) (rb : Reps K H F vs (ds.map (·.2))) (w0 : PySem.World) :
    ItOk g K .v F ta ca H (ds.map fun p => .tuple [p.1, p.2]) (Itx d es ep (xs.map fun x => x.2.1) vs) := by
  have hz : es.size = ds.length := by
    have h1 := congrArg List.length (te.ent w0)
    have h2 := congrArg List.length t.key
    simp only [List.length_map, Array.length_toList] at h1 h2
    omega
  have wk : Walk (Itx d es ep (xs.map fun x => x.2.1) vs) ds.length (fun H => H d = some (tdO d es ep)) (YPair (fun i => (xs[i]?).map fun x => V.ref x.2.1) (fun i => vs[i]?)) := by
    refine ⟨fun _ _ hi q => ⟨q, by omega⟩, fun _ q => ⟨q, by omega⟩, fun i H x H' _ _ y => ?_⟩
    obtain ⟨T, b, v, h1, h2, h3, h4, h5⟩ := y
    rw [List.getElem?_map] at h1
    obtain ⟨x0, hx0, rfl⟩ := Option.map_eq_some_iff.mp h1
    exact ⟨T, V.ref x0.2.1, v, h3, h4, h5, by simp [hx0], h2⟩
  refine ⟨fun H => H d = some (tdO d es ep), _, by rw [List.length_map]; exact wk, fun H1 e1 => e1 _ _ nF e True.intro, fun F' i H1 x H2 tp1 hF hi e1 w1 y => ?_⟩
  obtain ⟨T, vx, vy, rfl, hT, rfl, h1, h2⟩ := y
  rw [List.length_map] at hi
  have rs1 := Reps.st8 w.nt hF e1 ra
  have rs2 := Reps.st8 w.nt hF e1 rb
  obtain ⟨x0, hx0, rfl⟩ := Option.map_eq_some_iff.mp h1
  obtain ⟨dk, hd1, rk⟩ := rs1.getV (i := i) (v := V.ref x0.2.1) (by rw [List.getElem?_map, hx0]; rfl)
  obtain ⟨dv, hd2, rv⟩ := rs2.getV (i := i) (v := vy) h2
  rw [List.getElem?_map, List.getElem?_eq_getElem hi] at hd1 hd2
  simp only [Option.map_some, Option.some.injEq] at hd1 hd2
  rw [← hd1] at rk
  rw [← hd2] at rv
  obtain ⟨p1, p2, p3⟩ := pair_new w1 hT rk rv
  exact ⟨p1, p2, _, by rw [List.getElem?_map, List.getElem?_eq_getElem hi]; rfl, p3⟩
theorem i_items {a : C} {tg ea : Expr} {apos cpos : Pos} (ht : isTupE2 tg = true) (ha : PE X ea (rdE g X.K W Γ .v a)) (hb : attributeBase ea "items" X.env (eval ea X.env) = eval ea X.env) (hl : (apos.endLine == cpos.line) = true) : PI X tg (.Call (.Attribute ea "items" apos) [] [] cpos) (rdI g X.K W Γ .v .items (.cons a .nil)) := by
  cases tg <;> try cases ht
  refine PI.imp (pi_itemsX ha hb hl) fun σ H R h => ?_
  obtain ⟨F, ta, ca, env, tp, E, h⟩ := h
  rw [evs_one, bind_assoc'] at h
  refine ⟨F, ta, ca, env, tp, E, h.bind.mono fun d t1 H1 e1 w1 h => fun x rx => ?_⟩
  obtain ⟨xs, hx, h⟩ := HdG.opt (o := itemsD [d]) h
  have hJ := h H1 (.refl _ _ _) w1
  cases d with
  | dict kvs =>
    obtain ⟨hr, rfl⟩ := grd_some (show grd (noRg kvs) (kvs.map fun p => PyData.tuple [p.1, p.2]) = some xs from hx)
    have rx : Rep X.K H1 F x (.dict kvs) := rx
    cases rx with
    | dcK e q r => exact ⟨_, rfl, .inl ⟨_, _, e, hJ _ (it_items w1 e q r)⟩⟩
    | rng e => cases hr
    | dcT e nF te t ra rb => exact ⟨_, rfl, .inr ⟨_, _, _, _, e, te.sys, en_of te t X.w, hJ _ (it_itx w1 e nF te t ra rb X.w)⟩⟩
  | _ => cases hx
end
end Q

set_option Elab.async false
set_option linter.all false
set_option maxRecDepth 100000
namespace Q
open PySem PySem.Spec L2
open PyProof.Rows hiding St
/-! ### sorted(set(tuple of ints)) -/
theorem ded_mem : ∀ (l : List Int) (k : Int), k ∈ dedI l ↔ k ∈ l
  | [], k => by simp [dedI]
  | x :: r, k => by
    have ih := ded_mem r k
    unfold dedI
    cases q : dedI r with
    | nil =>
      rw [q] at ih
      simp only [List.mem_cons, List.not_mem_nil, or_false]
      constructor
      · exact .inl
      · rintro (h | h)
        · exact h
        · exact absurd (ih.mpr h) (by simp)
    | cons y s =>
      rw [q] at ih
      dsimp only
      cases hd : decide (x = y) with
      | true =>
        have e := of_decide_eq_true hd
        subst e
        dsimp only
        rw [List.mem_cons (l := r)]
        constructor
        · exact fun h => .inr (ih.mp h)
        · rintro (h | h)
          · rw [h]; exact List.mem_cons_self
          · exact ih.mpr h
      | false =>
        dsimp only
        rw [List.mem_cons (l := y :: s), List.mem_cons (l := r), ih]
theorem ded_pw : ∀ (l : List Int), l.Pairwise (· ≤ ·) → (dedI l).Pairwise (· < ·)
  | [], _ => .nil
  | x :: r, h => by
    have h1 := List.pairwise_cons.mp h
    have ih := ded_pw r h1.2
    unfold dedI
    cases q : dedI r with
    | nil => simp
    | cons y s =>
      rw [q] at ih
      dsimp only
      cases hd : decide (x = y) with
      | true => exact ih
      | false =>
        dsimp only
        have ne := of_decide_eq_false hd
        refine List.pairwise_cons.mpr ⟨fun z hz => ?_, ih⟩
        have hy : y ∈ r := (ded_mem r y).mp (by rw [q]; exact List.mem_cons_self)
        have hxy : x < y := by
          have := h1.1 y hy
          omega
        rcases List.mem_cons.mp hz with e | hz
        · rw [e]; exact hxy
        · exact Int.lt_trans hxy ((List.pairwise_cons.mp ih).1 z hz)
theorem lt_nodup {l : List Int} (h : l.Pairwise (· < ·)) : l.Nodup := h.imp fun {a b} q e => by
  rw [e] at q
  exact Int.lt_irrefl _ q
theorem ded_uniq {l l' : List Int} (hw : l'.Pairwise (· < ·)) (hm : ∀ k, k ∈ l' ↔ k ∈ l) : l' = dedI (sortI l) := by
  have hw2 := ded_pw _ (sort_pw l)
  have hp : l'.Perm (dedI (sortI l)) := (List.perm_ext_iff_of_nodup (lt_nodup hw) (lt_nodup hw2)).mpr fun k => by rw [hm, ded_mem, (sort_perm l).mem_iff]
  exact List.Perm.eq_of_pairwise (le := fun a b => a < b) (fun a b _ _ h1 h2 => absurd h1 (by omega)) hw hw2 hp
def rSetTI (K : PySem.W.Frag) (w : PySem.World) : List V → Hp → VK → Prop := fun vs H Q => ∃ (a : Addr) (ns : List Int), vs = [V.ref a] ∧ SqT K H a (ns.map V.int) ∧ ns.length < 64 ∧
  ∀ (l : Addr) (c : Nat), H l = none → c ≤ ns.length → Q (.ref l) (upd H l (SetO w l (fun j => decide (j ∈ ns)) c))
section
variable {g : G} {W : WX} {Γ : Sm} {X : Cx} {N : List Str} {sc : Scope} {k : Nat} {m : M}
theorem cr_setTI (hc : X.calm = true) : CallR X (.type "set") (rSetTI X.K X.w) := by
  intro pins s σ H vs us Q I r h
  obtain ⟨a, ns, rfl, hs, h64, q⟩ := h
  obtain ⟨its, rv, pl, hz⟩ := I.tuple hs
  rw [Vals.ref1 r]
  refine call_set_tupI ns (I.ok.hd hc) (show s.heap.IsTuple a its.toArray from pl) (by simpa using rv.ints) (by unfold scanBound; omega) fun h' tk c R hcn hk => ?_
  exact ⟨.ref s.heap.objs.size, upd H s.heap.objs.size (SetO X.w s.heap.objs.size (fun j => decide (j ∈ ns)) c), I.laid (t' := tk) hk (Nat.le_refl _) (setO_new R), rfl, q _ c (I.hok.fresh (Nat.le_refl _)) hcn⟩
theorem e_sortset {a : C} {ea : Expr} {p p2 pos pos2 : Pos} (G : Gd X N sc k) (hm : m ≠ .t) (hg : glB sc "sorted" = true) (hx : X.mg "sorted" = none) (hg2 : glB sc "set" = true) (hx2 : X.mg "set" = none) (ha : PE X ea (rdE g X.K W Γ .r a)) (hs : starB ea = false) :
    PE X (.Call (.Name "sorted" p) [.Call (.Name "set" p2) [ea] [] pos2] [] pos) (rdE g X.K W Γ m (.blt .sortset (.cons a .nil))) := by
  have h1 : PE X (.Call (.Name "set" p2) [ea] [] pos2) (tCB (rSetTI X.K X.w) (rdEs g X.K W Γ .r (.cons a .nil))) :=
    pe_callTy (cr_setTI G.calm) (gl_of G hg2) hx2 (by decide +kernel) (es_cons ha es_nil hs) (by decide +kernel) (by decide +kernel) (star_eq hs) (by rfl)
  refine PE.imp (pe_callB (cr_sortedSet G.calm) (gl_of G hg) hx (by decide +kernel) (pa_cons h1 pa_nil (star_eq rfl)) (by decide +kernel) (by decide +kernel) (star_eq rfl) (by rfl)) fun σ H Q h => ?_
  obtain ⟨F, ta, ca, env, tp, E, h⟩ := h
  unfold ev at h
  rw [fin_ne hm] at h
  refine ⟨F, ta, ca, env, tp, E, h.bind.mono fun ds t1 H1 e1 w1 h => fun vs rs => ?_⟩
  obtain ⟨z, hz, h⟩ := h.opt
  have hJ := h
  cases ds with
  | nil => cases hz
  | cons d r =>
    cases r with
    | cons _ _ => cases d <;> cases hz
    | nil =>
      cases d with
      | tuple xs =>
        obtain ⟨x, rfl, rx⟩ := RepMs.one (m := .r) rs
        have rx : RepR X.K H1 F x (.tuple xs) := rx
        obtain ⟨l, us, rfl, hl, s⟩ := rx.tup_inv.tup_inv
        obtain ⟨ns, hn, hz⟩ := Option.bind_eq_some_iff.mp (show (intsOf xs).bind (fun ns => grd (Nat.blt ns.length 64) (PyData.list ((dedI (sortI ns)).map .int))) = some z from hz)
        obtain ⟨hb, rfl⟩ := grd_some hz
        have h64 := blt_lt hb
        refine ⟨l, ns, rfl, by rw [← s.ints hn]; exact hl, h64, fun q c hq hc => ?_⟩
        refine ⟨q, _, c, rfl, upd_same, by omega, fun ns' p hw hmem _ hp => ?_⟩
        have e : ns' = dedI (sortI ns) := ded_uniq hw fun k => by rw [hmem]; simp
        subst e
        have w2 : World g F ta ca (upd H1 q (SetO X.w q (fun j => decide (j ∈ ns)) c)) t1 := w1.new hq
        exact hJ _ ((Ext.new hq).trans (Ext.new hp)) (w2.new hp) _ (.of (new_lst w2 (Reps.ofInts _) hp))
      | _ => cases hz
end
end Q

set_option Elab.async false
set_option linter.all false
set_option maxRecDepth 100000
/-! dict comprehensions, the keys tuples -/
namespace Q
open PySem PySem.Spec L2
open PyProof.Rows hiding St
theorem t_dictSet {X : Cx} {pins : List (Addr × Obj)} {σ : L2.St} {H : Hp} {s : Shared} {a : Addr} {y v : V} {u r : Value} {E : Value → Shared → Prop} {N : Hp → Prop} {Q : Unit → Shared → Prop} (hu : X.A.units + 9 < cLine) (I : Inv X pins σ H s) (g : TPut X.K H a y v N) (ry : RelV y u) (rv : RelV v r) (h : ∀ H' s', Inv X pins σ H' s' → N H' → Q () s') :
    wpAny (model X.prog X.w) X.A (dictSet a u r) Q E s := by
  obtain ⟨b, k, xs, rfl, ka, td, hl, n⟩ := g
  cases ry
  refine wpAny_dictSet_heap (knd := nestedKind X.prog X.w) (hsz := Nat.le_of_lt hl) (show X.A.units + 8 < cLine by omega) (ka.is I) (td.dict I) fun h' dd' hs => ?_
  obtain ⟨q, es, ep, hq, h2, h3, h4, _, h5⟩ := dd'
  obtain ⟨es0, ep0, e0, _⟩ := td
  exact h _ _ (d_write I (by rw [e0]; exact True.intro) hs ⟨q, hq⟩ (td_ok ⟨q, hq, h2, h3⟩)) (n X.w r es ep rv h4 h5)
section
variable {X : Cx}
/-- {key: value for target in iter if ..}; D: the new dict -/
def tDcX (K : PySem.W.Frag) (wi : TI) (gt : TG) (tt : TT) (tk tv : TE) (vs : List Nat) : TE := fun σ H Q => wi σ H fun J Ha => ∀ D es ep, Ha D = none → TE0 D es [] →
  ∃ W : Nat → Nat → Hp → Prop, (∃ n, W 0 n (upd Ha D (tdO D es ep))) ∧ ∀ i n H, W i n H →
    (J.stop i H ∧ Q (.ref D) H) ∨ (J.go i H ∧ ∃ Nx : Hp → Prop, (∀ Hb, Nx Hb → ∃ n', n' < n ∧ W (i + 1) n' Hb) ∧ ∀ x Hb, J.yld i H x Hb → gt x (wipe σ vs) Hb fun σ2 H2 => wipe σ2 vs = wipe σ vs ∧ tt σ2 H2 fun b H3 =>
      if b = true then tk σ2 H3 fun y H4 => tv σ2 H4 fun z H5 => TPut K H5 D y z Nx else Nx H3)
theorem pe_dcX {kx vx tg iter : Expr} {ifs : List Expr} {scope : Scope} {own : List (Str × Nat)} {pos : Pos} {wi : TI} {gt : TG} {tt : TT} {tk tv : TE} (hu : X.A.units + 9 < cLine) (hc : X.calm = true) (hN : X.N.Nodup) (hi : PI X tg iter wi) (ok : BlkOk X.N X.env.scope scope own)
    (hg : ∀ (s : Shared) (H : Hp) (C : Addr) (cl : List (Str × Addr)) (fp : List Addr), PG (X.blk s H scope (compEnvC scope cl C X.env) fp) tg gt) (ht : ∀ (s : Shared) (H : Hp) (C : Addr) (cl : List (Str × Addr)) (fp : List Addr), PTs (X.blk s H scope (compEnvC scope cl C X.env) fp) ifs tt)
    (hk : ∀ (s : Shared) (H : Hp) (C : Addr) (cl : List (Str × Addr)) (fp : List Addr), PE (X.blk s H scope (compEnvC scope cl C X.env) fp) kx tk)
    (he : ∀ (s : Shared) (H : Hp) (C : Addr) (cl : List (Str × Addr)) (fp : List Addr), PE (X.blk s H scope (compEnvC scope cl C X.env) fp) vx tv) (hs : ∀ x, foldedSetIterable iter X.env x = pure x) :
    PE X (.DictComp kx vx [⟨tg, iter, ifs, 0⟩] scope pos) (tDcX X.K wi gt tt tk tv (own.map (·.2))) := by
  refine ⟨fun pins s σ H Q I h => ?_⟩
  rw [arm_eval_DictComp]
  have cells : ∀ y ∈ scope.names, y.2 = .free → ∃ c, X.env.cells.lookup y.1 = some c := fun y m e => (ok.free y m e).elim (fun z => I.ok.has _ (.inl z)) fun z => I.ok.has _ (.inr z)
  refine wpAny_comprehension_free rfl hs (closure_ok cells) ok.kind (fun y m e => (ok.uniq y m).trans (congrArg some e)) (thn (hi.run pins s σ H _ I h) fun _ s1 here => thn here fun _ s2 ⟨it, fp, tn, J, Ha, ei, Ia, T, sta, ffp, todo⟩ => ?_)
  subst ei
  refine wpAny_newObj_type (newEnv_comp ?_)
  generalize eD : s2.heap.objs.size = D
  have freeD : Ha D = none := Ia.hok.fresh (Nat.le_of_eq eD)
  have sysD : (D == sysModules) = false := by rw [← eD]; exact big_sys Ia.big
  obtain ⟨W, ⟨n0, start⟩, turn⟩ := todo D #[] 0 freeD (te_empty sysD)
  -- the heap with the dict, empty yet
  have he3 : ∃ s3 : Shared, s3 = { s2 with heap := s2.heap.push { cls := .type "dict", data := .dict #[] } } := ⟨_, rfl⟩
  obtain ⟨s3, e3⟩ := he3
  have heap3 : s3.heap = s2.heap.push { cls := .type "dict", data := .dict #[] } := by rw [e3]
  have I3 : Inv X pins σ (upd Ha D (tdO D #[] 0)) s3 := by
    rw [e3]
    refine Ia.laid (t' := s2.toks) (fun b o q => Heap.get?_push_of_some _ q) (Nat.le_of_eq eD) ?_
    rw [← eD]
    exact td_ok ⟨_, Heap.get?_push_size _ rfl, ⟨rfl, rfl, rfl⟩, rfl⟩
  have below : ∀ b ∈ fp, b < s2.heap.objs.size := fun b m => Heap.lt_size (T.obj _ _ sta b m).choose_spec.1
  have fp3 : ∀ b ∈ fp, FpOk X pins (upd Ha D (tdO D #[] 0)) b ∧ b < s3.heap.objs.size := fun b m => by
    have lt := below b m
    refine ⟨⟨?_, (ffp b m).2⟩, by rw [heap3, Heap.size_push]; exact Nat.lt_succ_of_lt lt⟩
    rw [upd_ne (by rw [← eD]; exact Nat.ne_of_lt lt)]
    exact (ffp b m).1
  have sta3 : tn 0 s3.heap := T.keep _ _ _ sta fun b _ o q => by rw [heap3]; exact Heap.get?_push_of_some _ q
  generalize eH3 : upd Ha D (tdO D #[] 0) = H3 at I3 fp3 start
  have I4 := block_start I3 ok hN fp3
  have pgt := hg s3 H3 s3.heap.objs.size (cellsFrom (s3.heap.objs.size + 1) scope.names (cloFrom X.env.cells scope.names [])) fp
  have ptt := ht s3 H3 s3.heap.objs.size (cellsFrom (s3.heap.objs.size + 1) scope.names (cloFrom X.env.cells scope.names [])) fp
  have pkx := hk s3 H3 s3.heap.objs.size (cellsFrom (s3.heap.objs.size + 1) scope.names (cloFrom X.env.cells scope.names [])) fp
  have pvx := he s3 H3 s3.heap.objs.size (cellsFrom (s3.heap.objs.size + 1) scope.names (cloFrom X.env.cells scope.names [])) fp
  rw [← e3]
  generalize ece : compEnvC scope (cellsFrom (s3.heap.objs.size + 1) scope.names (cloFrom X.env.cells scope.names [])) s3.heap.objs.size X.env = ce at I4 pgt ptt pkx pvx
  have loc : ce.locals = s3.heap.objs.size := by rw [← ece]; rfl
  have he4 : ∃ s4 : Shared, s4 = { s3 with heap := pushCells (s3.heap.push { cls := .type "dict", data := .dict #[] }) scope.names } := ⟨_, rfl⟩
  obtain ⟨s4, e4⟩ := he4
  rw [← e4] at I4
  have sta4 : tn 0 s4.heap := T.keep _ _ _ sta3 fun b _ o q => by rw [e4]; exact pushCells_keeps _ _ _ _ (Heap.get?_push_of_some _ q)
  have none3 : ∀ b ∈ fp, H3 b = none := fun b m => (fp3 b m).1.1
  have okfp : ∀ {σ' : L2.St} {H' : Hp} {s' : Shared}, Inv (X.blk s3 H3 scope ce fp) [] σ' H' s' → (∀ b ∈ fp, H' b = none) → ∀ b ∈ fp, FpOk (X.blk s3 H3 scope ce fp) [] H' b := fun {σ' H' s'} J hn b m =>
    ⟨hn b m, (J.ok.exf b m).1, J.ok.exfs b m, .inl m, fun x c q => (J.ok.exf b m).2 x c q, fun p hp => by simp only [List.append_nil] at hp; cases hp⟩
  have loop : codeAny (model X.prog X.w) X.A (.compLoop (.DictComp kx vx [⟨tg, iter, ifs, 0⟩] scope pos) 0 (.ref it) (.ref D) ce) (compPost (model X.prog X.w) X.A X.xe none (fun x s' => ∃ x' H', Inv X pins σ H' s' ∧ RelV x' x ∧ Q x' H') (.ref D) s3.heap.objs.size) s4 := by
    refine compLoop_anyD (fun n s' => ∃ i H', Inv (X.blk s3 H3 scope ce fp) [] (wipe σ (own.map (·.2))) H' s' ∧ tn i s'.heap ∧ (∀ b ∈ fp, H' b = none) ∧ W i n H') ?_ n0 ⟨0, H3, I4, sta4, none3, start⟩
    rintro n s5 ⟨i, H5, I5, sta5, none5, w5⟩
    rcases turn i n H5 w5 with ⟨stop, ends⟩ | ⟨go, Nx, less, step⟩
    · refine thnF (T.done (X.blk s3 H3 scope ce fp) rfl rfl rfl hc i [] s5 _ H5 (fun _ _ => False) I5 (okfp I5 none5) sta5 stop) fun _ s6 ⟨er, I6⟩ => ?_
      subst er
      have I7 : Inv X pins σ H5 s6 := I3.call' (ch := fp) I6.os I6.base I6.hok I6.bare fun b m => ⟨(fp3 b m).1.2.2.2.1, (fp3 b m).1.2.1, (fp3 b m).1.2.2.2.2.1, (fp3 b m).1.2.2.2.2.2⟩
      have noneC : H5 s3.heap.objs.size = none := by rw [← loc]; exact I6.free
      obtain ⟨mm, nsm, _⟩ := I6.loc
      have nsm : s6.heap.Ns ce.locals mm := nsm
      rw [loc] at nsm
      obtain ⟨f0, f1, f2, f3, f4, f5⟩ := I3.fpOk (Nat.le_refl _) noneC
      exact ⟨mm, nsm, fun h'' sb => ⟨.ref D, H5, I7.turned (t' := s6.toks) (fun b o ne q => (sb.2 b ne).trans q) f0 f1 f3 f4 f5, rfl, ends⟩⟩
    · refine thnF (T.item (X.blk s3 H3 scope ce fp) rfl rfl rfl hc i [] s5 _ H5 (fun _ _ => False) I5 (okfp I5 none5) sta5 go) fun _ s6 ⟨u, er, h6⟩ => ?_
      subst er
      refine thnF h6 fun _ s7 ⟨x, H7, I7, r7, y7, sta7, none7⟩ => ?_
      refine thnF (pgt.run _ s7 _ H7 x u _ (I7.pinned (okfp I7 none7) (T.obj _ _ sta7)) r7 (step x H7 y7)) fun _ s8 ⟨σ8, H8, I8, eσ, q8⟩ => ?_
      refine thnF (ptt.run _ s8 σ8 H8 _ I8 q8) fun b s9 ⟨H9, I9, q9⟩ => ?_
      have next : ∀ {s' : Shared} {H' : Hp}, Inv (X.blk s3 H3 scope ce fp) ([] ++ pinsAt fp s7.heap) σ8 H' s' → Nx H' → ∃ m, m < n ∧ ∃ i H', Inv (X.blk s3 H3 scope ce fp) [] (wipe σ (own.map (·.2))) H' s' ∧ tn i s'.heap ∧ (∀ b ∈ fp, H' b = none) ∧ W i m H' := fun {s' H'} J nx => by
        obtain ⟨m', lt, w'⟩ := less H' nx
        have pinned : ∀ b ∈ fp, ∀ o, s7.heap.get? b = some o → s'.heap.get? b = some o ∧ H' b = none := fun b m o q =>
          have z := J.pin (b, o) (List.mem_append_right _ (List.mem_append_right _ (mem_pinsAt m q)))
          ⟨z.1, z.2.1⟩
        refine ⟨m', lt, i + 1, H', (J.unpinned (pins := [])).weak (by rw [← eσ, wipe_length]) (fun j v q => ?_), T.keep _ _ _ sta7 fun b m o q => (pinned b m o q).1, fun b m => ?_, w'⟩
        · rw [← eσ] at q
          exact (wipe_some q).1
        · obtain ⟨o, q, _⟩ := T.obj _ _ sta7 b m
          exact (pinned b m o q).2
      cases b with
      | false =>
        simp only [Bool.false_eq_true, if_false] at q9 ⊢
        exact next I9 q9
      | true =>
        simp only [if_true] at q9 ⊢
        refine thnF (pkx.run _ s9 σ8 H9 _ I9 q9) fun _ s10 ⟨y, H10, I10, r10, q10⟩ => ?_
        refine thnF (pvx.run _ s10 σ8 H10 _ I10 q10) fun _ s11 ⟨z, H11, I11, r11, put⟩ => ?_
        exact t_dictSet (X := X.blk s3 H3 scope ce fp) hu I11 put r10 r11 fun H12 s12 I12 nx => next I12 nx
  have all := codeAny_compStart_dict loop (T.self X.A 0 _ _ _ sta4 loop)
  rw [← ece, e4] at all
  exact all
end
section
variable {g : G} {W : WX} {Γ : Sm} {X : Cx} {N : List Str} {sc : Scope} {k : Nat} {m : M} {fz : Str → Bool}
def dctF (Γ : Sm) (t : Tg) (cs : Cs) (k v : C) (env : QE) : D → Tp → Out (Option (D × D)) := fun x tp => match bindT t x env with
  | none => .bad
  | some env1 => ((evC Γ cs env1 tp).bind fun b tp2 => match b with
    | true => (ev Γ .r k env1 tp2).bind fun y tp3 => (ev Γ .v v env1 tp3).bind fun z tp4 => .opt (grd (keyT y) (some (y, z))) tp4
    | false => .ok none tp2).nox
theorem dctF_exc {t : Tg} {cs : Cs} {k v : C} {env : QE} {d : D} {tp : Tp} {c : Nat} {u : Tp} : dctF Γ t cs k v env d tp ≠ .exc c u := by
  unfold dctF
  cases bindT t d env with
  | none => exact fun h => nomatch h
  | some e => exact nox_exc
theorem dcx_loop {t : Tg} {cs : Cs} {kx vx : C} {ow : List Nat} {F : Addr → Prop} {ta ca : Addr} {env : QE} {H1 : Hp} {σ : L2.St} {xs : List D} {t2 : Tp} {J : It} {D : Addr} {es0 : Array DictEntry} {ep0 : Nat} {Q : VK} {R : List (PyData × PyData) → Tp → Hp → Prop} (hx : xs.length ≤ 16777216)
    (E : EnvOk g X.K F ta ca H1 σ env t2) (hJ : ItOk g X.K m F ta ca H1 xs J) (hD : H1 D = none) (te0 : TE0 D es0 [])
    (h : HdG g W F ta ca H1 σ (dcGo (dctF Γ t cs kx vx (wipeB env ow)) xs [] t2) R)
    (hR : ∀ r t3 H' es ep ks vs, Ext ta H1 H' → World g F ta ca H' t3 → R r t3 H' → H' D = some (tdO D es ep) → TE0 D es ks → TD ks vs r → Reps X.K H' (ins F D) (ks.map fun x => V.ref x.2.1) (r.map (·.1)) → Reps X.K H' (ins F D) vs (r.map (·.2)) → Q (.ref D) H') :
    ∃ W : Nat → Nat → Hp → Prop, (∃ m, W 0 m (upd H1 D (tdO D es0 ep0))) ∧ ∀ i m H, W i m H →
      (J.stop i H ∧ Q (.ref D) H) ∨ (J.go i H ∧ ∃ Nx : Hp → Prop, (∀ H', Nx H' → ∃ m', m' < m ∧ W (i + 1) m' H') ∧ ∀ x H', J.yld i H x H' → tgS g X.K ow t x (L2.wipe σ ow) H' fun σ2 H2 => L2.wipe σ2 ow = L2.wipe σ ow ∧ rdC g X.K W0 Γ cs σ2 H2 fun b H3 =>
        if b = true then rdE g X.K W0 Γ .r kx σ2 H3 fun y H4 => rdE g X.K W0 Γ .v vx σ2 H4 fun z H5 => TPut X.K H5 D y z Nx else Nx H3) := by
  have w := E.wd
  have hta : ta ≠ D := fun q => by
    have := w.tape
    rw [q, hD] at this
    cases this
  have hca : D ≠ ca := fun q => by
    have := w.cells
    rw [← q, hD] at this
    cases this
  have hsz : sizeLine = 16777216 := rfl
  cases hr : dcGo (dctF Γ t cs kx vx (wipeB env ow)) xs [] t2 with
  | exc c u => exact absurd hr (dcGo_exc fun _ _ _ _ => dctF_exc)
  | bad =>
    rw [hr] at h
    exact h.elim
  | ok r t3 =>
    rw [hr] at h
    obtain ⟨Gd, Y, wk, hG, hY⟩ := hJ
    let F' := ins F D
    have hF' : ∀ a, F' a → F a ∨ ¬ MutK (H1 a) := fun a z => z.elim .inl fun q => .inr (by rw [q]; exact mut_none hD)
    let Pv : Nat → Hp → Prop := fun i H => ∃ acc tpi es ep ks vs, Ext ta H1 H ∧ World g F' ta ca H tpi ∧ H D = some (tdO D es ep) ∧ TE0 D es ks ∧ TD ks vs acc ∧ Reps X.K H F' (ks.map fun x => V.ref x.2.1) (acc.map (·.1)) ∧ Reps X.K H F' vs (acc.map (·.2)) ∧ ks.length ≤ i ∧ dcGo (dctF Γ t cs kx vx (wipeB env ow)) (xs.drop i) acc tpi = .ok r t3
    refine ⟨fun i m H => m = xs.length - i ∧ i ≤ xs.length ∧ Pv i H, ⟨xs.length, by simp, Nat.zero_le _, [], t2, es0, ep0, [], [], Ext.new hD, (w.new hD).insW (by rw [upd_same]; exact mutTd) hca, upd_same, te0, ⟨rfl, fun p hp => by simp at hp, .nil⟩, .nil, .nil, Nat.zero_le _, hr⟩, ?_⟩
    rintro i m H ⟨rfl, hi, acc, tpi, es, ep, ks, vs, e1, w1, hDv, te, td, ra, rb, hl, hg⟩
    have q := hG H (e1.mono fun _ z => z.elim)
    by_cases hlt : i < xs.length
    · refine .inr ⟨wk.goes i H hlt q, Pv (i + 1), fun H' p' => ⟨xs.length - (i + 1), by omega, rfl, hlt, p'⟩, fun x H' y => ?_⟩
      have y := wk.yields i H x H' hlt q y
      obtain ⟨e2, w2, d, hd, rx⟩ := hY F' i H x H' tpi hF' hlt (e1.mono fun _ z => z.elim) w1 y
      have hdr : xs.drop i = d :: xs.drop (i + 1) := by
        rw [List.drop_eq_getElem_cons hlt]
        rw [List.getElem?_eq_getElem hlt] at hd
        rw [Option.some.inj hd]
      rw [hdr] at hg
      obtain ⟨o, tp1, hf, hg⟩ := dcGo_ok hg
      unfold dctF at hf
      cases hb : bindT t d (wipeB env ow) with
      | none =>
        rw [hb] at hf
        cases hf
      | some env1 =>
        rw [hb] at hf
        have hf := nox_ok hf
        obtain ⟨b, tp2, hc, hf⟩ := bind_okE hf
        have e02 : Ext ta H1 H' := e1.trans e2
        have E2 : EnvOk g X.K F' ta ca H' (L2.wipe σ ow) (wipeB env ow) tpi := ((E.grow (fun a z => .inl z) hF' e02 w2)).wipe ow
        refine ⟨F', ta, ca, _, tpi, d, env1, E2, rx, hb, fun σ1 A1 _ E3 => ⟨A1.wipe, F', ta, ca, env1, tpi, E3, ?_⟩⟩
        rw [hc]
        intro H3 e3 w3
        have dK3 : ∀ {H4}, Ext ta H' H4 → H4 D = some (tdO D es ep) := fun {H4} e => (e2.trans e) _ _ (fun z => z) hDv True.intro
        cases b with
        | false =>
          have hf : Out.ok none tp2 = Out.ok o tp1 := hf
          cases hf
          refine iteF ?_
          exact ⟨acc, _, es, ep, ks, vs, e02.trans e3, w3, dK3 e3, te, td, ra.stepX (e2.trans e3), rb.stepX (e2.trans e3), Nat.le_succ_of_le hl, hg⟩
        | true =>
          have hf : ((ev Γ .r kx env1 tp2).bind fun y tp3 => (ev Γ .v vx env1 tp3).bind fun z tp4 => Out.opt (grd (keyT y) (some (y, z))) tp4) = Out.ok o tp1 := hf
          obtain ⟨y1, tp3, he, hf⟩ := bind_okE hf
          obtain ⟨z1, tp4, he2, hf⟩ := bind_okE hf
          obtain ⟨hf2, ht⟩ := opt_ok hf
          obtain ⟨hkb, ho⟩ := grd_some hf2
          subst ht
          subst ho
          refine iteT ?_
          refine ⟨F', ta, ca, env1, tp2, E3.ext e3 w3, ?_⟩
          rw [he]
          intro H4 e4 w4 vy ry
          refine ⟨F', ta, ca, env1, tp3, (E3.ext e3 w3).ext e4 w4, ?_⟩
          rw [he2]
          intro H5 e5 w5 vz rz
          have rz : Rep X.K H5 F' vz z1 := rz
          have ry5 : Rep X.K H5 F' vy y1 := (keyT_rep hkb ry).stepX e5
          have hy : ∃ b, vy = .ref b := by
            cases y1 <;> first | (exact absurd hkb Bool.false_ne_true) | (cases ry5; exact ⟨_, rfl⟩)
          obtain ⟨b, rfl⟩ := hy
          have e35 : Ext ta H' H5 := (e3.trans e4).trans e5
          have hD5 := dK3 e35
          have ra5 := ra.stepX (e2.trans e35)
          have hkl : ks.length = acc.length := by
            have z := congrArg List.length td.key
            simpa using z
          refine ⟨b, kN y1, ks, rfl, ⟨F', y1, ry5, hkb, rfl⟩, ⟨es, ep, hD5, te, td_keys td.key td.ok ra5⟩, by rw [hsz]; omega, fun w' r' es' ep' rv hes hnd => ?_⟩
          obtain ⟨vs', td', ra', rb'⟩ := td_put (b := b) (r := r') hkb ry5 rv rz td ra5 (rb.stepX (e2.trans e35))
          have hl' : (storedH ks (kN y1) b r').length ≤ i + 1 := by
            have h1 := dput_len acc y1 z1
            have h2 := congrArg List.length td'.key
            simp only [List.length_map] at h2
            omega
          have te' : TE0 D es' (storedH ks (kN y1) b r') := ⟨fun w2 => by rw [← td_hash td'.key td'.ok w' w2]; exact hes, hnd, by rw [hsz]; omega, te.sys⟩
          have s5 : St8 F' ta H5 (upd H5 D (tdO D es' ep')) := St8.own (.inr rfl)
          refine ⟨dput acc y1 z1, _, es', ep', storedH ks (kN y1) b r', vs', ?_, w5.write (.inr rfl) (Ne.symm hta) mutTd, upd_same, te', td', ra'.step w5.nt s5, rb'.step w5.nt s5, hl', hg⟩
          intro b o hb hbo hfx
          have hbD : b ≠ D := fun q => by rw [q, hD] at hbo; cases hbo
          rw [upd_ne hbD]
          exact (e02.trans e35) b o hb hbo hfx
    · have e : i = xs.length := by omega
      subst e
      rw [List.drop_length] at hg
      unfold dcGo at hg
      cases hg
      exact .inl ⟨wk.stops H q, hR _ _ H es ep ks vs e1 (w1.sub (fun a z => .inl z) w.hta) (h H e1 (w1.sub (fun a z => .inl z) w.hta)) hDv te td ra rb⟩
theorem e_dcpT {t : Tg} {kd : IK} {as cs : Cs} {ck cv : C} {own : List (Str × Nat)} {kx vx tg iter : Expr} {ifs : List Expr} {scope : Scope} {pos : Pos} (G : Gd X N sc k) (hm : m ≠ .t) (hi : PI X tg iter (rdI g X.K W Γ kd.md kd as)) (ok : BlkOk N sc scope own)
    (hg : ∀ (s : Shared) (H : Hp) (C : Addr) (cl : List (Str × Addr)) (fp : List Addr), PG (X.blk s H scope (compEnvC scope cl C X.env) fp) tg (tgS g X.K (own.map (·.2)) t))
    (ht : ∀ (s : Shared) (H : Hp) (C : Addr) (cl : List (Str × Addr)) (fp : List Addr), PTs (X.blk s H scope (compEnvC scope cl C X.env) fp) ifs (rdC g X.K W0 Γ cs))
    (hk : ∀ (s : Shared) (H : Hp) (C : Addr) (cl : List (Str × Addr)) (fp : List Addr), PE (X.blk s H scope (compEnvC scope cl C X.env) fp) kx (rdE g X.K W0 Γ .r ck))
    (he : ∀ (s : Shared) (H : Hp) (C : Addr) (cl : List (Str × Addr)) (fp : List Addr), PE (X.blk s H scope (compEnvC scope cl C X.env) fp) vx (rdE g X.K W0 Γ .v cv)) (hs : ∀ x, foldedSetIterable iter X.env x = pure x) :
    PE X (.DictComp kx vx [⟨tg, iter, ifs, 0⟩] scope pos) (rdE g X.K W Γ m (.dcpT ck cv t kd as cs (own.map (·.2)))) := by
  refine PE.imp (pe_dcX (by have := G.hu; omega) G.calm (by rw [G.hN]; exact G.nd) hi (by rw [G.hN, G.sc]; exact ok) hg ht hk he hs) fun σ H Q h => ?_
  obtain ⟨F, ta, ca, env, tp, E, h⟩ := h
  unfold ev at h
  rw [fin_ne hm, ← bind_assoc'] at h
  refine ⟨F, ta, ca, env, tp, E, h.bind.mono fun xs t1 H1 e1 w1 h => fun J hJ D es ep hD te0 => ?_⟩
  cases hb : big xs.length with
  | false =>
    rw [hb] at h
    exact h.elim
  | true =>
    rw [hb] at h
    have h : HdG g W F ta ca H1 σ ((dcGo (dctF Γ t cs ck cv (wipeB env (own.map (·.2)))) xs [] t1).bind fun r t3 => Out.ok (PyData.dict r) t3) (fun d _ H' => ∀ v, RepM m X.K H' F v d → Q v H') := h
    refine dcx_loop (big_le hb) (E.ext e1 w1) hJ hD te0 h.bind fun r t3 H' es' ep' ks vs e2 w2 h hDv te td ra rb => ?_
    exact h.now w2 _ (.of (.dcT hDv (w1.fresh hD) te td (ra.mono fun a z => .inl z) (rb.mono fun a z => .inl z)))
end
end Q

set_option Elab.async false
set_option linter.all false
set_option maxRecDepth 100000
/-! refused(lambda: f(..)): whether a call raises -/
namespace Q
open PySem PySem.Spec L2
open PyProof.Rows hiding St
/-- try: a() / except e: return True // return False -/
def refBody (a e : Str) (p1 p2 p3 p4 p5 p6 p7 p8 p9 p10 : Pos) (j1 j2 : Nat) : List Stmt :=
  [.Try [.Expr (.Call (.Name a p1) [] [] p2) p3] [.ExceptHandler (some (.Name e p4)) none [.Return (some (.Constant (.bool true) j1 p5)) p6] p7] [] [] p8, .Return (some (.Constant (.bool false) j2 p9)) p10]
def TTref (K : PySem.W.Frag) (CS : Addr) : (XK → Hp → VK → Prop) → Hp → VK → Prop := fun tl H Q =>
  tl (fun cls _ H' => ∃ b, PySem.W.exmOne K cls (.ref CS) = some b ∧ (b = true → Q (.bl true) H') ∧ (b = false → False)) H (fun _ H' => Q (.bl false) H')
theorem ref_gives {X : Cx} {Ng : List Str} {x a e q : Str} {sg : Scope} {g CS : Addr} {cdg : Value} {j1 j2 : Nat} {p1 p2 p3 p4 p5 p6 p7 p8 p9 p10 : Pos} (hge : sg.names.lookup e = some .globalImplicit) (hme : X.mg e = some (.ref CS)) (hde : (e == ("__debug__" : Str)) = false) (h0 : ∀ f : Addr, (L2.start Ng [V.ref f])[0]? = some (some (V.ref f))) :
    LamX.GivesTo X Ng x sg g cdg (refBody a e p1 p2 p3 p4 p5 p6 p7 p8 p9 p10 j1 j2) a q (TTref X.K CS) := by
  intro f c' s H Q tl act hc h
  have hgl : Gl (cxOf C8.CX0 X.prog X.w X.K X.mg X.base Ng x sg g cdg X.A X.stack s H C8.E0).nox e := hge
  refine ⟨_, pss_cons (ps_try_only (X := (cxOf C8.CX0 X.prog X.w X.K X.mg X.base Ng x sg g cdg X.A X.stack s H C8.E0).nox) (c := .ref CS)
      (tb := fun W D σ H => ∃ Ech : XK, (∀ cls d σ' H', Ech cls d H' → W cls d σ' H') ∧ σ[0]? = some (some (.ref f)) ∧ H c' = some (LamX.CodeO c' q) ∧ tl Ech H (fun _ H' => D.nx σ H'))
      rfl rfl ⟨hgl, hde, .inl hme⟩ LamX.takes0 (fun W pn xe tk _ => ?_) (fun a oe cls d pn _ _ => pss_one (ps_ret pe_bl))) (pss_one (ps_ret pe_bl)), ?_⟩
  · refine ⟨fun pins s' σ H' D I h' => ?_⟩
    obtain ⟨Ech, hW, h1, h2, h3⟩ := h'
    have hp := act W pn xe Ech p1 p2 tk hW
    have hq := pss_one (ps_expr (pos := p3) hp)
    exact hq.run pins s' σ H' D I ⟨h1, h2, h3⟩
  · exact ⟨fun cls _ H' => ∃ b, PySem.W.exmOne X.K cls (.ref CS) = some b ∧ (b = true → Q (.bl true) H') ∧ (b = false → False), fun cls d σ' H' ⟨b, e1, e2, e3⟩ => ⟨b, e1, fun hb a _ => e2 hb, fun hb => e3 hb⟩, h0 f, hc, h⟩
def bmV : List Value := [.type "ValueError", .type "Exception", .type "BaseException", .type "object"]
/-- a class of the program's own, below ValueError -/
def ExO (g : G) (mg : Str → Option Value) (K : PySem.W.Frag) (c : Nat) (x : Str) : Prop := ∃ C : Addr, mg x = some (.ref C) ∧ g.cls c = .ref C ∧ PySem.W.excIn K C bmV "ValueError.__new__" = true ∧ PySem.W.keepIn K (.ref C) = true ∧
  PySem.W.subIn K (.ref C) (.type "BaseException") = some true ∧ PySem.W.typeIn K (.ref C) = some (.type "type")
/-- what a def that makes such lambdas stands in -/
structure LamOk (g : G) (X : Cx) (k : Nat) (rfn : Str) (rcs : List Nat) : Prop where
  room : Room (k + 2) X.A
  tab : ∃ T c P, g.T = LamX.Tabs T ∧ X.env.code = .ref c ∧ LamX.TabB X.base X.mg c P ∧ (P, X.env.qual ++ "<lambda>") ∈ T ∧ ∀ p ∈ T, p.1 = P → p.2 = X.env.qual ++ "<lambda>"
  ref : ∃ (gA CS : Addr) (pg : Arguments) (sg : Scope) (dV kV doc pm cdv ct oc : Value) (an od : Option Addr) (osl : Array (Option Value)) (Ng : List Str) (a e : Str) (p1 p2 p3 p4 p5 p6 p7 p8 p9 p10 : Pos) (j1 j2 : Nat),
    X.mg rfn = some (.ref gA) ∧ PySem.W.keepIn X.K (.ref gA) = true ∧ X.K.lookup gA = some ⟨oc, od, .func (PySem.W.fnOf rfn rfn pg (refBody a e p1 p2 p3 p4 p5 p6 p7 p8 p9 p10 j1 j2) sg dV kV doc pm an cdv ct), osl⟩ ∧ PySem.W.codeIn X.K cdv rfn = true ∧
    L2.Binds X.K (PySem.W.fnOf rfn rfn pg (refBody a e p1 p2 p3 p4 p5 p6 p7 p8 p9 p10 j1 j2) sg dV kV doc pm an cdv ct) [a] [] ∧ FnScope Ng [a] sg ∧ Ng[0]? = some a ∧ Vis sg a ∧ (a == ("__debug__" : Str)) = false ∧ (a == ("__classdict__" : Str)) = false ∧
    sg.names.lookup e = some .globalImplicit ∧ X.mg e = some (.ref CS) ∧ (e == ("__debug__" : Str)) = false ∧ ∀ c, rcs.contains c = true → PySem.W.exmOne X.K (g.cls c) (.ref CS) = some true
/-- a lambda without parameters -/
def lam0 : Expr → Option (Arguments × Expr × Scope × Pos)
  | .Lambda params body scope pos => some (params, body, scope, pos)
  | _ => none
theorem lam0_some {e : Expr} {x : Arguments × Expr × Scope × Pos} (h : lam0 e = some x) : e = .Lambda x.1 x.2.1 x.2.2.1 x.2.2.2 := by
  cases e <;> first | (cases h; rfl) | cases h
section
variable {g : G} {W : WX} {Γ : Sm} {X : Cx} {N : List Str} {sc : Scope} {k : Nat} {m : M}
theorem ext_of {ta : Addr} {H H1 : Hp} (e : LamX.ExtN H H1) : Ext ta H H1 := fun b o _ h f => e b o h fun ps z => by rw [z] at f; exact f
theorem World.tabsX {F : Addr → Prop} {ta ca : Addr} {H H1 : Hp} {tp : Tp} (w : World g F ta ca H tp) (e : LamX.ExtN H H1) (t : g.T H1) : World g F ta ca H1 tp := by
  have keep : ∀ a, MutK (H a) → H1 a = H a := fun a z => by
    cases q : H a with
    | none => rw [q] at z; exact z.elim
    | some o =>
      rw [q] at z
      exact e a o q fun ps y => by rw [y] at z; exact z
  exact ⟨fun a z => by rw [keep a (w.trk a z)]; exact w.trk a z, w.hta, e _ _ w.tape (fun ps z => by cases z), w.nca, e _ _ w.cells (fun ps z => by cases z), t⟩
theorem e_rfs {a : C} {cs : List Nat} {rfn : Str} {params : Arguments} {body : Expr} {scope : Scope} {p lpos pos : Pos} (G : Gd X N sc k) (hm : m ≠ .t) (L : LamOk g X k rfn cs) (hg : glB sc rfn = true) (hdb : (rfn == ("__debug__" : Str)) = false) (hL : LamX.lamSB sc scope = true) (hdef : defaultsOf params X.env = ([], []))
    (hbind : ∀ (q : Str) (cl : List (Str × Addr)) (pm cv ctv : Value), bindArgs (PySem.W.kla_fn "<lambda>" q params body scope cl pm cv ctv) ⟨[], []⟩ = pure [])
    (hbody : ∀ (A : Around) (outer : List Env) (s : Shared) (H : Hp) (E : XK) (f c' : Addr), Room k (A.deeper (LamX.lamEnv X scope s.heap.objs.size f c')) → PE (LamX.lamCx X A outer s H E scope f c') body (rdE g X.K (fun cls d _ H => E cls d H) Γ .r a)) :
    PE X (.Call (.Name rfn p) [.Lambda params body scope lpos] [] pos) (rdE g X.K W Γ m (.rfs a cs)) := by
  obtain ⟨room, ⟨T, c, P, gT, hcode, TB, hmem, huni⟩, gA, CS, pg, sg, dV, kV, doc, pm, cdv, ct, oc, an, od, osl, Ng, an1, e, p1, p2, p3, p4, p5, p6, p7, p8, p9, p10, j1, j2, r1, r2, r3, r4, r5, r6, r7, r8, r9, r10, r11, r12, r13, r14⟩ := L
  have hst : ∀ f : Addr, (L2.start Ng [V.ref f])[0]? = some (some (V.ref f)) := fun f => by
    unfold L2.start
    rfl
  refine PE.imp (LamX.pe_lamcall (X := X) (T := T) (TT := TTref X.K CS) (t := fun E => rdE g X.K (fun cls d _ H => E cls d H) Γ .r a) (gl_of G hg) r1 r2 r3 r4 r5 r6 r7 r8 (ref_gives r11 r12 r13 hst) TB hcode hmem huni room (LamX.lamS_by (by rw [G.sc]; exact hL)) hdef hbind hbody hdb r9 r10) fun σ H Q h => ?_
  obtain ⟨F, ta, ca, env, tp, E, h⟩ := h
  unfold ev at h
  rw [fin_ne hm] at h
  have tabs := E.wd.tabs
  refine ⟨by rw [← gT]; exact tabs, fun H1 e1 t1 => ?_⟩
  rw [← gT] at t1
  have w1 := E.wd.tabsX e1 t1
  have x1 : Ext ta H H1 := ext_of e1
  refine ⟨F, ta, ca, env, tp, E.ext x1 w1, ?_⟩
  cases q : ev Γ .r a env tp with
  | bad => rw [q] at h; exact h.elim
  | ok d t =>
    rw [q] at h
    intro H2 e2 w2 v rv
    exact h H2 (x1.trans e2) w2 (.bl false) (by cases m <;> first | exact .bl false | exact .of (.bl false))
  | exc c1 t =>
    rw [q] at h
    intro H2 e2 w2
    have h : HdG g W F ta ca H σ (match cs.contains c1 with
      | true => Out.ok (PyData.bool true) t
      | false => .bad) _ := h
    cases hc : cs.contains c1 with
    | false => rw [hc] at h; exact h.elim
    | true =>
      rw [hc] at h
      exact ⟨true, r14 c1 hc, fun _ => h H2 (x1.trans e2) w2 (.bl true) (by cases m <;> first | exact .bl true | exact .of (.bl true)), fun z => by cases z⟩
end
end Q

set_option Elab.async false
set_option linter.all false
set_option maxRecDepth 100000
namespace Q
open PySem PySem.Spec L2
open PyProof.Rows hiding St
/-! ### the check of expressions -/
/-- the classes of exceptions; whether a def makes lambdas; the def that calls them, what it catches -/
structure CkX where
  exc : List Str
  lam : Bool
  rfn : Str
  rcs : List Nat
def CkX.off : CkX := ⟨[], false, "", []⟩
def CkX.no (x : CkX) : CkX := ⟨x.exc, false, x.rfn, x.rcs⟩
structure Ck where
  N : List Str
  names : List Str
  free : Str → Bool
  glo : Str → Bool
  x : CkX
def opB : BO → Operator → Bool
  | .add, .Add => true | .sub, .Sub => true | .mul, .Mult => true | .fdiv, .FloorDiv => true | .mod, .Mod => true | .shl, .LShift => true
  | _, _ => false
theorem opB_ok {o : BO} {p : Operator} (h : opB o p = true) : p = opOf o := by
  cases o <;> cases p <;> first | rfl | cases h
def coB : CO → CmpOp → Bool
  | .lt, .Lt => true | .le, .LtE => true | .gt, .Gt => true | .ge, .GtE => true | .eq, .Eq => true | .ne, .NotEq => true | .mem, .In => true | .nmem, .NotIn => true | .is, .Is => true | .isnt, .IsNot => true
  | _, _ => false
theorem coB_ok {o : CO} {p : CmpOp} (h : coB o p = true) : p = coOf o := by
  cases o <;> cases p <;> first | rfl | cases h
def litB : D → Const → Bool
  | .none, .none => true
  | .bool a, .bool b => a == b
  | .int a, .int b => decide (a = b)
  | .str a, .str b => decide (a = b)
  | _, _ => false
def notB : BF → Bool
  | .isTup => false
  | .sortset => false
  | _ => true
def argV : C → Bool
  | .var _ => true
  | _ => false
def fzB (scope : Scope) : Str → Bool := fun x => scope.names.lookup x == some .cell
def plainT : Expr → Bool
  | .Name _ _ => true | .Constant _ _ _ => true | .Call _ _ _ _ => true | .Subscript _ _ _ => true | .BinOp _ _ _ _ => true | .List _ _ => true | .Tuple _ _ _ => true | .ListComp _ _ _ _ => true
  | _ => false
def notTB : M → Bool
  | .t => false
  | _ => true
def plainC : C → Bool
  | .not _ => false | .and _ _ => false | .or _ _ => false | .ite _ _ _ => false | .cmp _ _ _ => false | .chain _ _ _ _ _ => false
  | _ => true
def notSet : Expr → Bool
  | .Set _ _ _ => false
  | _ => true
def ownOf (N : List Str) (ow : List Nat) : List (Str × Nat) := ow.map fun i => ((N[i]?).getD default, i)
theorem ownOf_snd {N : List Str} {ow : List Nat} : (ownOf N ow).map (·.2) = ow := by
  unfold ownOf
  rw [List.map_map]
  exact (List.map_congr_left fun _ _ => rfl).trans (List.map_id ow)
def callB : Expr → Bool
  | .Call _ _ _ _ => true
  | _ => false
def oneB : Const → Bool
  | .int i => decide (i = 1)
  | _ => false
/-- the step -1 -/
def negOne : Option Expr → Bool
  | some (.UnaryOp .USub (.Constant c _ _) _) => oneB c
  | _ => false
def noneE : Option Expr → Bool
  | none => true
  | _ => false
/-- o[a:b:c] -/
def slice3 : Expr → Option (Expr × Option Expr × Option Expr × Option Expr × Pos × Pos)
  | .Subscript o (.Slice a b c p) q => some (o, a, b, c, p, q)
  | _ => none
theorem slice3_some {e : Expr} {x : Expr × Option Expr × Option Expr × Option Expr × Pos × Pos} (h : slice3 e = some x) : e = .Subscript x.1 (.Slice x.2.1 x.2.2.1 x.2.2.2.1 x.2.2.2.2.1) x.2.2.2.2.2 := by
  cases e <;> first | (cases h; done) | skip
  rename_i o s q
  cases s <;> first | (cases h; rfl) | cases h
/-- o.at(e, ..) -/
def mcall : Expr → Option (Expr × Str × Pos × List Expr × Pos)
  | .Call (.Attribute o a p) es [] q => some (o, a, p, es, q)
  | _ => none
theorem mcall_some {e : Expr} {x : Expr × Str × Pos × List Expr × Pos} (h : mcall e = some x) : e = .Call (.Attribute x.1 x.2.1 x.2.2.1) x.2.2.2.1 [] x.2.2.2.2 := by
  cases e <;> first | (cases h; done) | skip
  rename_i f as ks p
  cases f <;> first | (cases h; done) | skip
  cases ks <;> first | (cases h; rfl) | cases h
/-- f(e, ..) -/
def ncall : Expr → Option (Str × Pos × List Expr × Pos)
  | .Call (.Name x p) es [] q => some (x, p, es, q)
  | _ => none
theorem ncall_some {e : Expr} {x : Str × Pos × List Expr × Pos} (h : ncall e = some x) : e = .Call (.Name x.1 x.2.1) x.2.2.1 [] x.2.2.2 := by
  cases e <;> first | (cases h; done) | skip
  rename_i f as ks p
  cases f <;> first | (cases h; done) | skip
  cases ks <;> first | (cases h; rfl) | cases h
def nameOf : Expr → Option (Str × Pos)
  | .Name x p => some (x, p)
  | _ => none
theorem nameOf_some {e : Expr} {x : Str × Pos} (h : nameOf e = some x) : e = .Name x.1 x.2 := by
  cases e <;> first | (cases h; rfl) | cases h
def cmp3Of : Expr → Option (Expr × CmpOp × CmpOp × CmpOp × Expr × Expr × Expr × Pos)
  | .Compare a [o, p, q] [b, c, d] r => some (a, o, p, q, b, c, d, r)
  | _ => none
theorem cmp3Of_some {e : Expr} {x : Expr × CmpOp × CmpOp × CmpOp × Expr × Expr × Expr × Pos} (h : cmp3Of e = some x) : e = .Compare x.1 [x.2.1, x.2.2.1, x.2.2.2.1] [x.2.2.2.2.1, x.2.2.2.2.2.1, x.2.2.2.2.2.2.1] x.2.2.2.2.2.2.2 := by
  cases e <;> first | (cases h; done) | skip
  rename_i a os es r
  match os, es, h with
  | [o, p, q], [b, c, d], h => cases h; rfl
def dcOf : Expr → Option (Expr × Expr × Expr × Expr × List Expr × Scope × Pos)
  | .DictComp k v [⟨tg, it, ifs, 0⟩] s p => some (k, v, tg, it, ifs, s, p)
  | _ => none
theorem dcOf_some {e : Expr} {x : Expr × Expr × Expr × Expr × List Expr × Scope × Pos} (h : dcOf e = some x) : e = .DictComp x.1 x.2.1 [⟨x.2.2.1, x.2.2.2.1, x.2.2.2.2.1, 0⟩] x.2.2.2.2.2.1 x.2.2.2.2.2.2 := by
  cases e <;> first | (cases h; done) | skip
  rename_i k v gs s p
  match gs, h with
  | [⟨tg, it, ifs, 0⟩], h => cases h; rfl
def lc2Of : Expr → Option (Expr × (Expr × Expr × List Expr) × (Expr × Expr × List Expr) × Scope × Pos)
  | .ListComp elt [⟨tg, iter, ifs, 0⟩, ⟨tg1, iter1, ifs1, 0⟩] scope pos => some (elt, (tg, iter, ifs), (tg1, iter1, ifs1), scope, pos)
  | _ => none
theorem lc2Of_some {e : Expr} {x : Expr × (Expr × Expr × List Expr) × (Expr × Expr × List Expr) × Scope × Pos} (h : lc2Of e = some x) : e = .ListComp x.1 [⟨x.2.1.1, x.2.1.2.1, x.2.1.2.2, 0⟩, ⟨x.2.2.1.1, x.2.2.1.2.1, x.2.2.1.2.2, 0⟩] x.2.2.2.1 x.2.2.2.2 := by
  cases e <;> first | (cases h; done) | skip
  rename_i elt gs s p
  match gs, h with
  | [⟨tg, iter, ifs, 0⟩, ⟨tg1, iter1, ifs1, 0⟩], h => cases h; rfl
def noStars (es : List Expr) : Bool := es.all fun e => !starB e
mutual
def chkE (K : Ck) : Scope → (Str → Bool) → M → C → Expr → Bool
  | sc, fz, m, .var i, e => match e with
    | .Name x _ => decide (K.N[i]? = some x) && visB sc x && nameB x
    | _ => false
  | sc, fz, m, .lit d, e => match e with
    | .Constant c _ _ => litB d c
    | _ => false
  | sc, fz, m, .glo y, e => match e with
    | .Name x _ => notTB m && decide (x = y) && glB sc x && nameB x && K.glo x
    | _ => false
  | sc, fz, m, .bin o a b, e => match e with
    | .BinOp ea p eb _ => opB o p && chkE K sc fz .r a ea && chkE K sc fz .r b eb
    | _ => false
  | sc, fz, m, .neg a, e => match e with
    | .UnaryOp .USub ea _ => notTB m && chkE K sc fz .r a ea
    | _ => false
  | sc, fz, m, .cmp o a b, e => match e with
    | .Compare ea [p] [eb] _ => coB o p && chkE K sc fz .r a ea && chkE K sc fz .r b eb && !behindInMarks p eb
    | _ => false
  | sc, fz, m, .chain o q a b c, e => match e with
    | .Compare ea [p, p2] [eb, ec] _ => coB o p && coB q p2 && chkE K sc fz .r a ea && chkE K sc fz .r b eb && chkE K sc fz .r c ec && !lastMarks [p, p2] [eb, ec]
    | _ => false
  | sc, fz, m, .not a, e => match e with
    | .UnaryOp .Not ea _ => chkE K sc fz m.op a ea
    | _ => false
  | sc, fz, m, .and a b, e => match e with
    | .BoolOp .And [ea, eb] _ => chkE K sc fz m.op a ea && chkE K sc fz m b eb
    | .BoolOp .And (ea :: eb :: er :: es) pos => chkE K sc fz m.op a ea && chkE K sc fz m b (.BoolOp .And (eb :: er :: es) pos)
    | _ => false
  | sc, fz, m, .or a b, e => match e with
    | .BoolOp .Or [ea, eb] _ => chkE K sc fz m.op a ea && chkE K sc fz m b eb
    | .BoolOp .Or (ea :: eb :: er :: es) pos => chkE K sc fz m.op a ea && chkE K sc fz m b (.BoolOp .Or (eb :: er :: es) pos)
    | _ => false
  | sc, fz, m, .ite t a b, e => match e with
    | .IfExp et ea eb _ => chkE K sc fz .t t et && chkE K sc fz m a ea && chkE K sc fz m b eb
    | _ => false
  | sc, fz, m, .call f as, e => match e with
    | .Call (.Name x _) (e1 :: es) [] _ => decide (K.names[f]? = some x) && glB sc x && nameB x && noStars (e1 :: es) && chkA K sc fz as (e1 :: es)
    | _ => false
  | sc, fz, m, .blt f as, e => match e with
    | .Call (.Name x _) (e1 :: es) [] _ => match f with
      | .isTup => match as, es with
        | .cons a .nil, [.Name y _] => decide (x = "isinstance") && decide (y = "tuple") && glB sc "isinstance" && glB sc "tuple" && K.free "isinstance" && K.free "tuple" && chkE K sc fz .r a e1 && !starB e1
        | _, _ => false
      | .sortset => match as, es, e1 with
        | .cons a .nil, [], .Call (.Name y _) [ea] [] _ => decide (x = "sorted") && decide (y = "set") && glB sc "sorted" && glB sc "set" && K.free "sorted" && K.free "set" && chkE K sc fz .r a ea && !starB ea
        | _, _, _ => false
      | f => notB f && decide (x = bfName f) && glB sc (bfName f) && K.free (bfName f) && noStars (e1 :: es) && chkEs K sc fz .r as (e1 :: es)
    | _ => false
  | sc, fz, m, .ix a i, e => match e with
    | .Subscript ea ei _ => chkE K sc fz .r a ea && chkE K sc fz .r i ei && !sliceB ei
    | _ => false
  | sc, fz, m, .slc a lo hi, e => match e with
    | .Subscript ea (.Slice el eh none _) _ => chkE K sc fz .r a ea && chkO K sc fz lo el && chkO K sc fz hi eh
    | _ => false
  | sc, fz, m, .lst as, e => match e with
    | .List es _ => chkEs K sc fz .v as es
    | _ => false
  | sc, fz, m, .tup as, e => match e with
    | .Tuple es _ _ => chkEs K sc fz .v as es
    | _ => false
  | sc, fz, m, .lc c t kd as cs ow, e => match e with
    | .ListComp elt [⟨tg, iter, ifs, 0⟩] scope _ => blkC K.N sc scope (ownOf K.N ow) && chkG K.N (relS scope sc) (fzB scope) ow t tg && chkI K sc fz kd.md kd as tg iter && notSet iter && chkC K (relS scope sc) (fzB scope) cs ifs && chkE K (relS scope sc) (fzB scope) .v c elt
    | _ => false
  | _, _, _, .mth _ _ _, _ => false
  | sc, fz, m, .rev a, e => match slice3 e with
    | some (ea, lo, hi, st, _, _) => noneE lo && noneE hi && negOne st && chkE K sc fz .r a ea
    | none => false
  | sc, fz, m, .chain3 o q r a b c d, e => match cmp3Of e with
    | some (ea, p1, p2, p3, eb, ec, ed, _) => coB o p1 && coB q p2 && coB r p3 && chkE K sc fz .r a ea && chkE K sc fz .r b eb && chkE K sc fz .r c ec && chkE K sc fz .r d ed && !lastMarks [p1, p2, p3] [eb, ec, ed]
    | none => false
  | sc, fz, m, .dget2 a kk d, e => match mcall e with
    | some (ea, at_, ap, [ek, ex], cp) => decide (at_ = "get") && !callB ea && ap.endLine == cp.line && !starB ek && !starB ex && chkE K sc fz .r a ea && chkE K sc fz .r kk ek && chkE K sc fz .v d ex
    | _ => false
  | sc, fz, m, .dgo i kk d, e => match mcall e with
    | some (ea, at_, ap, [ek, ex], cp) => match nameOf ea with
      | some (x, _) => decide (at_ = "get") && ap.endLine == cp.line && !starB ek && !starB ex && decide (K.N[i]? = some x) && visB sc x && nameB x && chkE K sc fz .r kk ek && chkE K sc fz .v d ex
      | none => false
    | _ => false
  | sc, fz, m, .dcp kk v t kd as cs ow, e => match dcOf e with
    | some (kx, vx, tg, iter, ifs, scope, _) => notTB m && blkC K.N sc scope (ownOf K.N ow) && chkG K.N (relS scope sc) (fzB scope) ow t tg && chkI K sc fz kd.md kd as tg iter && notSet iter && chkC K (relS scope sc) (fzB scope) cs ifs && chkE K (relS scope sc) (fzB scope) .r kk kx && chkE K (relS scope sc) (fzB scope) .v v vx
    | none => false
  | sc, fz, m, .dcpT kk v t kd as cs ow, e => match dcOf e with
    | some (kx, vx, tg, iter, ifs, scope, _) => notTB m && blkC K.N sc scope (ownOf K.N ow) && chkG K.N (relS scope sc) (fzB scope) ow t tg && chkI K sc fz kd.md kd as tg iter && notSet iter && chkC K (relS scope sc) (fzB scope) cs ifs && chkE K (relS scope sc) (fzB scope) .r kk kx && chkE K (relS scope sc) (fzB scope) .v v vx
    | none => false
  | sc, fz, m, .lc2 c t kd as cs t1 k1 as1 cs1 ow ow1, e => match lc2Of e with
    | some (elt, (tg, iter, ifs), (tg1, iter1, ifs1), scope, _) => blkC K.N sc scope (ownOf K.N ow) && ow1.all (fun i => ow.contains i) && chkG K.N (relS scope sc) (fzB scope) ow t tg && chkI K sc fz kd.md kd as tg iter && notSet iter && chkC K (relS scope sc) (fzB scope) cs ifs && chkI K (relS scope sc) (fzB scope) .v k1 as1 tg1 iter1 && notSet iter1 && chkG K.N (relS scope sc) (fzB scope) ow1 t1 tg1 && chkC K (relS scope sc) (fzB scope) cs1 ifs1 && chkE K (relS scope sc) (fzB scope) .v c elt
    | none => false
  | _, _, _, .rfs _ _, _ => false
  | sc, fz, m, .tg i f, e => match e with
    | .Subscript (.Name x _) (.Constant (.str s) _ _) _ => decide (K.N[i]? = some x) && visB sc x && nameB x && decide (s = tfName f)
    | _ => false
def chkEs (K : Ck) : Scope → (Str → Bool) → M → Cs → List Expr → Bool
  | sc, fz, m, .nil, es => es.isEmpty
  | sc, fz, m, .cons a as, es => match es with
    | e :: es => chkE K sc fz m a e && !starB e && chkEs K sc fz m as es
    | [] => false
def chkA (K : Ck) : Scope → (Str → Bool) → Cs → List Expr → Bool
  | sc, fz, .nil, es => es.isEmpty
  | sc, fz, .cons a as, es => match es with
    | e :: es => chkE K sc fz .v a e && !starB e && chkA K sc fz as es
    | [] => false
def chkO (K : Ck) : Scope → (Str → Bool) → Cs → Option Expr → Bool
  | sc, fz, .nil, e => e.isNone
  | sc, fz, .cons a as, e => match as, e with
    | .nil, some e => chkE K sc fz .r a e
    | _, _ => false
def chkC (K : Ck) : Scope → (Str → Bool) → Cs → List Expr → Bool
  | sc, fz, .nil, es => es.isEmpty
  | sc, fz, .cons a as, es => match as, es with
    | .nil, [e] => chkE K sc fz .t a e
    | _, _ => false
def chkI (K : Ck) : Scope → (Str → Bool) → M → IK → Cs → Expr → Expr → Bool
  | sc, fz, m, kd, .nil, _, _ => false
  | sc, fz, m, kd, .cons a as, tg, e => match kd with
    | .seq => (match as with | .nil => true | _ => false) && chkE K sc fz m a e
    | .rng1 => match as, e with
      | .nil, .Call (.Name x _) [e1] [] _ => decide (x = "range") && glB sc "range" && K.free "range" && !starB e1 && chkE K sc fz m a e1
      | _, _ => false
    | .rng2 => match e with
      | .Call (.Name x _) [e1, e2] [] _ => decide (x = "range") && glB sc "range" && K.free "range" && !starB e1 && !starB e2 && chkE K sc fz m a e1 && chkEs K sc fz m as [e2]
      | _ => false
    | .enum => match as, e with
      | .nil, .Call (.Name x _) [e1] [] _ => decide (x = "enumerate") && glB sc "enumerate" && K.free "enumerate" && isTupE tg && !starB e1 && chkE K sc fz m a e1
      | _, _ => false
    | .rng3 => match ncall e with
      | some (x, _, [e1, e2, e3], _) => decide (x = "range") && glB sc "range" && K.free "range" && !starB e1 && noStars [e2, e3] && chkE K sc fz m a e1 && chkEs K sc fz m as [e2, e3]
      | _ => false
    | .items => match as, m, mcall e with
      | .nil, .v, some (ea, at_, ap, [], cp) => decide (at_ = "items") && isTupE2 tg && !callB ea && ap.endLine == cp.line && chkE K sc fz .v a ea
      | _, _, _ => false
    | .zip => match e with
      | .Call (.Name x _) [e1, e2] [] _ => decide (x = "zip") && glB sc "zip" && K.free "zip" && isTupE tg && !starB e1 && !starB e2 && chkE K sc fz m a e1 && chkEs K sc fz m as [e2]
      | _ => false
end
end Q

set_option Elab.async false
set_option linter.all false
set_option maxRecDepth 100000
set_option maxHeartbeats 4000000
namespace Q
open PySem PySem.Spec L2
open PyProof.Rows hiding St
structure Okx (g : G) (Γ : Sm) (X : Cx) (ck : Ck) (sc : Scope) (fz : Str → Bool) (k : Nat) (W : WX) : Prop where
  gd : Gd X ck.N sc k
  fF : Fz X fz
  tk : Takes X W
  hF : FnsOk g Γ X k ck.names
  free : ∀ x, ck.free x = true → X.mg x = none
  glo : ∀ x, ck.glo x = true → ∃ v u d, X.mg x = some u ∧ RelV v u ∧ (∀ H F, Rep X.K H F v d) ∧ Γ.glob x = some d
section
variable {g : G} {W : WX} {Γ : Sm} {X : Cx} {ck : Ck} {sc : Scope} {fz : Str → Bool} {k : Nat}
theorem Okx.blk (O : Okx g Γ X ck sc fz k W) (s : Shared) (H : Hp) (scope : Scope) (C : Addr) (cl : List (Str × Addr)) (fp : List Addr) : Okx g Γ (X.blk s H scope (compEnvC scope cl C X.env) fp) ck (relS scope sc) (fzB scope) k W0 where
  gd := ⟨O.gd.hN, O.gd.nd, by rw [← O.gd.sc]; rfl, O.gd.calm, O.gd.room⟩
  fF := fun x h => h
  tk := takes0
  hF := O.hF
  free := O.free
  glo := O.glo
def boolE : Expr → Bool
  | .BoolOp _ _ _ => true
  | _ => false
def Snd (g : G) (Γ : Sm) (X : Cx) (W : WX) (m : M) (c : C) (e : Expr) : Prop := (m ≠ .t → PE X e (rdE g X.K W Γ m c)) ∧ (m = .t → PT X e (rdT g X.K W Γ c) ∧ (boolE e = true → PW X e (rdT g X.K W Γ c)))
theorem plain_he {e : Expr} {env : Env} (h : plainT e = true) : ∀ whole, isTrue e env whole = (do let v ← whole; standAt e.pos; holding [v] (truthy v)) := by
  intro w
  cases e <;> first | rfl | cases h
theorem snd_plain {m : M} {c : C} {e : Expr} (hp : ∀ env tp, ev Γ .t c env tp = fin .t (ev Γ .r c env tp)) (h : ∀ m', m' ≠ .t → PE X e (rdE g X.K W Γ m' c)) (pt : plainT e = true) : Snd g Γ X W m c e :=
  ⟨h m, fun _ => ⟨t_val hp (h .r (fun z => nomatch z)) (plain_he pt), fun b => by cases e <;> first | (cases pt; done) | (cases b; done)⟩⟩
theorem snd_val {m : M} {c : C} {e : Expr} (hm : notTB m = true) (h : ∀ m', m' ≠ .t → PE X e (rdE g X.K W Γ m' c)) : Snd g Γ X W m c e :=
  ⟨h m, fun z => by subst z; cases hm⟩
theorem op_ne {m : M} (h : m ≠ .t) : m.op = .r := by
  cases m <;> first | rfl | exact absurd rfl h
theorem lit_pe {d : D} {c : Const} {j : Nat} {pos : Pos} (h : litB d c = true) : ∃ v, PE X (.Constant c j pos) (tC v) ∧ ∀ K H F, Rep K H F v d := by
  unfold litB at h
  split at h
  · exact ⟨_, pe_non, fun _ _ _ => .non⟩
  · cases (by simpa using h : _ = _)
    exact ⟨_, pe_bl, fun _ _ _ => .bl _⟩
  · cases (of_decide_eq_true h)
    exact ⟨_, pe_int, fun _ _ _ => .int _⟩
  · cases (of_decide_eq_true h)
    exact ⟨_, pe_str, fun _ _ _ => .str _⟩
  · cases h
theorem rne : M.r ≠ .t := fun h => nomatch h
theorem vne : M.v ≠ .t := fun h => nomatch h
theorem md_ne {kd : IK} : kd.md ≠ .t := by cases kd <;> exact fun h => nomatch h
theorem bnot {b : Bool} (h : (!b) = true) : b = false := by simpa using h
theorem all_in {xs ys : List Nat} (h : xs.all (fun i => ys.contains i) = true) : ∀ i ∈ xs, i ∈ ys := fun i hi => by
  have := List.all_eq_true.mp h i hi
  simpa using this
theorem fold_set {e : Expr} {env : Env} (h : notSet e = true) : ∀ x, foldedSetIterable e env x = pure x := by
  intro x
  cases e <;> first | rfl | cases h
theorem base_of {e : Expr} {at_ : Str} {env : Env} (h : callB e = false) : attributeBase e at_ env (eval e env) = eval e env := by
  cases e <;> first | rfl | cases h
theorem m2_of {X : Cx} {o e f : Expr} {mm : Str} {apos cpos : Pos} (h1 : callB o = false) (h2 : (apos.endLine == cpos.line) = true) (h3 : starB e = false) (h4 : starB f = false) : M2 X o mm apos e f cpos := by
  have hs : starEach [e, f] X.env = [(false, eval e X.env), (false, eval f X.env)] := by
    rw [star_eq h3, star_eq h4]
    rfl
  exact ⟨base_of h1, by rw [hs]; rfl, h2, by rw [hs]; rfl⟩
theorem negOne_some {o : Option Expr} (h : negOne o = true) : ∃ j p0 p1, o = some (.UnaryOp .USub (.Constant (.int 1) j p0) p1) := by
  cases o with
  | none => cases h
  | some e =>
    cases e <;> first | (cases h; done) | skip
    rename_i op ea p1
    cases op <;> first | (cases h; done) | skip
    cases ea <;> first | (cases h; done) | skip
    rename_i c j p0
    cases c <;> first | (cases h; done) | skip
    rename_i i
    have h : decide (i = 1) = true := h
    cases of_decide_eq_true h
    exact ⟨j, p0, p1, rfl⟩
theorem noneE_some {o : Option Expr} (h : noneE o = true) : o = none := by
  cases o <;> first | rfl | cases h
theorem empty_nil {α : Type} {l : List α} (h : l.isEmpty = true) : l = [] := by
  cases l <;> first | rfl | cases h
mutual
theorem chkE_ok {X : Cx} {sc : Scope} {fz : Str → Bool} {W : WX} (O : Okx g Γ X ck sc fz k W) : ∀ {m : M} {c : C} {e : Expr}, chkE ck sc fz m c e = true → Snd g Γ X W m c e
  | m, .var i, e, h => by
    cases e with
    | Name x pos =>
      obtain ⟨h, h3⟩ := and2 (a := decide (ck.N[i]? = some x) && visB sc x) h
      obtain ⟨h1, h2⟩ := and2 h
      exact snd_plain (fun _ _ => rfl) (fun m' hm => e_var O.gd hm (of_decide_eq_true h1) h2 h3) rfl
    | _ => cases h
  | m, .lit d, e, h => by
    cases e with
    | Constant c j pos =>
      obtain ⟨v, h1, h2⟩ := lit_pe (X := X) (j := j) (pos := pos) h
      exact snd_plain (fun _ _ => rfl) (fun m' hm => e_lit hm h1 (fun H F => h2 X.K H F)) rfl
    | _ => cases h
  | m, .glo y, e, h => by
    cases e with
    | Name x pos =>
      obtain ⟨h, h4⟩ := and2 (a := notTB m && decide (x = y) && glB sc x && nameB x) h
      obtain ⟨h, h3⟩ := and2 h
      obtain ⟨h, h2⟩ := and2 h
      obtain ⟨h0, h1⟩ := and2 h
      cases of_decide_eq_true h1
      obtain ⟨v, u, d, p1, p2, p3, p4⟩ := O.glo _ h4
      exact snd_val h0 fun m' hm => e_glo O.gd hm h2 h3 p1 p2 p3 p4
    | _ => cases h
  | m, .bin o a b, e, h => by
    cases e with
    | BinOp ea p eb pos =>
      obtain ⟨h, h3⟩ := and2 (a := opB o p && chkE ck sc fz .r a ea) h
      obtain ⟨h1, h2⟩ := and2 h
      cases opB_ok h1
      have pa := (chkE_ok O h2).1 rne
      have pb := (chkE_ok O h3).1 rne
      exact snd_plain (fun _ _ => rfl) (fun m' hm => e_bin hm pa pb) rfl
    | _ => cases h
  | m, .neg a, e, h => by
    cases e with
    | UnaryOp p ea pos =>
      cases p with
      | USub =>
        obtain ⟨h0, h1⟩ := and2 (a := notTB m) h
        have pa := (chkE_ok O h1).1 rne
        exact snd_val h0 fun m' hm => e_neg hm pa
      | _ => cases h
    | _ => cases h
  | m, .cmp o a b, e, h => by
    cases e with
    | Compare ea ps es pos =>
      cases ps with
      | nil => cases h
      | cons p ps =>
        cases ps with
        | cons _ _ => cases es <;> cases h
        | nil =>
          cases es with
          | nil => cases h
          | cons eb es =>
            cases es with
            | cons _ _ => cases h
            | nil =>
              obtain ⟨h, h4⟩ := and2 (a := coB o p && chkE ck sc fz .r a ea && chkE ck sc fz .r b eb) h
              obtain ⟨h, h3⟩ := and2 h
              obtain ⟨h1, h2⟩ := and2 h
              cases coB_ok h1
              have pa := (chkE_ok O h2).1 rne
              have pb := (chkE_ok O h3).1 rne
              exact ⟨fun hm => e_cmp O.gd hm pa pb (bnot h4), fun _ => ⟨t_cmp O.gd pa pb (bnot h4), fun z => nomatch z⟩⟩
    | _ => cases h
  | m, .chain o q a b c, e, h => by
    cases e with
    | Compare ea ps es pos =>
      match ps, es, h with
      | [p, p2], [eb, ec], h =>
        obtain ⟨h, h6⟩ := and2 (a := coB o p && coB q p2 && chkE ck sc fz .r a ea && chkE ck sc fz .r b eb && chkE ck sc fz .r c ec) h
        obtain ⟨h, h5⟩ := and2 h
        obtain ⟨h, h4⟩ := and2 h
        obtain ⟨h, h3⟩ := and2 h
        obtain ⟨h1, h2⟩ := and2 h
        cases coB_ok h1
        cases coB_ok h2
        have pa := (chkE_ok O h3).1 rne
        have pb := (chkE_ok O h4).1 rne
        have pc := (chkE_ok O h5).1 rne
        exact ⟨fun hm => e_chain O.gd hm pa pb pc (bnot h6), fun _ => ⟨t_chain O.gd pa pb pc (bnot h6), fun z => nomatch z⟩⟩
    | _ => cases h
  | m, .not a, e, h => by
    cases e with
    | UnaryOp p ea pos =>
      cases p with
      | Not =>
        have h : chkE ck sc fz m.op a ea = true := h
        have s := chkE_ok O h
        refine ⟨fun hm => ?_, fun hm => ?_⟩
        · rw [op_ne hm] at s
          exact e_not hm (s.1 rne)
        · subst hm
          exact ⟨t_not (s.2 rfl).1, fun z => nomatch z⟩
      | _ => cases h
    | _ => cases h
  | m, .and a b, e, h => by
    cases e with
    | BoolOp p es pos =>
      cases p with
      | Or =>
        cases h
      | And =>
        match es, h with
        | [ea, eb], h =>
          obtain ⟨h1, h2⟩ := and2 (a := chkE ck sc fz m.op a ea) h
          have sa := chkE_ok O h1
          have sb := chkE_ok O h2
          refine ⟨fun hm => ?_, fun hm => ?_⟩
          · rw [op_ne hm] at sa
            refine PE.imp (pe_and (sa.1 rne) (pe_one (sb.1 hm))) fun σ H Q h => ?_
            obtain ⟨F, ta, ca, env, tp, E, h⟩ := h
            exact and_imp hm E h
          · subst hm
            have w : PW X (.BoolOp .And [ea, eb] pos) (rdT g X.K W Γ (.and a b)) := PW.imp (pw_and (sa.2 rfl).1 (pw_and1 (sb.2 rfl).1)) fun σ H Q h => tand_imp h
            exact ⟨w.pt, fun _ => w⟩
        | ea :: eb :: er :: es, h =>
          obtain ⟨h1, h2⟩ := and2 (a := chkE ck sc fz m.op a ea) h
          have sa := chkE_ok O h1
          have sb := chkE_ok O h2
          refine ⟨fun hm => ?_, fun hm => ?_⟩
          · rw [op_ne hm] at sa
            refine PE.imp (pe_and (sa.1 rne) (sb.1 hm)) fun σ H Q h => ?_
            obtain ⟨F, ta, ca, env, tp, E, h⟩ := h
            exact and_imp hm E h
          · subst hm
            have w : PW X (.BoolOp .And (ea :: eb :: er :: es) pos) (rdT g X.K W Γ (.and a b)) := PW.imp (pw_and (sa.2 rfl).1 ((sb.2 rfl).2 rfl)) fun σ H Q h => tand_imp h
            exact ⟨w.pt, fun _ => w⟩
    | _ => cases h
  | m, .or a b, e, h => by
    cases e with
    | BoolOp p es pos =>
      cases p with
      | And =>
        cases h
      | Or =>
        match es, h with
        | [ea, eb], h =>
          obtain ⟨h1, h2⟩ := and2 (a := chkE ck sc fz m.op a ea) h
          have sa := chkE_ok O h1
          have sb := chkE_ok O h2
          refine ⟨fun hm => ?_, fun hm => ?_⟩
          · rw [op_ne hm] at sa
            refine PE.imp (pe_or (sa.1 rne) (pe_one (sb.1 hm))) fun σ H Q h => ?_
            obtain ⟨F, ta, ca, env, tp, E, h⟩ := h
            exact or_imp hm E h
          · subst hm
            have w : PW X (.BoolOp .Or [ea, eb] pos) (rdT g X.K W Γ (.or a b)) := PW.imp (pw_or (sa.2 rfl).1 (pw_or1 (sb.2 rfl).1)) fun σ H Q h => tor_imp h
            exact ⟨w.pt, fun _ => w⟩
        | ea :: eb :: er :: es, h =>
          obtain ⟨h1, h2⟩ := and2 (a := chkE ck sc fz m.op a ea) h
          have sa := chkE_ok O h1
          have sb := chkE_ok O h2
          refine ⟨fun hm => ?_, fun hm => ?_⟩
          · rw [op_ne hm] at sa
            refine PE.imp (pe_or (sa.1 rne) (sb.1 hm)) fun σ H Q h => ?_
            obtain ⟨F, ta, ca, env, tp, E, h⟩ := h
            exact or_imp hm E h
          · subst hm
            have w : PW X (.BoolOp .Or (ea :: eb :: er :: es) pos) (rdT g X.K W Γ (.or a b)) := PW.imp (pw_or (sa.2 rfl).1 ((sb.2 rfl).2 rfl)) fun σ H Q h => tor_imp h
            exact ⟨w.pt, fun _ => w⟩
    | _ => cases h
  | m, .ite t a b, e, h => by
    cases e with
    | IfExp et ea eb pos =>
      obtain ⟨h, h3⟩ := and2 (a := chkE ck sc fz .t t et && chkE ck sc fz m a ea) h
      obtain ⟨h1, h2⟩ := and2 h
      have st := ((chkE_ok O h1).2 rfl).1
      have sa := chkE_ok O h2
      have sb := chkE_ok O h3
      refine ⟨fun hm => e_ite hm st (sa.1 hm) (sb.1 hm), fun hm => ⟨?_, fun z => nomatch z⟩⟩
      subst hm
      exact t_ite st (sa.2 rfl).1 (sb.2 rfl).1
    | _ => cases h
  | m, .call f as, e, h => by
    cases e with
    | Call fe es kws pos =>
      match fe, es, kws, h with
      | .Name x p, e1 :: es, [], h =>
        obtain ⟨h, h5⟩ := and2 (a := decide (ck.names[f]? = some x) && glB sc x && nameB x && noStars (e1 :: es)) h
        obtain ⟨h, h4⟩ := and2 h
        obtain ⟨h, h3⟩ := and2 h
        obtain ⟨h1, h2⟩ := and2 h
        have pa := chkA_ok O h5
        exact snd_plain (fun _ _ => rfl) (fun m' hm => e_call O.gd O.tk hm O.hF (of_decide_eq_true h1) h2 h3 pa h4) rfl
    | _ => cases h
  | m, .blt f as, e, h => by
    cases e with
    | Call fe es kws pos =>
      match fe, es, kws, h with
      | .Name x p, e1 :: es, [], h =>
        by_cases hf : f = .isTup
        · subst hf
          match as, es, h with
          | .cons a .nil, [.Name y p2], h =>
            obtain ⟨h, h8⟩ := and2 (a := decide (x = "isinstance") && decide (y = "tuple") && glB sc "isinstance" && glB sc "tuple" && ck.free "isinstance" && ck.free "tuple" && chkE ck sc fz .r a e1) h
            obtain ⟨h, h7⟩ := and2 h
            obtain ⟨h, h6⟩ := and2 h
            obtain ⟨h, h5⟩ := and2 h
            obtain ⟨h, h4⟩ := and2 h
            obtain ⟨h, h3⟩ := and2 h
            obtain ⟨h1, h2⟩ := and2 h
            cases of_decide_eq_true h1
            cases of_decide_eq_true h2
            have pa := (chkE_ok O h7).1 rne
            exact snd_plain (fun _ _ => rfl) (fun m' hm => e_isTup O.gd hm h3 (O.free _ h5) h4 (O.free _ h6) pa (bnot h8)) rfl
        · by_cases hf2 : f = .sortset
          · subst hf2
            match as, es, e1, h with
            | .cons a .nil, [], .Call (.Name y p2) [ea] [] pos2, h =>
                  obtain ⟨h, h8⟩ := and2 (a := decide (x = "sorted") && decide (y = "set") && glB sc "sorted" && glB sc "set" && ck.free "sorted" && ck.free "set" && chkE ck sc fz .r a ea) h
                  obtain ⟨h, h7⟩ := and2 h
                  obtain ⟨h, h6⟩ := and2 h
                  obtain ⟨h, h5⟩ := and2 h
                  obtain ⟨h, h4⟩ := and2 h
                  obtain ⟨h, h3⟩ := and2 h
                  obtain ⟨h1, h2⟩ := and2 h
                  cases of_decide_eq_true h1
                  cases of_decide_eq_true h2
                  have pa := (chkE_ok O h7).1 rne
                  exact snd_plain (fun _ _ => rfl) (fun m' hm => e_sortset O.gd hm h3 (O.free _ h5) h4 (O.free _ h6) pa (bnot h8)) rfl
          have h : (notB f && decide (x = bfName f) && glB sc (bfName f) && ck.free (bfName f) && noStars (e1 :: es) && chkEs ck sc fz .r as (e1 :: es)) = true := by
            cases f <;> first | exact h | exact absurd rfl hf | exact absurd rfl hf2 | (cases h; done)
          obtain ⟨h, h5⟩ := and2 h
          obtain ⟨h, h4⟩ := and2 h
          obtain ⟨h, h3⟩ := and2 h
          obtain ⟨h, h2⟩ := and2 h
          obtain ⟨hnb, h1⟩ := and2 h
          have hss : f ≠ .sortset := fun e => by rw [e] at hnb; cases hnb
          cases of_decide_eq_true h1
          have pa := chkEs_ok O rne h5
          exact snd_plain (fun _ _ => rfl) (fun m' hm => e_blt O.gd hm hf hss h2 (O.free _ h3) pa h4) rfl
    | _ => cases h
  | m, .rfs a cs, e, h => by cases h
  | m, .ix a i, e, h => by
    cases e with
    | Subscript ea ei pos =>
      obtain ⟨h, h3⟩ := and2 (a := chkE ck sc fz .r a ea && chkE ck sc fz .r i ei) h
      obtain ⟨h1, h2⟩ := and2 h
      have pa := (chkE_ok O h1).1 rne
      have pi := (chkE_ok O h2).1 rne
      exact snd_plain (fun _ _ => rfl) (fun m' hm => e_ix O.gd hm pa pi (bnot h3)) rfl
    | _ => cases h
  | m, .slc a lo hi, e, h => by
    cases e with
    | Subscript ea ei pos =>
      match ei, h with
      | .Slice el eh none p2, h =>
        obtain ⟨h, h3⟩ := and2 (a := chkE ck sc fz .r a ea && chkO ck sc fz lo el) h
        obtain ⟨h1, h2⟩ := and2 h
        have pa := (chkE_ok O h1).1 rne
        have pl := chkO_ok O h2
        have ph := chkO_ok O h3
        exact snd_plain (fun _ _ => rfl) (fun m' hm => e_slc hm pa pl ph) rfl
    | _ => cases h
  | m, .lst as, e, h => by
    cases e with
    | List es pos =>
      have pa := chkEs_ok O (m := .v) (as := as) (es := es) vne h
      exact snd_plain (fun _ _ => rfl) (fun m' hm => e_lst hm pa) rfl
    | _ => cases h
  | m, .tup as, e, h => by
    cases e with
    | Tuple es j pos =>
      have pa := chkEs_ok O (m := .v) (as := as) (es := es) vne h
      exact snd_plain (fun _ _ => rfl) (fun m' hm => e_tup hm pa) rfl
    | _ => cases h
  | m, .lc c t kd as cs ow, e, h => by
    cases e with
    | ListComp elt gs scope pos =>
      match gs, h with
      | [⟨tg, iter, ifs, 0⟩], h =>
        obtain ⟨h, h6⟩ := and2 (a := blkC ck.N sc scope (ownOf ck.N ow) && chkG ck.N (relS scope sc) (fzB scope) ow t tg && chkI ck sc fz kd.md kd as tg iter && notSet iter && chkC ck (relS scope sc) (fzB scope) cs ifs) h
        obtain ⟨h, h5⟩ := and2 h
        obtain ⟨h, h4⟩ := and2 h
        obtain ⟨h, h3⟩ := and2 h
        obtain ⟨h1, h2⟩ := and2 h
        have pi := chkI_ok O md_ne h3
        have key : PE X (.ListComp elt [⟨tg, iter, ifs, 0⟩] scope pos) (rdF g X.K W Γ (.lc c t kd as cs ow)) := by
          have z := e_lcF (g := g) (W := W) (Γ := Γ) (X := X) (N := ck.N) (sc := sc) (k := k) (t := t) (kd := kd) (as := as) (cs := cs) (e := c) (own := ownOf ck.N ow) (elt := elt) (tg := tg) (iter := iter) (ifs := ifs) (scope := scope) (pos := pos) O.gd pi (blkOk_by h1)
            (fun s H C cl fp => by rw [ownOf_snd]; exact chkG_ok (O.blk s H scope C cl fp).gd (O.blk s H scope C cl fp).fF h2) (fun s H C cl fp => chkC_ok (O.blk s H scope C cl fp) h5) (fun s H C cl fp => (chkE_ok (O.blk s H scope C cl fp) h6).1 vne) (fold_set h4)
          rw [ownOf_snd] at z
          exact z
        refine snd_plain (fun _ _ => rfl) (fun m' hm => PE.imp key fun σ H Q h => rdF_of (fun env tp => ?_) h) rfl
        cases m' <;> first | rfl | exact absurd rfl hm
    | _ => cases h
  | m, .mth f a as, e, h => by cases h
  | m, .rev a, e, h => by
    have h : (match slice3 e with
    | some (ea, lo, hi, st, _, _) => noneE lo && noneE hi && negOne st && chkE ck sc fz .r a ea
    | none => false) = true := h
    cases hq : slice3 e with
    | none => rw [hq] at h; cases h
    | some v =>
      rw [hq] at h
      obtain ⟨ea, lo, hi, st, p, q⟩ := v
      have he := slice3_some hq
      dsimp only at he h
      subst he
      obtain ⟨h, h4⟩ := and2 h
      obtain ⟨h, h3⟩ := and2 h
      obtain ⟨h1, h2⟩ := and2 h
      cases noneE_some h1
      cases noneE_some h2
      obtain ⟨j, p0, p1, rfl⟩ := negOne_some h3
      have pa := (chkE_ok O h4).1 rne
      exact snd_plain (fun _ _ => rfl) (fun m' hm => e_rev hm pa) rfl
  | m, .chain3 o q r a b c d, e, h => by
    have h : (match cmp3Of e with
    | some (ea, p1, p2, p3, eb, ec, ed, _) => coB o p1 && coB q p2 && coB r p3 && chkE ck sc fz .r a ea && chkE ck sc fz .r b eb && chkE ck sc fz .r c ec && chkE ck sc fz .r d ed && !lastMarks [p1, p2, p3] [eb, ec, ed]
    | none => false) = true := h
    cases hq : cmp3Of e with
    | none => rw [hq] at h; cases h
    | some v =>
      rw [hq] at h
      obtain ⟨ea, p1, p2, p3, eb, ec, ed, pos⟩ := v
      have he := cmp3Of_some hq
      dsimp only at he h
      subst he
      obtain ⟨h, h8⟩ := and2 h
      obtain ⟨h, h7⟩ := and2 h
      obtain ⟨h, h6⟩ := and2 h
      obtain ⟨h, h5⟩ := and2 h
      obtain ⟨h, h4⟩ := and2 h
      obtain ⟨h, h3⟩ := and2 h
      obtain ⟨h1, h2⟩ := and2 h
      cases coB_ok h1
      cases coB_ok h2
      cases coB_ok h3
      have pa := (chkE_ok O h4).1 rne
      have pb := (chkE_ok O h5).1 rne
      have pc := (chkE_ok O h6).1 rne
      have pd := (chkE_ok O h7).1 rne
      exact ⟨fun hm => e_chain3 O.gd hm pa pb pc pd (bnot h8), fun _ => ⟨t_chain3 O.gd pa pb pc pd (bnot h8), fun z => nomatch z⟩⟩
  | m, .dget2 a kk d, e, h => by
    have h : (match mcall e with
    | some (ea, at_, ap, [ek, ex], cp) => decide (at_ = "get") && !callB ea && ap.endLine == cp.line && !starB ek && !starB ex && chkE ck sc fz .r a ea && chkE ck sc fz .r kk ek && chkE ck sc fz .v d ex
    | _ => false) = true := h
    cases hq : mcall e with
    | none => rw [hq] at h; cases h
    | some v =>
      rw [hq] at h
      obtain ⟨ea, at_, ap, es, cp⟩ := v
      have he := mcall_some hq
      dsimp only at he
      subst he
      match es, h with
      | [ek, ex], h =>
        obtain ⟨h, h8⟩ := and2 (a := decide (at_ = "get") && !callB ea && ap.endLine == cp.line && !starB ek && !starB ex && chkE ck sc fz .r a ea && chkE ck sc fz .r kk ek) h
        obtain ⟨h, h7⟩ := and2 h
        obtain ⟨h, h6⟩ := and2 h
        obtain ⟨h, h5⟩ := and2 h
        obtain ⟨h, h4⟩ := and2 h
        obtain ⟨h, h3⟩ := and2 h
        obtain ⟨h1, h2⟩ := and2 h
        cases of_decide_eq_true h1
        have pa := (chkE_ok O h6).1 rne
        have pk := (chkE_ok O h7).1 rne
        have pd := (chkE_ok O h8).1 vne
        exact snd_plain (fun _ _ => rfl) (fun m' hm => e_dget2 O.gd hm pa pk pd (m2_of (bnot h2) h3 (bnot h4) (bnot h5))) rfl
  | m, .dgo i kk d, e, h => by
    have h : (match mcall e with
    | some (ea, at_, ap, [ek, ex], cp) => match nameOf ea with
      | some (x, _) => decide (at_ = "get") && ap.endLine == cp.line && !starB ek && !starB ex && decide (ck.N[i]? = some x) && visB sc x && nameB x && chkE ck sc fz .r kk ek && chkE ck sc fz .v d ex
      | none => false
    | _ => false) = true := h
    cases hq : mcall e with
    | none => rw [hq] at h; cases h
    | some v =>
      rw [hq] at h
      obtain ⟨ea, at_, ap, es, cp⟩ := v
      have he := mcall_some hq
      dsimp only at he
      subst he
      match es, h with
      | [ek, ex], h =>
        have hz : (match nameOf ea with
          | some (x, _) => decide (at_ = "get") && ap.endLine == cp.line && !starB ek && !starB ex && decide (ck.N[i]? = some x) && visB sc x && nameB x && chkE ck sc fz .r kk ek && chkE ck sc fz .v d ex
          | none => false) = true := h
        cases hq2 : nameOf ea with
        | none => rw [hq2] at hz; cases hz
        | some v2 =>
          rw [hq2] at hz
          obtain ⟨x, px⟩ := v2
          have he2 := nameOf_some hq2
          dsimp only at he2 hz
          subst he2
          obtain ⟨hz, h9⟩ := and2 hz
          obtain ⟨hz, h8⟩ := and2 hz
          obtain ⟨hz, h7⟩ := and2 hz
          obtain ⟨hz, h6⟩ := and2 hz
          obtain ⟨hz, h5⟩ := and2 hz
          obtain ⟨hz, h4⟩ := and2 hz
          obtain ⟨hz, h3⟩ := and2 hz
          obtain ⟨h1, h2⟩ := and2 hz
          cases of_decide_eq_true h1
          have pk := (chkE_ok O h8).1 rne
          have pd := (chkE_ok O h9).1 vne
          exact snd_plain (fun _ _ => rfl) (fun m' hm => e_dgo O.gd hm (of_decide_eq_true h5) h6 h7 pk pd (m2_of rfl h2 (bnot h3) (bnot h4))) rfl
  | m, .dcp kk v t kd as cs ow, e, h => by
    have h : (match dcOf e with
    | some (kx, vx, tg, iter, ifs, scope, _) => notTB m && blkC ck.N sc scope (ownOf ck.N ow) && chkG ck.N (relS scope sc) (fzB scope) ow t tg && chkI ck sc fz kd.md kd as tg iter && notSet iter && chkC ck (relS scope sc) (fzB scope) cs ifs && chkE ck (relS scope sc) (fzB scope) .r kk kx && chkE ck (relS scope sc) (fzB scope) .v v vx
    | none => false) = true := h
    cases hq : dcOf e with
    | none => rw [hq] at h; cases h
    | some w =>
      rw [hq] at h
      obtain ⟨kx, vx, tg, iter, ifs, scope, pos⟩ := w
      have he := dcOf_some hq
      dsimp only at he h
      subst he
      obtain ⟨h, h7⟩ := and2 h
      obtain ⟨h, h6⟩ := and2 h
      obtain ⟨h, h5⟩ := and2 h
      obtain ⟨h, h4⟩ := and2 h
      obtain ⟨h, h3⟩ := and2 h
      obtain ⟨h, h2⟩ := and2 h
      obtain ⟨h0, h1⟩ := and2 h
      have pi := chkI_ok O md_ne h3
      refine snd_val h0 fun m' hm => ?_
      have z := e_dcp (g := g) (W := W) (Γ := Γ) (X := X) (N := ck.N) (sc := sc) (k := k) (m := m') (t := t) (kd := kd) (as := as) (cs := cs) (ck := kk) (cv := v) (own := ownOf ck.N ow) (kx := kx) (vx := vx) (tg := tg) (iter := iter) (ifs := ifs) (scope := scope) (pos := pos) O.gd hm pi (blkOk_by h1)
        (fun s H C cl fp => by rw [ownOf_snd]; exact chkG_ok (O.blk s H scope C cl fp).gd (O.blk s H scope C cl fp).fF h2) (fun s H C cl fp => chkC_ok (O.blk s H scope C cl fp) h5) (fun s H C cl fp => (chkE_ok (O.blk s H scope C cl fp) h6).1 rne) (fun s H C cl fp => (chkE_ok (O.blk s H scope C cl fp) h7).1 vne) (fold_set h4)
      rw [ownOf_snd] at z
      exact z
  | m, .dcpT kk v t kd as cs ow, e, h => by
    have h : (match dcOf e with
    | some (kx, vx, tg, iter, ifs, scope, _) => notTB m && blkC ck.N sc scope (ownOf ck.N ow) && chkG ck.N (relS scope sc) (fzB scope) ow t tg && chkI ck sc fz kd.md kd as tg iter && notSet iter && chkC ck (relS scope sc) (fzB scope) cs ifs && chkE ck (relS scope sc) (fzB scope) .r kk kx && chkE ck (relS scope sc) (fzB scope) .v v vx
    | none => false) = true := h
    cases hq : dcOf e with
    | none => rw [hq] at h; cases h
    | some w =>
      rw [hq] at h
      obtain ⟨kx, vx, tg, iter, ifs, scope, pos⟩ := w
      have he := dcOf_some hq
      dsimp only at he h
      subst he
      obtain ⟨h, h7⟩ := and2 h
      obtain ⟨h, h6⟩ := and2 h
      obtain ⟨h, h5⟩ := and2 h
      obtain ⟨h, h4⟩ := and2 h
      obtain ⟨h, h3⟩ := and2 h
      obtain ⟨h, h2⟩ := and2 h
      obtain ⟨h0, h1⟩ := and2 h
      have pi := chkI_ok O md_ne h3
      refine snd_val h0 fun m' hm => ?_
      have z := e_dcpT (g := g) (W := W) (Γ := Γ) (X := X) (N := ck.N) (sc := sc) (k := k) (m := m') (t := t) (kd := kd) (as := as) (cs := cs) (ck := kk) (cv := v) (own := ownOf ck.N ow) (kx := kx) (vx := vx) (tg := tg) (iter := iter) (ifs := ifs) (scope := scope) (pos := pos) O.gd hm pi (blkOk_by h1)
        (fun s H C cl fp => by rw [ownOf_snd]; exact chkG_ok (O.blk s H scope C cl fp).gd (O.blk s H scope C cl fp).fF h2) (fun s H C cl fp => chkC_ok (O.blk s H scope C cl fp) h5) (fun s H C cl fp => (chkE_ok (O.blk s H scope C cl fp) h6).1 rne) (fun s H C cl fp => (chkE_ok (O.blk s H scope C cl fp) h7).1 vne) (fold_set h4)
      rw [ownOf_snd] at z
      exact z
  | m, .lc2 c t kd as cs t1 k1 as1 cs1 ow ow1, e, h => by
    have h : (match lc2Of e with
    | some (elt, (tg, iter, ifs), (tg1, iter1, ifs1), scope, _) => blkC ck.N sc scope (ownOf ck.N ow) && ow1.all (fun i => ow.contains i) && chkG ck.N (relS scope sc) (fzB scope) ow t tg && chkI ck sc fz kd.md kd as tg iter && notSet iter && chkC ck (relS scope sc) (fzB scope) cs ifs && chkI ck (relS scope sc) (fzB scope) .v k1 as1 tg1 iter1 && notSet iter1 && chkG ck.N (relS scope sc) (fzB scope) ow1 t1 tg1 && chkC ck (relS scope sc) (fzB scope) cs1 ifs1 && chkE ck (relS scope sc) (fzB scope) .v c elt
    | none => false) = true := h
    cases hq : lc2Of e with
    | none => rw [hq] at h; cases h
    | some w =>
      rw [hq] at h
      obtain ⟨elt, ⟨tg, iter, ifs⟩, ⟨tg1, iter1, ifs1⟩, scope, pos⟩ := w
      have he := lc2Of_some hq
      dsimp only at he h
      subst he
      obtain ⟨h, h11⟩ := and2 h
      obtain ⟨h, h10⟩ := and2 h
      obtain ⟨h, h9⟩ := and2 h
      obtain ⟨h, h8⟩ := and2 h
      obtain ⟨h, h7⟩ := and2 h
      obtain ⟨h, h6⟩ := and2 h
      obtain ⟨h, h5⟩ := and2 h
      obtain ⟨h, h4⟩ := and2 h
      obtain ⟨h, h3⟩ := and2 h
      obtain ⟨h1, h2⟩ := and2 h
      have pi := chkI_ok O md_ne h4
      have key : PE X (.ListComp elt [⟨tg, iter, ifs, 0⟩, ⟨tg1, iter1, ifs1, 0⟩] scope pos) (rdF g X.K W Γ (.lc2 c t kd as cs t1 k1 as1 cs1 ow ow1)) := by
        have z := e_lc2F (g := g) (W := W) (Γ := Γ) (X := X) (N := ck.N) (sc := sc) (k := k) (t := t) (kd := kd) (as := as) (cs := cs) (t1 := t1) (k1 := k1) (as1 := as1) (cs1 := cs1) (e := c) (own := ownOf ck.N ow) (ow1 := ow1) (elt := elt) (tg := tg) (iter := iter) (ifs := ifs) (tg1 := tg1) (iter1 := iter1) (ifs1 := ifs1) (scope := scope) (pos := pos) O.gd pi (blkOk_by h1)
          (fun i hi => by rw [ownOf_snd]; exact all_in h2 i hi)
          (fun s H C cl fp => by rw [ownOf_snd]; exact chkG_ok (O.blk s H scope C cl fp).gd (O.blk s H scope C cl fp).fF h3) (fun s H C cl fp => chkC_ok (O.blk s H scope C cl fp) h6)
          (fun s H C cl fp => chkI_ok (O.blk s H scope C cl fp) vne h7) (fun s H C cl fp => chkG_ok (O.blk s H scope C cl fp).gd (O.blk s H scope C cl fp).fF h9) (fun s H C cl fp => chkC_ok (O.blk s H scope C cl fp) h10)
          (fun s H C cl fp => (chkE_ok (O.blk s H scope C cl fp) h11).1 vne) (fold_set h5) (fun env => fold_set h8)
        rw [ownOf_snd] at z
        exact z
      refine snd_plain (fun _ _ => rfl) (fun m' hm => PE.imp key fun σ H Q h => rdF_of (fun env tp => ?_) h) rfl
      cases m' <;> first | rfl | exact absurd rfl hm
  | m, .tg i f, e, h => by
    cases e with
    | Subscript ea ei pos =>
      match ea, ei, h with
      | .Name x p, .Constant (.str s) j p2, h =>
        obtain ⟨h, h4⟩ := and2 (a := decide (ck.N[i]? = some x) && visB sc x && nameB x) h
        obtain ⟨h, h3⟩ := and2 h
        obtain ⟨h1, h2⟩ := and2 h
        cases of_decide_eq_true h4
        exact snd_plain (fun _ _ => rfl) (fun m' hm => e_tg O.gd hm (of_decide_eq_true h1) h2 h3) rfl
    | _ => cases h
theorem chkEs_ok {X : Cx} {sc : Scope} {fz : Str → Bool} {W : WX} (O : Okx g Γ X ck sc fz k W) : ∀ {m : M} {as : Cs} {es : List Expr}, m ≠ .t → chkEs ck sc fz m as es = true → PA X es (rdEs g X.K W Γ m as)
  | m, .nil, es, hm, h => by
    cases empty_nil h
    exact es_nil
  | m, .cons a as, es, hm, h => by
    cases es with
    | nil => cases h
    | cons e es =>
      obtain ⟨h, h3⟩ := and2 (a := chkE ck sc fz m a e && !starB e) h
      obtain ⟨h1, h2⟩ := and2 h
      exact es_cons ((chkE_ok O h1).1 hm) (chkEs_ok O hm h3) (bnot h2)
theorem chkA_ok {X : Cx} {sc : Scope} {fz : Str → Bool} {W : WX} (O : Okx g Γ X ck sc fz k W) : ∀ {as : Cs} {es : List Expr}, chkA ck sc fz as es = true → PA X es (rdA g X.K W Γ as)
  | .nil, es, h => by
    cases empty_nil h
    exact a_nil
  | .cons a as, es, h => by
    cases es with
    | nil => cases h
    | cons e es =>
      obtain ⟨h, h3⟩ := and2 (a := chkE ck sc fz .v a e && !starB e) h
      obtain ⟨h1, h2⟩ := and2 h
      have s := (chkE_ok O h1).1 vne
      have r := chkA_ok O h3
      refine a_cons ?_ r (bnot h2)
      cases a with
      | var i =>
        cases e with
        | Name x pos =>
          obtain ⟨h, q3⟩ := and2 (a := decide (ck.N[i]? = some x) && visB sc x) h1
          obtain ⟨q1, q2⟩ := and2 h
          exact g_var O.gd (of_decide_eq_true q1) q2 q3
        | _ => cases h1
      | _ => exact g_exp (fun _ => rfl) s
theorem chkO_ok {X : Cx} {sc : Scope} {fz : Str → Bool} {W : WX} (O : Okx g Γ X ck sc fz k W) : ∀ {as : Cs} {e : Option Expr}, chkO ck sc fz as e = true → PO X e (rdP g X.K W Γ as)
  | .nil, e, h => by
    cases e with
    | none => exact p_none
    | some e => cases h
  | .cons a as, e, h => by
    match as, e, h with
    | .nil, some e, h => exact p_some ((chkE_ok O (m := .r) h).1 rne)
theorem chkC_ok {X : Cx} {sc : Scope} {fz : Str → Bool} {W : WX} (O : Okx g Γ X ck sc fz k W) : ∀ {as : Cs} {es : List Expr}, chkC ck sc fz as es = true → PTs X es (rdC g X.K W Γ as)
  | .nil, es, h => by
    cases empty_nil h
    exact c_nil
  | .cons a as, es, h => by
    match as, es, h with
    | .nil, [e], h => exact c_one ((chkE_ok O (m := .t) h).2 rfl).1
theorem chkI_ok {X : Cx} {sc : Scope} {fz : Str → Bool} {W : WX} (O : Okx g Γ X ck sc fz k W) : ∀ {m : M} {kd : IK} {as : Cs} {tg e : Expr}, m ≠ .t → chkI ck sc fz m kd as tg e = true → PI X tg e (rdI g X.K W Γ m kd as)
  | m, kd, .nil, tg, e, hm, h => by cases h
  | m, kd, .cons a as, tg, e, hm, h => by
    cases kd with
    | seq =>
      cases as with
      | cons _ _ => cases h
      | nil => exact i_seq ((chkE_ok O (m := m) (c := a) (e := e) h).1 hm)
    | rng1 =>
      match as, e, h with
      | .nil, .Call (.Name x p) [e1] [] pos, h =>
        obtain ⟨h, h5⟩ := and2 (a := decide (x = "range") && glB sc "range" && ck.free "range" && !starB e1) h
        obtain ⟨h, h4⟩ := and2 h
        obtain ⟨h, h3⟩ := and2 h
        obtain ⟨h1, h2⟩ := and2 h
        cases of_decide_eq_true h1
        exact i_rng1 O.gd h2 (O.free _ h3) (es_cons ((chkE_ok O h5).1 hm) es_nil (bnot h4)) (bnot h4)
    | rng2 =>
      match e, h with
      | .Call (.Name x p) [e1, e2] [] pos, h =>
        obtain ⟨h, h7⟩ := and2 (a := decide (x = "range") && glB sc "range" && ck.free "range" && !starB e1 && !starB e2 && chkE ck sc fz m a e1) h
        obtain ⟨h, h6⟩ := and2 h
        obtain ⟨h, h5⟩ := and2 h
        obtain ⟨h, h4⟩ := and2 h
        obtain ⟨h, h3⟩ := and2 h
        obtain ⟨h1, h2⟩ := and2 h
        cases of_decide_eq_true h1
        exact i_rng2 O.gd h2 (O.free _ h3) (es_cons ((chkE_ok O h6).1 hm) (chkEs_ok O hm h7) (bnot h4)) (bnot h4) (bnot h5)
    | enum =>
      match as, e, h with
      | .nil, .Call (.Name x p) [e1] [] pos, h =>
        obtain ⟨h, h6⟩ := and2 (a := decide (x = "enumerate") && glB sc "enumerate" && ck.free "enumerate" && isTupE tg && !starB e1) h
        obtain ⟨h, h5⟩ := and2 h
        obtain ⟨h, h4⟩ := and2 h
        obtain ⟨h, h3⟩ := and2 h
        obtain ⟨h1, h2⟩ := and2 h
        cases of_decide_eq_true h1
        exact i_enum O.gd h4 h2 (O.free _ h3) (es_cons ((chkE_ok O h6).1 hm) es_nil (bnot h5)) (bnot h5)
    | rng3 =>
      have h : (match ncall e with
        | some (x, _, [e1, e2, e3], _) => decide (x = "range") && glB sc "range" && ck.free "range" && !starB e1 && noStars [e2, e3] && chkE ck sc fz m a e1 && chkEs ck sc fz m as [e2, e3]
        | _ => false) = true := h
      cases hq : ncall e with
      | none => rw [hq] at h; cases h
      | some v =>
        rw [hq] at h
        obtain ⟨x, p, es, pos⟩ := v
        have he := ncall_some hq
        dsimp only at he
        subst he
        match es, h with
        | [e1, e2, e3], h =>
          obtain ⟨h, h7⟩ := and2 (a := decide (x = "range") && glB sc "range" && ck.free "range" && !starB e1 && noStars [e2, e3] && chkE ck sc fz m a e1) h
          obtain ⟨h, h6⟩ := and2 h
          obtain ⟨h, h5⟩ := and2 h
          obtain ⟨h, h4⟩ := and2 h
          obtain ⟨h, h3⟩ := and2 h
          obtain ⟨h1, h2⟩ := and2 h
          cases of_decide_eq_true h1
          exact i_rng3 O.gd h2 (O.free _ h3) (es_cons ((chkE_ok O h6).1 hm) (chkEs_ok O hm h7) (bnot h4)) (bnot h4) h5
    | items =>
      cases as with
      | cons _ _ => cases h
      | nil =>
        cases m with
        | r => cases h
        | t => cases h
        | v =>
          have h : (match mcall e with
            | some (ea, at_, ap, [], cp) => decide (at_ = "items") && isTupE2 tg && !callB ea && ap.endLine == cp.line && chkE ck sc fz .v a ea
            | _ => false) = true := by
            cases hq : mcall e with
            | none =>
              have h : (match Cs.nil, M.v, mcall e with
                | .nil, .v, some (ea, at_, ap, [], cp) => decide (at_ = "items") && isTupE2 tg && !callB ea && ap.endLine == cp.line && chkE ck sc fz .v a ea
                | _, _, _ => false) = true := h
              rw [hq] at h
              cases h
            | some v =>
              have h : (match Cs.nil, M.v, mcall e with
                | .nil, .v, some (ea, at_, ap, [], cp) => decide (at_ = "items") && isTupE2 tg && !callB ea && ap.endLine == cp.line && chkE ck sc fz .v a ea
                | _, _, _ => false) = true := h
              rw [hq] at h
              obtain ⟨ea, at_, ap, es, cp⟩ := v
              cases es with
              | nil => exact h
              | cons _ _ => cases h
          cases hq : mcall e with
          | none => rw [hq] at h; cases h
          | some v =>
            rw [hq] at h
            obtain ⟨ea, at_, ap, es, cp⟩ := v
            have he := mcall_some hq
            dsimp only at he
            subst he
            cases es with
            | cons _ _ => cases h
            | nil =>
              obtain ⟨h, h5⟩ := and2 (a := decide (at_ = "items") && isTupE2 tg && !callB ea && ap.endLine == cp.line) h
              obtain ⟨h, h4⟩ := and2 h
              obtain ⟨h, h3⟩ := and2 h
              obtain ⟨h1, h2⟩ := and2 h
              cases of_decide_eq_true h1
              exact i_items h2 ((chkE_ok O h5).1 vne) (base_of (bnot h3)) h4
    | zip =>
      match e, h with
      | .Call (.Name x p) [e1, e2] [] pos, h =>
        obtain ⟨h, h8⟩ := and2 (a := decide (x = "zip") && glB sc "zip" && ck.free "zip" && isTupE tg && !starB e1 && !starB e2 && chkE ck sc fz m a e1) h
        obtain ⟨h, h7⟩ := and2 h
        obtain ⟨h, h6⟩ := and2 h
        obtain ⟨h, h5⟩ := and2 h
        obtain ⟨h, h4⟩ := and2 h
        obtain ⟨h, h3⟩ := and2 h
        obtain ⟨h1, h2⟩ := and2 h
        cases of_decide_eq_true h1
        exact i_zip O.gd h4 h2 (O.free _ h3) (es_cons ((chkE_ok O h7).1 hm) (chkEs_ok O hm h8) (bnot h5)) (bnot h5) (bnot h6)
end
end
end Q

set_option Elab.async false
set_option linter.all false
set_option maxRecDepth 100000
namespace Q
open PySem PySem.Spec L2
open PyProof.Rows hiding St
section
variable {g : G} {K : PySem.W.Frag} {F0 F F' : Addr → Prop} {ta ca : Addr} {H0 H H' : Hp} {σ σ' : St} {env env' : QE} {tp tp' : Tp} {bs : List Bs}
/-- a thing of one's own gets another name -/
theorem SEnv.moveG (s : SEnv g K F0 H0 bs F ta ca H σ env tp) {i j : Nat} {b0 : B} {a : Addr} (h : getB env j = b0) (hb0 : isOwn b0 = true) (ha : σ[j]? = some (some (.ref a))) (nw : ∀ σ' : St, σ'[i]? = some (some (.ref a)) → SlotOk K F ta H σ' i b0) (h6 : ¬ F0 a) : SEnv g K F0 H0 bs F ta ca H (σ.set i (some (.ref a))) ((env.set j .un).set i b0) tp := by
  have hj : j < env.length := by
    by_cases q : j < env.length
    · exact q
    · rw [getB_out q] at h
      subst h
      cases hb0
  have hl : ((env.set j .un).set i b0).length = env.length := by rw [List.length_set, List.length_set]
  have ne : ∀ {l}, i ≠ l → isOwn (getB ((env.set j .un).set i b0) l) = true → j ≠ l ∧ isOwn (getB env l) = true := fun {l} q z => by
    rw [getB_set_ne q] at z
    by_cases hc : j = l
    · subst hc
      rw [getB_set_same hj] at z
      cases z
    · rw [getB_set_ne hc] at z
      exact ⟨hc, z⟩
  have lt : ∀ {l}, i = l → isOwn (getB ((env.set j .un).set i b0) l) = true → i < env.length := fun {l} q z => by
    subst q
    by_cases hl : i < env.length
    · exact hl
    · rw [getB_set_out (by rw [List.length_set]; exact hl), getB_out (by rw [List.length_set]; exact hl)] at z
      cases z
  refine ⟨⟨by rw [hl, List.length_set]; exact s.E.len, s.E.wd, fun l => ?_, fun x y l hx hy p1 p2 => ?_⟩, s.sub, s.hta, s.nw, fun l b hb p => ?_, s.ext, s.bs⟩
  · by_cases hc : i = l
    · subst hc
      by_cases hi : i < env.length
      · rw [getB_set_same (by rw [List.length_set]; exact hi)]
        exact nw _ (List.getElem?_set_self (by rw [← s.E.len]; exact hi))
      · rw [getB_set_out (by rw [List.length_set]; exact hi), getB_out (by rw [List.length_set]; exact hi)]
        trivial
    · rw [getB_set_ne hc]
      by_cases hd : j = l
      · subst hd
        rw [getB_set_same hj]
        trivial
      · rw [getB_set_ne hd]
        have q := s.E.slot l
        cases z : getB env l with
        | un => trivial
        | val d =>
          rw [z] at q
          obtain ⟨v, p1, p2⟩ := q
          exact ⟨v, by rw [List.getElem?_set_ne hc]; exact p1, p2⟩
        | own d2 =>
          rw [z] at q
          obtain ⟨b, us, p1, p2⟩ := q
          exact ⟨b, us, by rw [List.getElem?_set_ne hc]; exact p1, p2⟩
        | owd kb k =>
          rw [z] at q
          obtain ⟨b, p1, p2⟩ := q
          exact ⟨b, by rw [List.getElem?_set_ne hc]; exact p1, p2⟩
        | tape =>
          rw [z] at q
          show (σ.set i _)[l]? = _
          rw [List.getElem?_set_ne hc]
          exact q
  · by_cases qx : i = x <;> by_cases qy : i = y
    · rw [← qx, ← qy]
    · exfalso
      have hl := lt qx hx
      subst qx
      rw [List.getElem?_set_self (by rw [← s.E.len]; exact hl)] at p1
      cases p1
      rw [List.getElem?_set_ne qy] at p2
      obtain ⟨r1, r2⟩ := ne qy hy
      exact r1 (s.E.uniq j y a (by rw [h]; exact hb0) r2 ha p2)
    · exfalso
      have hl := lt qy hy
      subst qy
      rw [List.getElem?_set_self (by rw [← s.E.len]; exact hl)] at p2
      cases p2
      rw [List.getElem?_set_ne qx] at p1
      obtain ⟨r1, r2⟩ := ne qx hx
      exact r1 (s.E.uniq j x a (by rw [h]; exact hb0) r2 ha p1)
    · rw [List.getElem?_set_ne qx] at p1
      rw [List.getElem?_set_ne qy] at p2
      exact s.E.uniq x y l (ne qx hx).2 (ne qy hy).2 p1 p2
  · by_cases q : i = l
    · have hi := lt q hb
      subst q
      rw [List.getElem?_set_self (by rw [← s.E.len]; exact hi)] at p
      cases p
      exact h6
    · rw [List.getElem?_set_ne q] at p
      exact s.own l b (ne q hb).2 p
end
section
variable {g : G} {Γ : Sm} {X : Cx} {ck : Ck} {sc : Scope} {fz : Str → Bool} {k n : Nat} {E : XK}
theorem move_imp {i j : Nat} {D : Ends} {σ : L2.St} {H : Hp} (h : rdX g X E Γ n (.move i j) D σ H) : tAsg (tVar j) (gName i) D σ H := by
  obtain ⟨F0, H0, bs, F, ta, ca, env, tp, s, h⟩ := h
  unfold exS at h
  cases q : getB env j with
  | own ds =>
    rw [q] at h
    obtain ⟨a, vs, h1, h2, h3, h4, h5, h6⟩ := s.slot q
    exact ⟨.ref a, h1, h F _ H (s.moveG q rfl h1 (fun σ' e => ⟨a, vs, e, h2, h3, h4, h5⟩) h6)⟩
  | owd kb ds =>
    rw [q] at h
    obtain ⟨a, h1, h2, h3, h4, h6⟩ := s.slotD q
    exact ⟨.ref a, h1, h F _ H (s.moveG q rfl h1 (fun σ' e => ⟨a, e, h2, h3, h4⟩) h6)⟩
  | _ => rw [q] at h; exact h.elim
def XK0 : XK := fun _ _ _ => False
theorem try_imp {b s : Ss} {c : Nat} {D : Ends} {σ : L2.St} {H : Hp} (h : rdX g X E Γ n (.try_ b c s) D σ H) : rdXs g X XK0 Γ n b D σ H := by
  obtain ⟨F0, H0, bs, F, ta, ca, env, tp, s, h⟩ := h
  unfold exS at h
  refine ⟨F0, H0, bs, F, ta, ca, env, tp, s, ?_⟩
  cases q : exSs Γ n b env tp with
  | exc c t => rw [q] at h; exact h.elim
  | nx e t => rw [q] at h; exact h
  | rt d t => rw [q] at h; exact h
  | br e t => rw [q] at h; exact h
  | ct e t => rw [q] at h; exact h
  | bad => rw [q] at h; exact h
theorem asg_mono {t t' : TE} {q : TG} {D : Ends} {σ : L2.St} {H : Hp} (f : ∀ σ H Q, t' σ H Q → t σ H Q) (h : tAsg t' q D σ H) : tAsg t q D σ H := f _ _ _ h
/-! swaps -/
def notComp : Expr → Bool
  | .ListComp _ _ _ _ => false | .SetComp _ _ _ _ => false | .DictComp _ _ _ _ _ => false
  | _ => true
theorem swaps_not {e : Expr} {t : Option Expr} {l : Nat} {env : Env} (h : notComp e = true) : swapsWith e t l env = pure false := by
  cases e <;> first | rfl | cases h
theorem swaps_tgt {e t : Expr} {l : Nat} {env : Env} (h : (match t with | .Name _ _ => false | _ => true) = true) : swapsWith e (some t) l env = pure false := by
  cases t <;> first | (cases h; done) | (cases e <;> rfl)
/-- whether a comprehension is stored while its names are let go -/
def swapB (sc : Scope) (x : Str) (px : Pos) : Expr → Bool
  | .ListComp _ _ scope cpos => (match sc.names.lookup x with | some .local => true | _ => false) && px.line == cpos.line && !(scope.names.any fun (n, k) => n == x && (k == .local || k == .cell))
  | _ => false
theorem swaps_no {x : Str} {px : Pos} {e : Expr} {l : Nat} {env : Env} (hsc : env.scope = sc) (hd : (match e with | .SetComp _ _ _ _ => false | .DictComp _ _ _ _ _ => false | _ => true) = true) (h : swapB sc x px e = false) : swapsWith e (some (.Name x px)) l env = pure false := by
  cases e <;> first | rfl | (cases hd; done) | skip
  rename_i elt gs scope cpos
  have hk : env.kindOf x = sc.names.lookup x := by
    show env.scope.names.lookup x = _
    rw [hsc]
  have e1 : swapsWith (.ListComp elt gs scope cpos) (some (.Name x px)) l env = pure (env.blockKind == .function && env.kindOf x == some .local && px.line == cpos.line && !(scope.names.any fun (n, k) => n == x && (k == .local || k == .cell))) := rfl
  rw [e1, hk]
  unfold swapB at h
  congr 1
  by_cases hq : sc.names.lookup x = some .local
  · rw [hq] at h ⊢
    simp only [Bool.true_and] at h
    rw [Bool.and_assoc, h, Bool.and_false]
  · have : (sc.names.lookup x == some NameKind.local) = false := by
      rw [beq_eq_false_iff_ne]
      exact hq
    rw [this]
    simp
end
end Q

set_option Elab.async false
set_option linter.all false
set_option maxRecDepth 100000
namespace Q
open PySem PySem.Spec L2
open PyProof.Rows hiding St
def starOf : Expr → Bool
  | .Starred _ _ => true
  | _ => false
def ssNames (sc : Scope) (ts : List Expr) : List Str := ts.filterMap fun
  | .Name id pos => if sc.names.lookup id == some .local && pos.line == (ts.head?.map (·.pos.line)).getD 0 then some id else none
  | _ => none
def ssC1 (ts vs : List Expr) : Bool := !(ts.length == 2 || ts.length == 3) || vs.length != ts.length
def ssC3 (sc : Scope) (ts : List Expr) : Bool := (ssNames sc ts).length != ts.length || (ssNames sc ts).eraseDups.length != (ssNames sc ts).length
def ssNone (sc : Scope) (ts vs : List Expr) : Bool := ssC1 ts vs || vs.any starOf || ssC3 sc ts || vs.all (foldedForSure 8)
theorem ss_eq {ts vs : List Expr} {k1 k2 : Nat} {p1 p2 : Pos} {env : Env} {sc : Scope} (hsc : env.scope = sc) (hk : sc.kind = .function) : swappedStores [.Tuple ts k1 p1] (.Tuple vs k2 p2) env =
    (if ssC1 ts vs then pure none else if vs.any starOf then pure none else if ssC3 sc ts then pure none else if vs.all (foldedForSure 8) then pure none else if vs.all (constantsAlone 8) then unsupported "assign.tuple-of-constant-expressions:order-of-the-stores" else pure (some (ssNames sc ts))) := by
  subst hsc
  have hb : env.blockKind = .function := by
    unfold Env.blockKind
    rw [hk]
    rfl
  unfold swappedStores
  simp only [hb]
  unfold ssC1 ssC3
  by_cases c1 : (!(ts.length == 2 || ts.length == 3) || vs.length != ts.length) = true
  · simp only [c1, Bool.true_or, if_true]
  · have c1' : (!(ts.length == 2 || ts.length == 3) || vs.length != ts.length) = false := by simpa using c1
    simp only [c1', Bool.false_or]
    rfl

theorem ss_none {ts vs : List Expr} {k1 k2 : Nat} {p1 p2 : Pos} {env : Env} {sc : Scope} (hsc : env.scope = sc) (hk : sc.kind = .function) (h : ssNone sc ts vs = true) : swappedStores [.Tuple ts k1 p1] (.Tuple vs k2 p2) env = pure none := by
  rw [ss_eq hsc hk]
  unfold ssNone at h
  simp only [Bool.or_eq_true] at h
  split
  · rfl
  · split
    · rfl
    · split
      · rfl
      · split
        · rfl
        · rename_i q1 q2 q3 q4
          rcases h with ((h | h) | h) | h
          · exact absurd h q1
          · exact absurd h q2
          · exact absurd h q3
          · exact absurd h q4
theorem ss_some {ts vs : List Expr} {k1 k2 : Nat} {p1 p2 : Pos} {env : Env} {sc : Scope} (hsc : env.scope = sc) (hk : sc.kind = .function) (h : ssNone sc ts vs = false) (h2 : vs.all (constantsAlone 8) = false) : swappedStores [.Tuple ts k1 p1] (.Tuple vs k2 p2) env = pure (some (ssNames sc ts)) := by
  rw [ss_eq hsc hk]
  unfold ssNone at h
  simp only [Bool.or_eq_false_iff] at h
  obtain ⟨⟨⟨q1, q2⟩, q3⟩, q4⟩ := h
  rw [if_neg (by rw [q1]; exact Bool.false_ne_true), if_neg (by rw [q2]; exact Bool.false_ne_true), if_neg (by rw [q3]; exact Bool.false_ne_true), if_neg (by rw [q4]; exact Bool.false_ne_true), if_neg (by rw [h2]; exact Bool.false_ne_true)]
def tupOf : Expr → Option (List Expr)
  | .Tuple es _ _ => some es
  | _ => none
theorem ss_other {ts : List Expr} {k1 : Nat} {p1 : Pos} {e : Expr} {env : Env} (h : tupOf e = none) : swappedStores [.Tuple ts k1 p1] e env = pure none := by
  cases e <;> first | rfl | cases h
/-- the stores of a tuple stand in their order -/
def plainSt (sc : Scope) (ts : List Expr) (e : Expr) : Bool := match tupOf e with
  | some vs => ssNone sc ts vs
  | none => true
theorem ss_plain {ts : List Expr} {k1 : Nat} {p1 : Pos} {e : Expr} {env : Env} {sc : Scope} (hsc : env.scope = sc) (hk : sc.kind = .function) (h : plainSt sc ts e = true) : swappedStores [.Tuple ts k1 p1] e env = pure none := by
  cases e with
  | Tuple vs k2 p2 => exact ss_none hsc hk h
  | _ => rfl
/-! ### the check of statements -/
structure Osx (g : G) (Γ : Sm) (X : Cx) (ck : Ck) (sc : Scope) (k : Nat) (E : XK) : Prop where
  ok : Okx g Γ X ck sc (fun _ => true) k (WX0 E)
  own : PassesOwn (model X.prog X.w) X.A X.env X.xe
  kind : sc.kind = .function
  exc : ∀ c x, ck.x.exc[c]? = some x → ExO g X.mg X.K c x
  lam : ck.x.lam = true → LamOk g X k ck.x.rfn ck.x.rcs
section
variable {g : G} {Γ : Sm} {X : Cx} {ck : Ck} {sc : Scope} {fz : Str → Bool} {k n : Nat} {E : XK} {W : WX}
theorem Osx.nox (O : Osx g Γ X ck sc k E) : Osx g Γ X.nox ck sc k XK0 where
  ok := ⟨⟨O.ok.gd.hN, O.ok.gd.nd, O.ok.gd.sc, O.ok.gd.calm, O.ok.gd.room⟩, O.ok.fF, takes0, O.ok.hF, O.ok.free, O.ok.glo⟩
  own := PassesOwn.never
  kind := O.kind
  exc := O.exc
  lam := fun h => ⟨(O.lam h).room, (O.lam h).tab, (O.lam h).ref⟩
/-- a list made new -/
def chkL (K : Ck) (sc : Scope) (fz : Str → Bool) (c : C) (e : Expr) : Bool := match c, e with
  | .lst as, .List es _ => chkEs K sc fz .v as es
  | .lc c t kd as cs ow, e => chkE K sc fz .v (.lc c t kd as cs ow) e
  | .bin o a b, .BinOp ea p eb _ => opB o p && chkE K sc fz .r a ea && chkE K sc fz .r b eb
  | .blt .list as, .Call (.Name x _) (e1 :: es) [] _ => decide (x = "list") && glB sc "list" && K.free "list" && noStars (e1 :: es) && chkEs K sc fz .r as (e1 :: es)
  | _, _ => false
def okF (elt tg iter : Expr) : Bool := true
theorem lc_split {c : C} {t : Tg} {kd : IK} {as cs : Cs} {ow : List Nat} {e : Expr} (h : chkE ck sc fz m (.lc c t kd as cs ow) e = true) : ∃ elt tg iter ifs scope pos, e = .ListComp elt [⟨tg, iter, ifs, 0⟩] scope pos ∧ blkC ck.N sc scope (ownOf ck.N ow) = true ∧ chkG ck.N (relS scope sc) (fzB scope) ow t tg = true ∧ chkI ck sc fz kd.md kd as tg iter = true ∧ notSet iter = true ∧
    chkC ck (relS scope sc) (fzB scope) cs ifs = true ∧ chkE ck (relS scope sc) (fzB scope) .v c elt = true := by
  cases e with
  | ListComp elt gs scope pos =>
    match gs, h with
    | [⟨tg, iter, ifs, 0⟩], h =>
      obtain ⟨h, h6⟩ := and2 (a := blkC ck.N sc scope (ownOf ck.N ow) && chkG ck.N (relS scope sc) (fzB scope) ow t tg && chkI ck sc fz kd.md kd as tg iter && notSet iter && chkC ck (relS scope sc) (fzB scope) cs ifs) h
      obtain ⟨h, h5⟩ := and2 h
      obtain ⟨h, h4⟩ := and2 h
      obtain ⟨h, h3⟩ := and2 h
      obtain ⟨h1, h2⟩ := and2 h
      exact ⟨elt, tg, iter, ifs, scope, pos, rfl, h1, h2, h3, h4, h5, h6⟩
  | _ => cases h
theorem lc_pe (O : Okx g Γ X ck sc fz k W) {c : C} {t : Tg} {kd : IK} {as cs : Cs} {ow : List Nat} {e : Expr} (h : chkE ck sc fz .v (.lc c t kd as cs ow) e = true) : PE X e (rdF g X.K W Γ (.lc c t kd as cs ow)) := by
  obtain ⟨elt, tg, iter, ifs, scope, pos, rfl, h1, h2, h3, h4, h5, h6⟩ := lc_split h
  have z := e_lcF (g := g) (W := W) (Γ := Γ) (X := X) (N := ck.N) (sc := sc) (k := k) (t := t) (kd := kd) (as := as) (cs := cs) (e := c) (own := ownOf ck.N ow) (elt := elt) (tg := tg) (iter := iter) (ifs := ifs) (scope := scope) (pos := pos) O.gd (chkI_ok O md_ne h3) (blkOk_by h1)
    (fun s H C cl fp => by rw [ownOf_snd]; exact chkG_ok (O.blk s H scope C cl fp).gd (O.blk s H scope C cl fp).fF h2) (fun s H C cl fp => chkC_ok (O.blk s H scope C cl fp) h5) (fun s H C cl fp => (chkE_ok (O.blk s H scope C cl fp) h6).1 vne) (fold_set h4)
  rw [ownOf_snd] at z
  exact z
theorem chkL_ok (O : Okx g Γ X ck sc fz k W) {c : C} {e : Expr} (h : chkL ck sc fz c e = true) : PE X e (rdL g X.K W Γ c) := by
  unfold chkL at h
  split at h
  · exact PE.imp (e_lstF (chkEs_ok O vne h)) fun σ H Q h => rdL_of h
  · exact PE.imp (lc_pe O h) fun σ H Q h => rdL_of h
  · obtain ⟨h, h3⟩ := and2 h
    obtain ⟨h1, h2⟩ := and2 h
    cases opB_ok h1
    exact e_binL ((chkE_ok O h2).1 rne) ((chkE_ok O h3).1 rne)
  · obtain ⟨h, h5⟩ := and2 h
    obtain ⟨h, h4⟩ := and2 h
    obtain ⟨h, h3⟩ := and2 h
    obtain ⟨h1, h2⟩ := and2 h
    cases of_decide_eq_true h1
    exact PE.imp (e_listF O.gd h2 (O.free _ h3) (chkEs_ok O rne h5) h4) fun σ H Q h => rdL_of h
  · cases h
end
end Q

set_option Elab.async false
set_option linter.all false
set_option maxRecDepth 100000
namespace Q
open PySem PySem.Spec L2
open PyProof.Rows hiding St
/-! ### tests with refused(lambda: ..) in them -/
section
variable {g : G} {W : WX} {Γ : Sm} {X : Cx} {m : M}
theorem snd_not {a : C} {ea : Expr} {pos : Pos} (s : Snd g Γ X W m.op a ea) : Snd g Γ X W m (.not a) (.UnaryOp .Not ea pos) := by
  refine ⟨fun hm => ?_, fun hm => ?_⟩
  · rw [op_ne hm] at s
    exact e_not hm (s.1 rne)
  · subst hm
    exact ⟨t_not (s.2 rfl).1, fun z => nomatch z⟩
theorem snd_and2 {a b : C} {ea eb : Expr} {pos : Pos} (sa : Snd g Γ X W m.op a ea) (sb : Snd g Γ X W m b eb) : Snd g Γ X W m (.and a b) (.BoolOp .And [ea, eb] pos) := by
  refine ⟨fun hm => ?_, fun hm => ?_⟩
  · rw [op_ne hm] at sa
    refine PE.imp (pe_and (sa.1 rne) (pe_one (sb.1 hm))) fun σ H Q h => ?_
    obtain ⟨F, ta, ca, env, tp, E, h⟩ := h
    exact and_imp hm E h
  · subst hm
    have w : PW X (.BoolOp .And [ea, eb] pos) (rdT g X.K W Γ (.and a b)) := PW.imp (pw_and (sa.2 rfl).1 (pw_and1 (sb.2 rfl).1)) fun σ H Q h => tand_imp h
    exact ⟨w.pt, fun _ => w⟩
theorem snd_and3 {a b : C} {ea eb er : Expr} {es : List Expr} {pos : Pos} (sa : Snd g Γ X W m.op a ea) (sb : Snd g Γ X W m b (.BoolOp .And (eb :: er :: es) pos)) : Snd g Γ X W m (.and a b) (.BoolOp .And (ea :: eb :: er :: es) pos) := by
  refine ⟨fun hm => ?_, fun hm => ?_⟩
  · rw [op_ne hm] at sa
    refine PE.imp (pe_and (sa.1 rne) (sb.1 hm)) fun σ H Q h => ?_
    obtain ⟨F, ta, ca, env, tp, E, h⟩ := h
    exact and_imp hm E h
  · subst hm
    have w : PW X (.BoolOp .And (ea :: eb :: er :: es) pos) (rdT g X.K W Γ (.and a b)) := PW.imp (pw_and (sa.2 rfl).1 ((sb.2 rfl).2 rfl)) fun σ H Q h => tand_imp h
    exact ⟨w.pt, fun _ => w⟩
theorem snd_or2 {a b : C} {ea eb : Expr} {pos : Pos} (sa : Snd g Γ X W m.op a ea) (sb : Snd g Γ X W m b eb) : Snd g Γ X W m (.or a b) (.BoolOp .Or [ea, eb] pos) := by
  refine ⟨fun hm => ?_, fun hm => ?_⟩
  · rw [op_ne hm] at sa
    refine PE.imp (pe_or (sa.1 rne) (pe_one (sb.1 hm))) fun σ H Q h => ?_
    obtain ⟨F, ta, ca, env, tp, E, h⟩ := h
    exact or_imp hm E h
  · subst hm
    have w : PW X (.BoolOp .Or [ea, eb] pos) (rdT g X.K W Γ (.or a b)) := PW.imp (pw_or (sa.2 rfl).1 (pw_or1 (sb.2 rfl).1)) fun σ H Q h => tor_imp h
    exact ⟨w.pt, fun _ => w⟩
theorem snd_or3 {a b : C} {ea eb er : Expr} {es : List Expr} {pos : Pos} (sa : Snd g Γ X W m.op a ea) (sb : Snd g Γ X W m b (.BoolOp .Or (eb :: er :: es) pos)) : Snd g Γ X W m (.or a b) (.BoolOp .Or (ea :: eb :: er :: es) pos) := by
  refine ⟨fun hm => ?_, fun hm => ?_⟩
  · rw [op_ne hm] at sa
    refine PE.imp (pe_or (sa.1 rne) (sb.1 hm)) fun σ H Q h => ?_
    obtain ⟨F, ta, ca, env, tp, E, h⟩ := h
    exact or_imp hm E h
  · subst hm
    have w : PW X (.BoolOp .Or (ea :: eb :: er :: es) pos) (rdT g X.K W Γ (.or a b)) := PW.imp (pw_or (sa.2 rfl).1 ((sb.2 rfl).2 rfl)) fun σ H Q h => tor_imp h
    exact ⟨w.pt, fun _ => w⟩
end
def notOf : Expr → Option Expr
  | .UnaryOp .Not e _ => some e
  | _ => none
theorem notOf_some {e a : Expr} (h : notOf e = some a) : ∃ p, e = .UnaryOp .Not a p := by
  cases e <;> first | (cases h; done) | skip
  rename_i o b p
  cases o <;> first | (cases h; done) | (cases h; exact ⟨p, rfl⟩)
def boolOf : Expr → Option (BoolOp × List Expr × Pos)
  | .BoolOp o es p => some (o, es, p)
  | _ => none
theorem boolOf_some {e : Expr} {x : BoolOp × List Expr × Pos} (h : boolOf e = some x) : e = .BoolOp x.1 x.2.1 x.2.2 := by
  cases e <;> first | (cases h; rfl) | cases h
def noPar (a : Arguments) : Bool := a.posonlyargs.isEmpty && a.args.isEmpty && a.vararg.isNone && a.kwonlyargs.isEmpty && a.kw_defaults.isEmpty && a.kwarg.isNone && a.defaults.isEmpty
theorem noPar_eq {a : Arguments} (h : noPar a = true) : a = ⟨[], [], none, [], [], none, []⟩ := by
  obtain ⟨a1, a2, a3, a4, a5, a6, a7⟩ := a
  simp [noPar] at h
  obtain ⟨⟨⟨⟨⟨⟨h1, h2⟩, h3⟩, h4⟩, h5⟩, h6⟩, h7⟩ := h
  subst h1; subst h2; subst h3; subst h4; subst h5; subst h6; subst h7
  rfl
/-- refused(lambda: a) -/
def chkR (K : Ck) (sc : Scope) (a : C) (cs : List Nat) (e : Expr) : Bool := match ncall e with
  | some (x, _, [el], _) => match lam0 el with
    | some (params, body, scope, _) => K.x.lam && decide (x = K.x.rfn) && glB sc x && !(x == "__debug__") && LamX.lamSB sc scope && noPar params && decide (cs = K.x.rcs) && chkE K scope (fun _ => false) .r a body
    | none => false
  | _ => false
/-- tests with these -/
def chkEL (K : Ck) (sc : Scope) (fz : Str → Bool) : M → C → Expr → Bool
  | m, .rfs a cs, e => chkR K sc a cs e
  | m, .not a, e => match notOf e with
    | some ea => chkEL K sc fz m.op a ea
    | none => false
  | m, .and a b, e => match boolOf e with
    | some (.And, [ea, eb], _) => chkEL K sc fz m.op a ea && chkEL K sc fz m b eb
    | some (.And, ea :: eb :: er :: es, pos) => chkEL K sc fz m.op a ea && chkEL K sc fz m b (.BoolOp .And (eb :: er :: es) pos)
    | _ => false
  | m, .or a b, e => match boolOf e with
    | some (.Or, [ea, eb], _) => chkEL K sc fz m.op a ea && chkEL K sc fz m b eb
    | some (.Or, ea :: eb :: er :: es, pos) => chkEL K sc fz m.op a ea && chkEL K sc fz m b (.BoolOp .Or (eb :: er :: es) pos)
    | _ => false
  | m, c, e => chkE K sc fz m c e
section
variable {g : G} {Γ : Sm} {X : Cx} {ck : Ck} {sc : Scope} {k : Nat} {E : XK}
theorem chkR_ok {m : M} {a : C} {cs : List Nat} {e : Expr} (O : Osx g Γ X ck sc k E) (h : chkR ck sc a cs e = true) : Snd g Γ X (WX0 E) m (.rfs a cs) e := by
  unfold chkR at h
  split at h
  · rename_i x p el pos hn
    split at h
    · rename_i params body scope lpos hl
      obtain ⟨h, h8⟩ := and2 h
      obtain ⟨h, h7⟩ := and2 h
      obtain ⟨h, h6⟩ := and2 h
      obtain ⟨h, h5⟩ := and2 h
      obtain ⟨h, h4⟩ := and2 h
      obtain ⟨h, h3⟩ := and2 h
      obtain ⟨h1, h2⟩ := and2 h
      have e1 := ncall_some hn
      have e2 := lam0_some hl
      dsimp only at e1 e2
      subst e1
      subst e2
      cases of_decide_eq_true h2
      cases of_decide_eq_true h7
      have hp := noPar_eq h6
      subst hp
      refine snd_plain (fun _ _ => rfl) (fun m' hm => ?_) rfl
      refine e_rfs O.ok.gd hm (O.lam h1) h3 (bnot h4) h5 rfl (fun _ _ _ _ _ => rfl) fun A outer s H E' f c' hr => ?_
      have O' : Okx g Γ (LamX.lamCx X A outer s H E' scope f c') ck scope (fun _ => false) k (fun cls d _ H => E' cls d H) :=
        ⟨⟨O.ok.gd.hN, O.ok.gd.nd, rfl, rfl, hr⟩, (fun x h => by cases h), (takes_of rfl rfl rfl rfl), O.ok.hF, O.ok.free, O.ok.glo⟩
      exact (chkE_ok O' h8).1 rne
    · cases h
  · cases h
theorem chkEL_ok (O : Osx g Γ X ck sc k E) : ∀ {m : M} {c : C} {e : Expr}, chkEL ck sc (fun _ => true) m c e = true → Snd g Γ X (WX0 E) m c e
  | m, .rfs a cs, e, h => chkR_ok O h
  | m, .not a, e, h => by
    unfold chkEL at h
    split at h
    · rename_i ea he
      obtain ⟨p, rfl⟩ := notOf_some he
      exact snd_not (chkEL_ok O h)
    · cases h
  | m, .and a b, e, h => by
    unfold chkEL at h
    split at h
    · rename_i ea eb p he
      have := boolOf_some he
      dsimp only at this
      subst this
      obtain ⟨h1, h2⟩ := and2 h
      exact snd_and2 (chkEL_ok O h1) (chkEL_ok O h2)
    · rename_i ea eb er es p he
      have := boolOf_some he
      dsimp only at this
      subst this
      obtain ⟨h1, h2⟩ := and2 h
      exact snd_and3 (chkEL_ok O h1) (chkEL_ok O h2)
    · cases h
  | m, .or a b, e, h => by
    unfold chkEL at h
    split at h
    · rename_i ea eb p he
      have := boolOf_some he
      dsimp only at this
      subst this
      obtain ⟨h1, h2⟩ := and2 h
      exact snd_or2 (chkEL_ok O h1) (chkEL_ok O h2)
    · rename_i ea eb er es p he
      have := boolOf_some he
      dsimp only at this
      subst this
      obtain ⟨h1, h2⟩ := and2 h
      exact snd_or3 (chkEL_ok O h1) (chkEL_ok O h2)
    · cases h
  | m, .var a0, e, h => chkE_ok O.ok h
  | m, .lit a0, e, h => chkE_ok O.ok h
  | m, .glo a0, e, h => chkE_ok O.ok h
  | m, .bin a0 a1 a2, e, h => chkE_ok O.ok h
  | m, .neg a0, e, h => chkE_ok O.ok h
  | m, .cmp a0 a1 a2, e, h => chkE_ok O.ok h
  | m, .chain a0 a1 a2 a3 a4, e, h => chkE_ok O.ok h
  | m, .ite a0 a1 a2, e, h => chkE_ok O.ok h
  | m, .call a0 a1, e, h => chkE_ok O.ok h
  | m, .blt a0 a1, e, h => chkE_ok O.ok h
  | m, .ix a0 a1, e, h => chkE_ok O.ok h
  | m, .slc a0 a1 a2, e, h => chkE_ok O.ok h
  | m, .lst a0, e, h => chkE_ok O.ok h
  | m, .tup a0, e, h => chkE_ok O.ok h
  | m, .lc a0 a1 a2 a3 a4 a5, e, h => chkE_ok O.ok h
  | m, .mth a0 a1 a2, e, h => chkE_ok O.ok h
  | m, .tg a0 a1, e, h => chkE_ok O.ok h
  | m, .rev a0, e, h => chkE_ok O.ok h
  | m, .chain3 a0 a1 a2 a3 a4 a5 a6, e, h => chkE_ok O.ok h
  | m, .dget2 a0 a1 a2, e, h => chkE_ok O.ok h
  | m, .dgo a0 a1 a2, e, h => chkE_ok O.ok h
  | m, .dcp a0 a1 a2 a3 a4 a5 a6, e, h => chkE_ok O.ok h
  | m, .dcpT a0 a1 a2 a3 a4 a5 a6, e, h => chkE_ok O.ok h
  | m, .lc2 a0 a1 a2 a3 a4 a5 a6 a7 a8 a9 a10, e, h => chkE_ok O.ok h
end
/-- raise X('..') -/
def raiseOf : Stmt → Option (Str × Str × Pos × Nat × Pos × Pos × Pos)
  | .Raise (some (.Call (.Name x p) [.Constant (.str m) j p2] [] p3)) none pos => some (x, m, p, j, p2, p3, pos)
  | _ => none
theorem raiseOf_some {s : Stmt} {y : Str × Str × Pos × Nat × Pos × Pos × Pos} (h : raiseOf s = some y) : s = .Raise (some (.Call (.Name y.1 y.2.2.1) [.Constant (.str y.2.1) y.2.2.2.1 y.2.2.2.2.1] [] y.2.2.2.2.2.1)) none y.2.2.2.2.2.2 := by
  unfold raiseOf at h
  split at h
  · cases h; rfl
  · cases h
def chkRaise (K : Ck) (sc : Scope) (c : Nat) (s : Stmt) : Bool := match raiseOf s with
  | some (x, _) => decide (K.x.exc[c]? = some x) && glB sc x && !(x == "__debug__")
  | none => false
section
variable {g : G} {Γ : Sm} {X : Cx} {ck : Ck} {sc : Scope} {k n : Nat} {E : XK}
theorem chkRaise_ok {c : Nat} {st : Stmt} (O : Osx g Γ X ck sc k E) (h : chkRaise ck sc c st = true) : PS X st (rdX g X E Γ n (.raise c)) := by
  unfold chkRaise at h
  split at h
  · rename_i x r hr
    obtain ⟨h, h3⟩ := and2 h
    obtain ⟨h1, h2⟩ := and2 h
    have e1 := raiseOf_some hr
    dsimp only at e1
    subst e1
    obtain ⟨C, m1, m2, m3, m4, m5, m6⟩ := O.exc c x (of_decide_eq_true h1)
    refine PS.imp (ps_raise O.ok.gd.calm O.ok.tk (pmk_own PySem.F.excBase_ValueError m3 m1 m4 (raises_own m5 m6) (gl_of O.ok.gd h2) (bnot h3))) fun D σ H h => ?_
    obtain ⟨F0, H0, bs, F, ta, ca, env, tp, s, h⟩ := h
    unfold exS at h
    have z := h H s.ext (s.E.wd.sub s.sub s.hta)
    rw [m2] at z
    exact z
  · cases h
end
end Q

set_option Elab.async false
set_option linter.all false
set_option maxRecDepth 100000
namespace Q
open PySem PySem.Spec L2
open PyProof.Rows hiding St
section
variable {g : G} {Γ : Sm} {X : Cx} {ck : Ck} {sc : Scope} {fz : Str → Bool} {k n : Nat} {E : XK} {W : WX}
def swOk : Expr → Bool
  | .SetComp _ _ _ _ => false | .DictComp _ _ _ _ _ => false
  | _ => true
theorem set_sw {i : Nat} {x : Str} {px pos : Pos} {e : Expr} {c : C} {t : Tg} {kd : IK} {as cs : Cs} {ow : List Nat} (O : Osx g Γ X ck sc k E) (hi : ck.N[i]? = some x) (hsw : swapB sc x px e = true) (h : chkE ck sc (fun _ => true) .v (.lc c t kd as cs ow) e = true) :
    PS X (.Assign [.Name x px] e pos) (tAsg (rdF g X.K (WX0 E) Γ (.lc c t kd as cs ow)) (gName i)) := by
  obtain ⟨elt, tg, iter, ifs, scope, cpos, rfl, h1, h2, h3, h4, h5, h6⟩ := lc_split h
  have O' := O.ok
  unfold swapB at hsw
  obtain ⟨hsw, q3⟩ := and2 hsw
  obtain ⟨q1, q2⟩ := and2 hsw
  have hl : sc.names.lookup x = some .local := by
    split at q1
    · assumption
    · cases q1
  have z := ps_setLc (X := X) (i := i) (y := x) (py := px) (spos := pos) (elt := elt) (tg := tg) (iter := iter) (ifs := ifs) (scope := scope) (own := ownOf ck.N ow) (pos := cpos) (wi := rdI g X.K (WX0 E) Γ kd.md kd as) (g := tgS g X.K ow t) (tt := rdC g X.K W0 Γ cs) (te := rdE g X.K W0 Γ .v c) O'.gd.calm (by rw [O'.gd.hN]; exact O'.gd.nd) (by rw [O'.gd.hN]; exact hi) (by rw [O'.gd.sc]; exact hl)
    (sw_true (by rw [O'.gd.sc]; exact O.kind) (by rw [O'.gd.sc]; exact hl) q2 (bnot q3)) (chkI_ok O' md_ne h3) (by rw [O'.gd.hN, O'.gd.sc]; exact blkOk_by h1)
    (fun s H C cl fp => chkG_ok (O'.blk s H scope C cl fp).gd (O'.blk s H scope C cl fp).fF h2) (fun s H C cl fp => chkC_ok (O'.blk s H scope C cl fp) h5) (fun s H C cl fp => (chkE_ok (O'.blk s H scope C cl fp) h6).1 vne) (fold_set h4)
  rw [ownOf_snd] at z
  exact PS.imp z fun D σ H h => asg_mono (fun _ _ _ h => lc_imp h) h
theorem set_sw2 {i : Nat} {x : Str} {px pos : Pos} {e : Expr} {c : C} {t t1 : Tg} {kd k1 : IK} {as cs as1 cs1 : Cs} {ow ow1 : List Nat} (O : Osx g Γ X ck sc k E) (hi : ck.N[i]? = some x) (hsw : swapB sc x px e = true) (h : chkE ck sc (fun _ => true) .v (.lc2 c t kd as cs t1 k1 as1 cs1 ow ow1) e = true) :
    PS X (.Assign [.Name x px] e pos) (tAsg (rdF g X.K (WX0 E) Γ (.lc2 c t kd as cs t1 k1 as1 cs1 ow ow1)) (gName i)) := by
  have O' := O.ok
  have h : (match lc2Of e with
    | some (elt, (tg, iter, ifs), (tg1, iter1, ifs1), scope, _) => blkC ck.N sc scope (ownOf ck.N ow) && ow1.all (fun i => ow.contains i) && chkG ck.N (relS scope sc) (fzB scope) ow t tg && chkI ck sc (fun _ => true) kd.md kd as tg iter && notSet iter && chkC ck (relS scope sc) (fzB scope) cs ifs && chkI ck (relS scope sc) (fzB scope) .v k1 as1 tg1 iter1 && notSet iter1 && chkG ck.N (relS scope sc) (fzB scope) ow1 t1 tg1 && chkC ck (relS scope sc) (fzB scope) cs1 ifs1 && chkE ck (relS scope sc) (fzB scope) .v c elt
    | none => false) = true := h
  cases hq : lc2Of e with
  | none => rw [hq] at h; cases h
  | some w =>
    rw [hq] at h
    obtain ⟨elt, ⟨tg, iter, ifs⟩, ⟨tg1, iter1, ifs1⟩, scope, cpos⟩ := w
    have he := lc2Of_some hq
    dsimp only at he h
    subst he
    obtain ⟨h, h11⟩ := and2 h
    obtain ⟨h, h10⟩ := and2 h
    obtain ⟨h, h9⟩ := and2 h
    obtain ⟨h, h8⟩ := and2 h
    obtain ⟨h, h7⟩ := and2 h
    obtain ⟨h, h6⟩ := and2 h
    obtain ⟨h, h5⟩ := and2 h
    obtain ⟨h, h4⟩ := and2 h
    obtain ⟨h, h3⟩ := and2 h
    obtain ⟨h1, h2⟩ := and2 h
    unfold swapB at hsw
    obtain ⟨hsw, q3⟩ := and2 hsw
    obtain ⟨q1, q2⟩ := and2 hsw
    have hl : sc.names.lookup x = some .local := by
      split at q1
      · assumption
      · cases q1
    have z := ps_setLc2 (X := X) (i := i) (y := x) (py := px) (spos := pos) (elt := elt) (tg := tg) (iter := iter) (ifs := ifs) (tg1 := tg1) (iter1 := iter1) (ifs1 := ifs1) (scope := scope) (own := ownOf ck.N ow) (vs1 := ow1) (pos := cpos) (wi := rdI g X.K (WX0 E) Γ kd.md kd as) (wi1 := rdI g X.K W0 Γ .v k1 as1) (g := tgS g X.K ow t) (g1 := tgS g X.K ow1 t1) (tt := rdC g X.K W0 Γ cs) (tt1 := rdC g X.K W0 Γ cs1) (te := rdE g X.K W0 Γ .v c) O'.gd.calm (by rw [O'.gd.hN]; exact O'.gd.nd) (by rw [O'.gd.hN]; exact hi) (by rw [O'.gd.sc]; exact hl)
      (sw_true (by rw [O'.gd.sc]; exact O.kind) (by rw [O'.gd.sc]; exact hl) q2 (bnot q3)) (chkI_ok O' md_ne h4) (by rw [O'.gd.hN, O'.gd.sc]; exact blkOk_by h1) (fun i hi => by rw [ownOf_snd]; exact all_in h2 i hi)
      (fun s H C cl fp => chkG_ok (O'.blk s H scope C cl fp).gd (O'.blk s H scope C cl fp).fF h3) (fun s H C cl fp => chkC_ok (O'.blk s H scope C cl fp) h6)
      (fun s H C cl fp => chkI_ok (O'.blk s H scope C cl fp) vne h7) (fun s H C cl fp => chkG_ok (O'.blk s H scope C cl fp).gd (O'.blk s H scope C cl fp).fF h9) (fun s H C cl fp => chkC_ok (O'.blk s H scope C cl fp) h10)
      (fun s H C cl fp => (chkE_ok (O'.blk s H scope C cl fp) h11).1 vne) (fold_set h5) (fun env => fold_set h8)
    rw [ownOf_snd] at z
    exact PS.imp z fun D σ H h => asg_mono (fun _ _ _ h => lc2_imp h) h
theorem set_plain {i : Nat} {x : Str} {px pos : Pos} {e : Expr} {te : TE} (O : Osx g Γ X ck sc k E) (hi : ck.N[i]? = some x) (hs : stB sc (fun _ => true) x = true) (hsw : swapB sc x px e = false) (hd : swOk e = true) (he : PE X e te) : PS X (.Assign [.Name x px] e pos) (tAsg te (gName i)) := by
  obtain ⟨h1, h2⟩ := sto_of O.ok.gd O.ok.fF hs
  refine ps_set (by rw [O.ok.gd.hN]; exact O.ok.gd.nd) (by rw [O.ok.gd.hN]; exact hi) h1 he (swaps_no O.ok.gd.sc ?_ hsw) h2
  cases e <;> first | rfl | cases hd
/-- the check of name = e -/
def chkSet (K : Ck) (sc : Scope) (c : C) (x : Str) (px : Pos) (e : Expr) : Bool := match swapB sc x px e with
  | true => match c with
    | .lc a b d f l m => chkE K sc (fun _ => true) .v (.lc a b d f l m) e
    | .lc2 a b d f l m n o p q r => chkE K sc (fun _ => true) .v (.lc2 a b d f l m n o p q r) e
    | _ => false
  | false => swOk e && chkE K sc (fun _ => true) .v c e
def chkSetL (K : Ck) (sc : Scope) (c : C) (x : Str) (px : Pos) (e : Expr) : Bool := match swapB sc x px e with
  | true => match c with
    | .lc a b d f l m => chkE K sc (fun _ => true) .v (.lc a b d f l m) e
    | _ => false
  | false => swOk e && chkL K sc (fun _ => true) c e
theorem chkSet_ok {i : Nat} {c : C} {x : Str} {px pos : Pos} {e : Expr} (O : Osx g Γ X ck sc k E) (hi : ck.N[i]? = some x) (hs : stB sc (fun _ => true) x = true) (h : chkSet ck sc c x px e = true) : PS X (.Assign [.Name x px] e pos) (rdX g X E Γ n (.set i c)) := by
  unfold chkSet at h
  split at h
  · rename_i q
    split at h
    · exact PS.imp (set_sw O hi q h) fun D σ H h => asg_mono (fun _ _ _ h => rdF_of (fun _ _ => rfl) h) (set_imp h)
    · exact PS.imp (set_sw2 O hi q h) fun D σ H h => asg_mono (fun _ _ _ h => rdF_of (fun _ _ => rfl) h) (set_imp h)
    · cases h
  · rename_i q
    obtain ⟨h1, h2⟩ := and2 h
    exact PS.imp (set_plain O hi hs q h1 ((chkE_ok O.ok h2).1 vne)) fun D σ H h => set_imp h
theorem chkSetL_ok {i : Nat} {c : C} {x : Str} {px pos : Pos} {e : Expr} (O : Osx g Γ X ck sc k E) (hi : ck.N[i]? = some x) (hs : stB sc (fun _ => true) x = true) (h : chkSetL ck sc c x px e = true) : PS X (.Assign [.Name x px] e pos) (rdX g X E Γ n (.setL i c)) := by
  unfold chkSetL at h
  split at h
  · rename_i q
    split at h
    · exact PS.imp (set_sw O hi q h) fun D σ H h => asg_mono (fun _ _ _ h => rdL_of h) (setL_imp' h)
    · cases h
  · rename_i q
    obtain ⟨h1, h2⟩ := and2 h
    exact PS.imp (set_plain O hi hs q h1 (chkL_ok O.ok h2)) fun D σ H h => setL_imp' h
/-! a method that writes into a list of one's own -/
theorem attr_name {x : Str} {p : Pos} {at_ : Str} {env : Env} : attributeBase (.Name x p) at_ env (eval (.Name x p) env) = eval (.Name x p) env := rfl
theorem mth_pe {id : String} {name : Str} {r : V → List V → Hp → VK → Prop} {i : Nat} {c : C} {x : Str} {p apos cpos : Pos} {e : Expr} (O : Okx g Γ X ck sc fz k W) (slot : Slot "list" name id) (hty : typeOf (.builtin id) = pure (.type "method_descriptor")) (hm : MtR X id r)
    (hi : ck.N[i]? = some x) (hv : visB sc x = true) (hn : nameB x = true) (hc : chkE ck sc fz .v c e = true) (hst : starB e = false) (hl : (apos.endLine == cpos.line) = true) :
    PE X (.Call (.Attribute (.Name x p) name apos) [e] [] cpos) (tBM X.K "list" r (tVar i) (rdEs g X.K W Γ .v (.cons c .nil))) := by
  have hse : starEach [e] X.env = [(false, eval e X.env)] := star_eq hst
  refine pe_bm PySem.F.plainAttrs_list slot hty hm (e_adr O.gd hi hv hn) (es_cons ((chkE_ok O hc).1 vne) es_nil hst) attr_name ?_ hl hse rfl
  rw [hse]
  rfl
def isLoc (sc : Scope) (x : Str) : Bool := match sc.names.lookup x with
  | some .local => true
  | _ => false
theorem isLoc_ok {sc : Scope} {x : Str} (h : isLoc sc x = true) : sc.names.lookup x = some .local := by
  unfold isLoc at h
  split at h
  · assumption
  · cases h
def subT : Expr → Bool
  | .Subscript _ _ _ => true
  | _ => false

/-! forms of statements -/
def augO : BO → Bool
  | .add => true | .sub => true | _ => false
theorem swaps_sole {e t : Expr} {l : Nat} {env : Env} (h : (match t with | .Name _ _ => false | _ => true) = true) : swapsWithSole [t] e l env = pure false := swaps_tgt h
def nmOf : Expr → Option (Str × Pos)
  | .Name x p => some (x, p)
  | _ => none
theorem nmOf_some {e : Expr} {x : Str} {p : Pos} (h : nmOf e = some (x, p)) : e = .Name x p := by
  cases e <;> first | (cases h; rfl) | cases h
def sub1Of : Expr → Option (Expr × Expr × Pos)
  | .Subscript a b p => some (a, b, p)
  | _ => none
theorem sub1Of_some {e : Expr} {x : Expr × Expr × Pos} (h : sub1Of e = some x) : e = .Subscript x.1 x.2.1 x.2.2 := by
  cases e <;> first | (cases h; rfl) | cases h
def tup1Of : Expr → Option (List Expr × Nat × Pos)
  | .Tuple a b p => some (a, b, p)
  | _ => none
theorem tup1Of_some {e : Expr} {x : List Expr × Nat × Pos} (h : tup1Of e = some x) : e = .Tuple x.1 x.2.1 x.2.2 := by
  cases e <;> first | (cases h; rfl) | cases h
def asgOf : Stmt → Option (Expr × Expr × Pos)
  | .Assign ts e p => match ts with
    | [t] => some (t, e, p)
    | _ => none
  | _ => none
theorem asgOf_some {st : Stmt} {x : Expr × Expr × Pos} (h : asgOf st = some x) : st = .Assign [x.1] x.2.1 x.2.2 := by
  cases st <;> first | (cases h; done) | skip
  rename_i ts e p
  match ts, h with
  | [t], h => cases h; rfl
def exprOf : Stmt → Option (Expr × Pos)
  | .Expr e p => some (e, p)
  | _ => none
theorem exprOf_some {st : Stmt} {x : Expr × Pos} (h : exprOf st = some x) : st = .Expr x.1 x.2 := by
  cases st <;> first | (cases h; rfl) | cases h
def callOf : Expr → Option (Expr × List Expr × Pos)
  | .Call f as ks p => match ks with
    | [] => some (f, as, p)
    | _ => none
  | _ => none
theorem callOf_some {e : Expr} {x : Expr × List Expr × Pos} (h : callOf e = some x) : e = .Call x.1 x.2.1 [] x.2.2 := by
  cases e <;> first | (cases h; done) | skip
  rename_i f as ks p
  match ks, h with
  | [], h => cases h; rfl
def attrOf : Expr → Option (Expr × Str × Pos)
  | .Attribute o a p => some (o, a, p)
  | _ => none
theorem attrOf_some {e : Expr} {x : Expr × Str × Pos} (h : attrOf e = some x) : e = .Attribute x.1 x.2.1 x.2.2 := by
  cases e <;> first | (cases h; rfl) | cases h
/-- name = e -/
def asgN (st : Stmt) : Option (Str × Pos × Expr × Pos) := (asgOf st).bind fun x => (nmOf x.1).map fun y => (y.1, y.2, x.2.1, x.2.2)
theorem asgN_some {st : Stmt} {x : Str × Pos × Expr × Pos} (h : asgN st = some x) : st = .Assign [.Name x.1 x.2.1] x.2.2.1 x.2.2.2 := by
  unfold asgN at h
  obtain ⟨a, h1, h2⟩ := Option.bind_eq_some_iff.mp h
  obtain ⟨b, h3, rfl⟩ := Option.map_eq_some_iff.mp h2
  rw [asgOf_some h1, nmOf_some (e := a.1) (x := b.1) (p := b.2) h3]
/-- name.at(e) -/
def mthN (st : Stmt) : Option (Str × Pos × Str × Pos × Expr × Pos × Pos) := (exprOf st).bind fun x => (callOf x.1).bind fun y => (attrOf y.1).bind fun z => (nmOf z.1).bind fun u => match y.2.1 with
  | [e] => some (u.1, u.2, z.2.1, z.2.2, e, y.2.2, x.2)
  | _ => none
theorem mthN_some {st : Stmt} {x : Str × Pos × Str × Pos × Expr × Pos × Pos} (h : mthN st = some x) : st = .Expr (.Call (.Attribute (.Name x.1 x.2.1) x.2.2.1 x.2.2.2.1) [x.2.2.2.2.1] [] x.2.2.2.2.2.1) x.2.2.2.2.2.2 := by
  unfold mthN at h
  obtain ⟨a, h1, h⟩ := Option.bind_eq_some_iff.mp h
  obtain ⟨b, h2, h⟩ := Option.bind_eq_some_iff.mp h
  obtain ⟨c, h3, h⟩ := Option.bind_eq_some_iff.mp h
  obtain ⟨d, h4, h⟩ := Option.bind_eq_some_iff.mp h
  split at h
  · rename_i e he
    cases h
    rw [exprOf_some h1, callOf_some h2, attrOf_some h3, nmOf_some (e := c.1) (x := d.1) (p := d.2) h4, he]
  · cases h
/-- name[k] = e -/
def asgI (st : Stmt) : Option (Str × Pos × Expr × Pos × Expr × Pos) := (asgOf st).bind fun x => (sub1Of x.1).bind fun y => (nmOf y.1).map fun z => (z.1, z.2, y.2.1, y.2.2, x.2.1, x.2.2)
theorem asgI_some {st : Stmt} {x : Str × Pos × Expr × Pos × Expr × Pos} (h : asgI st = some x) : st = .Assign [.Subscript (.Name x.1 x.2.1) x.2.2.1 x.2.2.2.1] x.2.2.2.2.1 x.2.2.2.2.2 := by
  unfold asgI at h
  obtain ⟨a, h1, h⟩ := Option.bind_eq_some_iff.mp h
  obtain ⟨b, h2, h⟩ := Option.bind_eq_some_iff.mp h
  obtain ⟨c, h3, rfl⟩ := Option.map_eq_some_iff.mp h
  rw [asgOf_some h1, sub1Of_some h2, nmOf_some (e := b.1) (x := c.1) (p := c.2) h3]
/-- (t, ..) = e -/
def asgT (st : Stmt) : Option (List Expr × Nat × Pos × Expr × Pos) := (asgOf st).bind fun x => (tup1Of x.1).map fun y => (y.1, y.2.1, y.2.2, x.2.1, x.2.2)
theorem asgT_some {st : Stmt} {x : List Expr × Nat × Pos × Expr × Pos} (h : asgT st = some x) : st = .Assign [.Tuple x.1 x.2.1 x.2.2.1] x.2.2.2.1 x.2.2.2.2 := by
  unfold asgT at h
  obtain ⟨a, h1, h⟩ := Option.bind_eq_some_iff.mp h
  obtain ⟨b, h2, rfl⟩ := Option.map_eq_some_iff.mp h
  rw [asgOf_some h1, tup1Of_some h2]
/-- x, y = a, b -/
def asgP (st : Stmt) : Option (Str × Pos × Str × Pos × Nat × Pos × Expr × Expr × Nat × Pos × Pos) := (asgT st).bind fun x => match x.1 with
  | [t1, t2] => (nmOf t1).bind fun u => (nmOf t2).bind fun v => (tup1Of x.2.2.2.1).bind fun z => match z.1 with
    | [a, b] => some (u.1, u.2, v.1, v.2, x.2.1, x.2.2.1, a, b, z.2.1, z.2.2, x.2.2.2.2)
    | _ => none
  | _ => none
theorem asgP_some {st : Stmt} {x : Str × Pos × Str × Pos × Nat × Pos × Expr × Expr × Nat × Pos × Pos} (h : asgP st = some x) :
    st = .Assign [.Tuple [.Name x.1 x.2.1, .Name x.2.2.1 x.2.2.2.1] x.2.2.2.2.1 x.2.2.2.2.2.1] (.Tuple [x.2.2.2.2.2.2.1, x.2.2.2.2.2.2.2.1] x.2.2.2.2.2.2.2.2.1 x.2.2.2.2.2.2.2.2.2.1) x.2.2.2.2.2.2.2.2.2.2 := by
  unfold asgP at h
  obtain ⟨a, h1, h⟩ := Option.bind_eq_some_iff.mp h
  split at h
  · rename_i t1 t2 ht
    obtain ⟨u, h2, h⟩ := Option.bind_eq_some_iff.mp h
    obtain ⟨v, h3, h⟩ := Option.bind_eq_some_iff.mp h
    obtain ⟨z, h4, h⟩ := Option.bind_eq_some_iff.mp h
    split at h
    · rename_i e1 e2 he
      cases h
      rw [asgT_some h1, ht, tup1Of_some h4, he, nmOf_some (e := t1) (x := u.1) (p := u.2) h2, nmOf_some (e := t2) (x := v.1) (p := v.2) h3]
    · cases h
  · cases h
def augOf : Stmt → Option (Str × Pos × Operator × Expr × Pos)
  | .AugAssign t o e p => (nmOf t).map fun u => (u.1, u.2, o, e, p)
  | _ => none
theorem augOf_some {st : Stmt} {x : Str × Pos × Operator × Expr × Pos} (h : augOf st = some x) : st = .AugAssign (.Name x.1 x.2.1) x.2.2.1 x.2.2.2.1 x.2.2.2.2 := by
  cases st <;> first | (cases h; done) | skip
  obtain ⟨b, h3, rfl⟩ := Option.map_eq_some_iff.mp h
  rw [nmOf_some (x := b.1) (p := b.2) h3]
def emptyD : Expr → Bool
  | .Dict [] [] _ => true
  | _ => false
theorem emptyD_some {e : Expr} (h : emptyD e = true) : ∃ p, e = .Dict [] [] p := by
  cases e <;> first | (cases h; done) | skip
  rename_i ks vs p
  cases ks <;> first | (cases h; done) | skip
  cases vs <;> first | exact ⟨p, rfl⟩ | cases h
/-- {k: v} -/
def dispOf : Expr → Option (Expr × Expr × Pos)
  | .Dict [some k] [v] p => some (k, v, p)
  | _ => none
theorem dispOf_some {e : Expr} {x : Expr × Expr × Pos} (h : dispOf e = some x) : e = .Dict [some x.1] [x.2.1] x.2.2 := by
  cases e <;> first | (cases h; done) | skip
  rename_i ks vs p
  match ks, vs, h with
  | [some k], [v], h => cases h; rfl
/-- x[k] -/
def subN (e : Expr) : Option (Str × Pos × Expr × Pos) := (sub1Of e).bind fun y => (nmOf y.1).map fun z => (z.1, z.2, y.2.1, y.2.2)
theorem subN_some {e : Expr} {x : Str × Pos × Expr × Pos} (h : subN e = some x) : e = .Subscript (.Name x.1 x.2.1) x.2.2.1 x.2.2.2 := by
  unfold subN at h
  obtain ⟨b, h2, h⟩ := Option.bind_eq_some_iff.mp h
  obtain ⟨c, h3, rfl⟩ := Option.map_eq_some_iff.mp h
  rw [sub1Of_some h2, nmOf_some (e := b.1) (x := c.1) (p := c.2) h3]
def two (ts : List Expr) : Option (Expr × Expr) := match ts with
  | [a, b] => some (a, b)
  | _ => none
theorem two_some {ts : List Expr} {x : Expr × Expr} (h : two ts = some x) : ts = [x.1, x.2] := by
  match ts, h with
  | [a, b], h => cases h; rfl
def strK (s : Str) : Expr → Bool
  | .Constant c _ _ => match c with
    | .str t => decide (t = s)
    | _ => false
  | _ => false
theorem strK_some {s : Str} {e : Expr} (h : strK s e = true) : ∃ j p, e = .Constant (.str s) j p := by
  cases e <;> first | (cases h; done) | skip
  rename_i c j p
  cases c <;> first | (cases h; done) | (cases (of_decide_eq_true h); exact ⟨_, _, rfl⟩)
def strC : Expr → Bool
  | .Constant c _ _ => match c with
    | .str _ => true
    | _ => false
  | _ => false
theorem strC_some {e : Expr} (h : strC e = true) : ∃ x j p, e = .Constant (.str x) j p := by
  cases e <;> first | (cases h; done) | skip
  rename_i c j p
  cases c <;> first | (cases h; done) | exact ⟨_, _, _, rfl⟩
mutual
def chkS (K : Ck) (sc : Scope) : S → Stmt → Bool
  | .set i c, st => match asgN st with
    | some (x, px, e, _) => decide (K.N[i]? = some x) && stB sc (fun _ => true) x && chkSet K sc c x px e
    | none => false
  | .setL i c, st => match asgN st with
    | some (x, px, e, _) => decide (K.N[i]? = some x) && stB sc (fun _ => true) x && chkSetL K sc c x px e
    | none => false
  | .move i j, st => match asgN st with
    | some (x, _, e, _) => match nmOf e with
      | some (y, _) => decide (K.N[i]? = some x) && stB sc (fun _ => true) x && decide (K.N[j]? = some y) && visB sc y && nameB y
      | none => false
    | none => false
  | .par i j a b, st => match asgP st with
    | some (x, px, y, py, _, _, ea, eb, _) => decide (K.N[i]? = some x) && decide (K.N[j]? = some y) && isLoc sc x && isLoc sc y && !(Nat.beq i j) && chkE K sc (fun _ => true) .v a ea && chkE K sc (fun _ => true) .v b eb && !starB ea && !starB eb
        && !ssNone sc [.Name x px, .Name y py] [ea, eb] && !([ea, eb].all (constantsAlone 8)) && decide (ssNames sc [.Name x px, .Name y py] = [x, y])
    | none => false
  | .unp t c, st => match asgT st with
    | some (ts, k1, p1, e, _) => chkG K.N sc (fun _ => true) (List.range K.N.length) t (.Tuple ts k1 p1) && chkE K sc (fun _ => true) .v c e && plainSt sc ts e
    | none => false
  | .app i c, st => match mthN st with
    | some (x, _, a, apos, e, cpos, _) => decide (K.N[i]? = some x) && decide (a = "append") && visB sc x && nameB x && chkE K sc (fun _ => true) .v c e && !starB e && apos.endLine == cpos.line
    | none => false
  | .ext i c, st => match mthN st with
    | some (x, _, a, apos, e, cpos, _) => decide (K.N[i]? = some x) && decide (a = "extend") && visB sc x && nameB x && chkE K sc (fun _ => true) .v c e && !starB e && apos.endLine == cpos.line
    | none => false
  | .sub i kk c, st => match asgI st with
    | some (x, _, ek, _, e, _) => decide (K.N[i]? = some x) && visB sc x && nameB x && chkE K sc (fun _ => true) .r kk ek && chkE K sc (fun _ => true) .v c e && swOk e && !sliceB ek
    | none => false
  | .aug i o c, st => match augOf st with
    | some (x, _, p, e, _) => decide (K.N[i]? = some x) && stB sc (fun _ => true) x && chkE K sc (fun _ => true) .r c e && opB o p && augO o
    | none => false
  | .ret c, st => match st with
    | .Return (some e) _ => chkEL K sc (fun _ => true) .v c e
    | _ => false
  | .ife c a b, st => match st with
    | .If e sa sb _ => chkEL K sc (fun _ => true) .t c e && chkSs K sc a sa && chkSs K sc b sb
    | _ => false
  | .for_ t kd as b, st => match st with
    | .For tg it sb [] _ => chkG K.N sc (fun _ => true) (List.range K.N.length) t tg && chkI K sc (fun _ => true) .v kd as tg it && notSet it && chkSs K sc b sb
    | _ => false
  | .whl c b, st => match st with
    | .While e sb [] _ => chkE K sc (fun _ => true) .t c e && chkSs K sc b sb
    | _ => false
  | .ex c, st => match st with
    | .Expr e _ => notComp e && chkE K sc (fun _ => true) .r c e
    | _ => false
  | .cont, st => match st with
    | .Continue _ => true
    | _ => false
  | .brk, st => match st with
    | .Break _ => true
    | _ => false
  | .pass, st => match st with
    | .Pass _ => true
    | .Expr e _ => strC e
    | _ => false
  | .bad, _ => true
  | .try_ b _ _, st => match st with
    | .Try sb (_ :: _) [] [] _ => chkSs K sc b sb
    | _ => false
  | .swp i k1 k2 c1 c2, st => match asgT st with
    | some (ts, _, _, e, _) => match two ts with
      | some (t1, t2) => match subN t1, subN t2 with
        | some (x, _, ek1, _), some (y, _, ek2, _) => decide (K.N[i]? = some x) && decide (K.N[i]? = some y) && visB sc x && visB sc y && nameB x && nameB y && !sliceB ek1 && !sliceB ek2 && chkE K sc (fun _ => true) .r k1 ek1 && chkE K sc (fun _ => true) .r k2 ek2 && chkE K sc (fun _ => true) .v (.tup (.cons c1 (.cons c2 .nil))) e && plainSt sc ts e
        | _, _ => false
      | none => false
    | none => false
  | .setD0 i _, st => match asgN st with
    | some (x, _, e, _) => decide (K.N[i]? = some x) && stB sc (fun _ => true) x && emptyD e
    | none => false
  | .setD i ks vs, st => match ks, vs with
    | .cons kk .nil, .cons c .nil => match asgN st with
      | some (x, _, e, _) => match dispOf e with
        | some (ek, ev, _) => decide (K.N[i]? = some x) && stB sc (fun _ => true) x && chkE K sc (fun _ => true) .r kk ek && chkE K sc (fun _ => true) .v c ev
        | none => false
      | none => false
    | _, _ => false
  | .dput i kk c, st => match asgI st with
    | some (x, _, ek, _, e, _) => decide (K.N[i]? = some x) && visB sc x && nameB x && chkE K sc (fun _ => true) .r kk ek && chkE K sc (fun _ => true) .v c e && notComp e
    | none => false
  | .tput i f c, st => match asgI st with
    | some (x, _, ek, _, e, _) => decide (K.N[i]? = some x) && visB sc x && nameB x && strK (tfName f) ek && chkE K sc (fun _ => true) .v c e && notComp e
    | none => false
  | .raise c, st => chkRaise K sc c st
  | .frz _, _ => false
def chkSs (K : Ck) (sc : Scope) : Ss → List Stmt → Bool
  | .nil, sts => sts.isEmpty
  | .cons s ss, sts => match s with
    | .frz _ => chkSs K sc ss sts
    | s => match sts with
      | st :: sts => chkS K sc s st && chkSs K sc ss sts
      | [] => false
end
end
end Q

set_option Elab.async false
set_option linter.all false
set_option maxRecDepth 100000
namespace Q
open PySem PySem.Spec L2
open PyProof.Rows hiding St
section
variable {g : G} {Γ : Sm} {ck : Ck} {sc : Scope} {k n : Nat}
theorem ps_bad {X : Cx} {E : XK} {st : Stmt} : PS X st (rdX g X E Γ n .bad) := ⟨fun pins s σ H D I h => by
  obtain ⟨F0, H0, bs, F, ta, ca, env, tp, s, h⟩ := h
  unfold exS at h
  exact h.elim⟩
mutual
theorem chkS_ok {X : Cx} {E : XK} (O : Osx g Γ X ck sc k E) : ∀ {s : S} {st : Stmt}, chkS ck sc s st = true → PS X st (rdX g X E Γ n s)
  | .set i c, st, h => by
    have h : (match asgN st with
    | some (x, px, e, _) => decide (ck.N[i]? = some x) && stB sc (fun _ => true) x && chkSet ck sc c x px e
    | none => false) = true := h
    split at h <;> try cases h
    · rename_i x px e pos hq
      have hst := asgN_some hq
      dsimp only at hst
      subst hst
      obtain ⟨h, h3⟩ := and2 (a := decide (ck.N[i]? = some x) && stB sc (fun _ => true) x) h
      obtain ⟨h1, h2⟩ := and2 h
      exact chkSet_ok O (of_decide_eq_true h1) h2 h3
  | .setL i c, st, h => by
    have h : (match asgN st with
    | some (x, px, e, _) => decide (ck.N[i]? = some x) && stB sc (fun _ => true) x && chkSetL ck sc c x px e
    | none => false) = true := h
    split at h <;> try cases h
    · rename_i x px e pos hq
      have hst := asgN_some hq
      dsimp only at hst
      subst hst
      obtain ⟨h, h3⟩ := and2 (a := decide (ck.N[i]? = some x) && stB sc (fun _ => true) x) h
      obtain ⟨h1, h2⟩ := and2 h
      exact chkSetL_ok O (of_decide_eq_true h1) h2 h3
  | .move i j, st, h => by
    cases hq : asgN st with
    | none =>
      have h : (match asgN st with
        | some (x, _, e, _) => match nmOf e with
          | some (y, _) => decide (ck.N[i]? = some x) && stB sc (fun _ => true) x && decide (ck.N[j]? = some y) && visB sc y && nameB y
          | none => false
        | none => false) = true := h
      rw [hq] at h
      cases h
    | some v =>
      have hz : (match asgN st with
        | some (x, _, e, _) => match nmOf e with
          | some (y, _) => decide (ck.N[i]? = some x) && stB sc (fun _ => true) x && decide (ck.N[j]? = some y) && visB sc y && nameB y
          | none => false
        | none => false) = true := h
      rw [hq] at hz
      obtain ⟨x, px, e, pos⟩ := v
      have hst := asgN_some hq
      dsimp only at hst hz
      subst hst
      cases hq2 : nmOf e with
      | none =>
        rw [hq2] at hz
        cases hz
      | some v2 =>
      rw [hq2] at hz
      obtain ⟨y, py⟩ := v2
      dsimp only at hz
      replace h := hz
      cases nmOf_some hq2
      obtain ⟨h, h5⟩ := and2 (a := decide (ck.N[i]? = some x) && stB sc (fun _ => true) x && decide (ck.N[j]? = some y) && visB sc y) h
      obtain ⟨h, h4⟩ := and2 h
      obtain ⟨h, h3⟩ := and2 h
      obtain ⟨h1, h2⟩ := and2 h
      exact PS.imp (set_plain O (of_decide_eq_true h1) h2 rfl rfl (e_adr O.ok.gd (of_decide_eq_true h3) h4 h5)) fun D σ H h => move_imp h
  | .par i j a b, st, h => by
    have h : (match asgP st with
    | some (x, px, y, py, _, _, ea, eb, _) => decide (ck.N[i]? = some x) && decide (ck.N[j]? = some y) && isLoc sc x && isLoc sc y && !(Nat.beq i j) && chkE ck sc (fun _ => true) .v a ea && chkE ck sc (fun _ => true) .v b eb && !starB ea && !starB eb
        && !ssNone sc [.Name x px, .Name y py] [ea, eb] && !([ea, eb].all (constantsAlone 8)) && decide (ssNames sc [.Name x px, .Name y py] = [x, y])
    | none => false) = true := h
    split at h <;> try cases h
    · rename_i x px y py kt pt ea eb rest hq
      have hst := asgP_some hq
      dsimp only at hst
      subst hst
      obtain ⟨h, h12⟩ := and2 (a := decide (ck.N[i]? = some x) && decide (ck.N[j]? = some y) && isLoc sc x && isLoc sc y && !(Nat.beq i j) && chkE ck sc (fun _ => true) .v a ea && chkE ck sc (fun _ => true) .v b eb && !starB ea && !starB eb && !ssNone sc [.Name x px, .Name y py] [ea, eb] && !([ea, eb].all (constantsAlone 8))) h
      obtain ⟨h, h11⟩ := and2 h
      obtain ⟨h, h10⟩ := and2 h
      obtain ⟨h, h9⟩ := and2 h
      obtain ⟨h, h8⟩ := and2 h
      obtain ⟨h, h7⟩ := and2 h
      obtain ⟨h, h6⟩ := and2 h
      obtain ⟨h, h5⟩ := and2 h
      obtain ⟨h, h4⟩ := and2 h
      obtain ⟨h, h3⟩ := and2 h
      obtain ⟨h1, h2⟩ := and2 h
      have G := O.ok.gd
      have hij : i ≠ j := fun q => by
        rw [q, Nat.beq_refl] at h5
        cases h5
      refine PS.imp (ps_par G.calm (by rw [G.hN]; exact G.nd) (by rw [G.hN]; exact of_decide_eq_true h1) (by rw [G.hN]; exact of_decide_eq_true h2) hij (by rw [G.sc]; exact isLoc_ok h3) (by rw [G.sc]; exact isLoc_ok h4)
        (es_cons ((chkE_ok O.ok h6).1 vne) (es_cons ((chkE_ok O.ok h7).1 vne) es_nil (bnot h9)) (bnot h8)) ?_) fun D σ H h => par_imp h
      rw [ss_some G.sc O.kind (bnot h10) (bnot h11), of_decide_eq_true h12]
  | .unp t c, st, h => by
    have h : (match asgT st with
    | some (ts, k1, p1, e, _) => chkG ck.N sc (fun _ => true) (List.range ck.N.length) t (.Tuple ts k1 p1) && chkE ck sc (fun _ => true) .v c e && plainSt sc ts e
    | none => false) = true := h
    split at h <;> try cases h
    · rename_i ts k1 p1 e pos hq
      have hst := asgT_some hq
      dsimp only at hst
      subst hst
      obtain ⟨h, h3⟩ := and2 (a := chkG ck.N sc (fun _ => true) (List.range ck.N.length) t (.Tuple ts k1 p1) && chkE ck sc (fun _ => true) .v c e) h
      obtain ⟨h1, h2⟩ := and2 h
      exact PS.imp (ps_asg ((chkE_ok O.ok h2).1 vne) (chkG_ok O.ok.gd O.ok.fF h1) (swaps_sole rfl) (ss_plain O.ok.gd.sc O.kind h3) rfl) fun D σ H h => unp_imp h
  | .app i c, st, h => by
    have h : (match mthN st with
    | some (x, _, a, apos, e, cpos, _) => decide (ck.N[i]? = some x) && decide (a = "append") && visB sc x && nameB x && chkE ck sc (fun _ => true) .v c e && !starB e && apos.endLine == cpos.line
    | none => false) = true := h
    split at h <;> try cases h
    · rename_i x p a apos e cpos pos hq
      have hst := mthN_some hq
      dsimp only at hst
      subst hst
      obtain ⟨h, h7⟩ := and2 (a := decide (ck.N[i]? = some x) && decide (a = "append") && visB sc x && nameB x && chkE ck sc (fun _ => true) .v c e && !starB e) h
      obtain ⟨h, h6⟩ := and2 h
      obtain ⟨h, h5⟩ := and2 h
      obtain ⟨h, h4⟩ := and2 h
      obtain ⟨h, h3⟩ := and2 h
      obtain ⟨h1, h2⟩ := and2 h
      cases of_decide_eq_true h2
      exact PS.imp (ps_expr (mth_pe O.ok PySem.F.slot_list_append PySem.F.type_list_append mt_append (of_decide_eq_true h1) h3 h4 h5 (bnot h6) h7) rfl) fun D σ H h => app_imp h
  | .ext i c, st, h => by
    have h : (match mthN st with
    | some (x, _, a, apos, e, cpos, _) => decide (ck.N[i]? = some x) && decide (a = "extend") && visB sc x && nameB x && chkE ck sc (fun _ => true) .v c e && !starB e && apos.endLine == cpos.line
    | none => false) = true := h
    split at h <;> try cases h
    · rename_i x p a apos e cpos pos hq
      have hst := mthN_some hq
      dsimp only at hst
      subst hst
      obtain ⟨h, h7⟩ := and2 (a := decide (ck.N[i]? = some x) && decide (a = "extend") && visB sc x && nameB x && chkE ck sc (fun _ => true) .v c e && !starB e) h
      obtain ⟨h, h6⟩ := and2 h
      obtain ⟨h, h5⟩ := and2 h
      obtain ⟨h, h4⟩ := and2 h
      obtain ⟨h, h3⟩ := and2 h
      obtain ⟨h1, h2⟩ := and2 h
      cases of_decide_eq_true h2
      exact PS.imp (ps_expr (mth_pe O.ok PySem.F.slot_list_extend PySem.F.type_list_extend mt_extend (of_decide_eq_true h1) h3 h4 h5 (bnot h6) h7) rfl) fun D σ H h => ext_imp h
  | .sub i kk c, st, h => by
    have h : (match asgI st with
    | some (x, _, ek, _, e, _) => decide (ck.N[i]? = some x) && visB sc x && nameB x && chkE ck sc (fun _ => true) .r kk ek && chkE ck sc (fun _ => true) .v c e && swOk e && !sliceB ek
    | none => false) = true := h
    split at h <;> try cases h
    · rename_i x p ek p2 e pos hq
      have hst := asgI_some hq
      dsimp only at hst
      subst hst
      obtain ⟨h, h7⟩ := and2 (a := decide (ck.N[i]? = some x) && visB sc x && nameB x && chkE ck sc (fun _ => true) .r kk ek && chkE ck sc (fun _ => true) .v c e && swOk e) h
      obtain ⟨h, h6⟩ := and2 h
      obtain ⟨h, h5⟩ := and2 h
      obtain ⟨h, h4⟩ := and2 h
      obtain ⟨h, h3⟩ := and2 h
      obtain ⟨h1, h2⟩ := and2 h
      refine PS.imp (ps_asg ((chkE_ok O.ok h5).1 vne) (pg_sub (e_adr O.ok.gd (of_decide_eq_true h1) h2 h3) ((chkE_ok O.ok h4).1 rne) set_list (fun _ => ?_)) (swaps_sole rfl) ?_ rfl) fun D σ H h => sub_imp h
      · have h8 := bnot h7
        dsimp only at h8
        cases ek <;> first | rfl | cases h8
      · cases e <;> rfl
  | .aug i o c, st, h => by
    have h : (match augOf st with
    | some (x, _, p, e, _) => decide (ck.N[i]? = some x) && stB sc (fun _ => true) x && chkE ck sc (fun _ => true) .r c e && opB o p && augO o
    | none => false) = true := h
    split at h <;> try cases h
    · rename_i x p2 p e pos hq
      have hst := augOf_some hq
      dsimp only at hst
      subst hst
      obtain ⟨h, h5⟩ := and2 (a := decide (ck.N[i]? = some x) && stB sc (fun _ => true) x && chkE ck sc (fun _ => true) .r c e && opB o p) h
      obtain ⟨h, h4⟩ := and2 h
      obtain ⟨h, h3⟩ := and2 h
      obtain ⟨h1, h2⟩ := and2 h
      have G := O.ok.gd
      obtain ⟨q1, q2⟩ := sto_of G O.ok.fF h2
      have pc := (chkE_ok O.ok h3).1 rne
      cases o with
      | add =>
        cases opB_ok h4
        exact PS.imp (ps_aug (by rw [G.hN]; exact G.nd) (by rw [G.hN]; exact of_decide_eq_true h1) q1 pc ip_add q2) fun D σ H h => aug_imp (f := fun i j => i + j) (fun x y z h => by cases h; rfl) h
      | sub =>
        cases opB_ok h4
        exact PS.imp (ps_aug (by rw [G.hN]; exact G.nd) (by rw [G.hN]; exact of_decide_eq_true h1) q1 pc ip_sub q2) fun D σ H h => aug_imp (f := fun i j => i - j) (fun x y z h => by cases h; rfl) h
      | _ => cases h5
  | .ret c, st, h => by
    cases st with
    | Return v pos =>
      cases v with
      | none => cases h
      | some e => exact s_ret ((chkEL_ok O (m := .v) (c := c) (e := e) h).1 vne)
    | _ => cases h
  | .ife c a b, st, h => by
    cases st with
    | If e sa sb pos =>
      obtain ⟨h, h3⟩ := and2 (a := chkEL ck sc (fun _ => true) .t c e && chkSs ck sc a sa) h
      obtain ⟨h1, h2⟩ := and2 h
      exact PS.imp (ps_if ((chkEL_ok O h1).2 rfl).1 (chkSs_ok O h2) (chkSs_ok O h3)) fun D σ H h => ife_imp h
    | _ => cases h
  | .for_ t kd as b, st, h => by
    cases st with
    | For tg it sb oe pos =>
      cases oe with
      | cons _ _ => cases h
      | nil =>
        obtain ⟨h, h4⟩ := and2 (a := chkG ck.N sc (fun _ => true) (List.range ck.N.length) t tg && chkI ck sc (fun _ => true) .v kd as tg it && notSet it) h
        obtain ⟨h, h3⟩ := and2 h
        obtain ⟨h1, h2⟩ := and2 h
        exact PS.imp (ps_for O.own O.ok.gd.calm (chkI_ok O.ok vne h2) (chkG_ok O.ok.gd O.ok.fF h1) (chkSs_ok O h4) (fold_set h3)) fun D σ H h => for_imp h
    | _ => cases h
  | .whl c b, st, h => by
    cases st with
    | While e sb oe pos =>
      cases oe with
      | cons _ _ => cases h
      | nil =>
        obtain ⟨h1, h2⟩ := and2 (a := chkE ck sc (fun _ => true) .t c e) h
        exact PS.imp (ps_while O.own ((chkE_ok O.ok h1).2 rfl).1 (chkSs_ok O h2)) fun D σ H h => whl_imp h
    | _ => cases h
  | .ex c, st, h => by
    cases st with
    | Expr e pos =>
      obtain ⟨h1, h2⟩ := and2 (a := notComp e) h
      exact PS.imp (ps_expr ((chkE_ok O.ok h2).1 rne) (swaps_not h1)) fun D σ H h => ex_imp h
    | _ => cases h
  | .cont, st, h => by
    cases st with
    | Continue pos => exact s_cont
    | _ => cases h
  | .brk, st, h => by
    cases st with
    | Break pos => exact s_brk
    | _ => cases h
  | .pass, st, h => by
    cases st with
    | Pass pos => exact s_pass ps_pass
    | Expr e pos =>
      obtain ⟨x, j, p, rfl⟩ := strC_some (e := e) h
      exact s_pass ps_doc
    | _ => cases h
  | .bad, st, h => ps_bad
  | .try_ b c s, st, h => by
    cases st with
    | Try sb hs oe fb pos =>
      cases hs with
      | nil => cases h
      | cons h0 hs =>
        cases oe with
        | cons _ _ => cases h
        | nil =>
          cases fb with
          | cons _ _ => cases h
          | nil => exact PS.imp (ps_try_thru0 (chkSs_ok O.nox (ss := b) (sts := sb) h)) fun D σ H h => try_imp h
    | _ => cases h
  | .swp i k1 k2 c1 c2, st, h => by
    replace h : (match asgT st with
    | some (ts, _, _, e, _) => match two ts with
      | some (t1, t2) => match subN t1, subN t2 with
        | some (x, _, ek1, _), some (y, _, ek2, _) => decide (ck.N[i]? = some x) && decide (ck.N[i]? = some y) && visB sc x && visB sc y && nameB x && nameB y && !sliceB ek1 && !sliceB ek2 && chkE ck sc (fun _ => true) .r k1 ek1 && chkE ck sc (fun _ => true) .r k2 ek2 && chkE ck sc (fun _ => true) .v (.tup (.cons c1 (.cons c2 .nil))) e && plainSt sc ts e
        | _, _ => false
      | none => false
    | none => false) = true := h
    cases hq : asgT st with
    | none => rw [hq] at h; cases h
    | some v =>
      rw [hq] at h
      obtain ⟨ts, kk1, p1, e, pos⟩ := v
      have hst := asgT_some hq
      dsimp only at hst h
      subst hst
      cases hq2 : two ts with
      | none => rw [hq2] at h; cases h
      | some v2 =>
        rw [hq2] at h
        obtain ⟨t1, t2⟩ := v2
        have ht := two_some hq2
        dsimp only at ht h
        subst ht
        cases hq3 : subN t1 with
        | none => rw [hq3] at h; cases h
        | some v3 =>
          cases hq4 : subN t2 with
          | none => rw [hq3, hq4] at h; cases h
          | some v4 =>
            rw [hq3, hq4] at h
            obtain ⟨x, px, ek1, q1⟩ := v3
            obtain ⟨y, py, ek2, q2⟩ := v4
            have e3 := subN_some hq3
            have e4 := subN_some hq4
            dsimp only at e3 e4 h
            subst e3 e4
            obtain ⟨h, h12⟩ := and2 h
            obtain ⟨h, h11⟩ := and2 h
            obtain ⟨h, h10⟩ := and2 h
            obtain ⟨h, h9⟩ := and2 h
            obtain ⟨h, h8⟩ := and2 h
            obtain ⟨h, h7⟩ := and2 h
            obtain ⟨h, h6⟩ := and2 h
            obtain ⟨h, h5⟩ := and2 h
            obtain ⟨h, h4⟩ := and2 h
            obtain ⟨h, h3⟩ := and2 h
            obtain ⟨h1, h2⟩ := and2 h
            have b7 := bnot h7
            have b8 := bnot h8
            have g1 := pg_sub (pos := q1) (e_adr (pos := px) O.ok.gd (of_decide_eq_true h1) h3 h5) ((chkE_ok O.ok h9).1 rne) set_list (fun _ => by cases ek1 <;> first | rfl | cases b7)
            have g2 := pg_sub (pos := q2) (e_adr (pos := py) O.ok.gd (of_decide_eq_true h2) h4 h6) ((chkE_ok O.ok h10).1 rne) set_list (fun _ => by cases ek2 <;> first | rfl | cases b8)
            exact PS.imp (ps_asg ((chkE_ok O.ok h11).1 vne) (pg_tup (n := 2) O.ok.gd.calm (pgs_cons g1 (pgs_cons g2 pgs_nil (by rw [each_star rfl] <;> rfl)) (by rw [each_star rfl] <;> rfl)) rfl rfl) (swaps_sole rfl) (ss_plain O.ok.gd.sc O.kind h12) rfl) fun D σ H h => swp_imp h
  | .setD0 i b, st, h => by
    replace h : (match asgN st with
    | some (x, _, e, _) => decide (ck.N[i]? = some x) && stB sc (fun _ => true) x && emptyD e
    | none => false) = true := h
    cases hq : asgN st with
    | none => rw [hq] at h; cases h
    | some v =>
      rw [hq] at h
      obtain ⟨x, px, e, pos⟩ := v
      have hst := asgN_some hq
      dsimp only at hst h
      subst hst
      obtain ⟨h, h3⟩ := and2 h
      obtain ⟨h1, h2⟩ := and2 h
      obtain ⟨p, rfl⟩ := emptyD_some h3
      cases b with
      | true => exact PS.imp (set_plain O (of_decide_eq_true h1) h2 rfl rfl pe_dnewK) fun D σ H h => setD0K_imp h
      | false => exact PS.imp (set_plain O (of_decide_eq_true h1) h2 rfl rfl pe_dnewX) fun D σ H h => setD0T_imp h
  | .setD i ks vs, st, h => by
    match ks, vs, h with
    | .cons kk .nil, .cons c .nil, hz =>
      clear h
      have h : (match asgN st with
      | some (x, _, e, _) => match dispOf e with
        | some (ek, ev, _) => decide (ck.N[i]? = some x) && stB sc (fun _ => true) x && chkE ck sc (fun _ => true) .r kk ek && chkE ck sc (fun _ => true) .v c ev
        | none => false
      | none => false) = true := hz
      clear hz
      cases hq : asgN st with
      | none => rw [hq] at h; cases h
      | some v =>
        rw [hq] at h
        obtain ⟨x, px, e, pos⟩ := v
        have hst := asgN_some hq
        dsimp only at hst h
        subst hst
        cases hq2 : dispOf e with
        | none => rw [hq2] at h; cases h
        | some v2 =>
          rw [hq2] at h
          obtain ⟨ek, ev, p⟩ := v2
          have he := dispOf_some hq2
          dsimp only at he h
          subst he
          obtain ⟨h, h4⟩ := and2 h
          obtain ⟨h, h3⟩ := and2 h
          obtain ⟨h1, h2⟩ := and2 h
          cases ht : isTupC kk with
          | true => exact PS.imp (set_plain O (of_decide_eq_true h1) h2 rfl rfl (pe_disp1X (by have := O.ok.gd.hu; omega) ((chkE_ok O.ok h3).1 rne) ((chkE_ok O.ok h4).1 vne))) fun D σ H h => setDT_imp ht h
          | false => exact PS.imp (set_plain O (of_decide_eq_true h1) h2 rfl rfl (pe_disp (pps_cons ((chkE_ok O.ok h3).1 rne) ((chkE_ok O.ok h4).1 vne) pps_nil) rfl rfl (by simp) (by simp))) fun D σ H h => setD_imp ht h
  | .dput i kk c, st, h => by
    replace h : (match asgI st with
    | some (x, _, ek, _, e, _) => decide (ck.N[i]? = some x) && visB sc x && nameB x && chkE ck sc (fun _ => true) .r kk ek && chkE ck sc (fun _ => true) .v c e && notComp e
    | none => false) = true := h
    cases hq : asgI st with
    | none => rw [hq] at h; cases h
    | some v =>
      rw [hq] at h
      obtain ⟨x, p, ek, p2, e, pos⟩ := v
      have hst := asgI_some hq
      dsimp only at hst h
      subst hst
      obtain ⟨h, h6⟩ := and2 h
      obtain ⟨h, h5⟩ := and2 h
      obtain ⟨h, h4⟩ := and2 h
      obtain ⟨h, h3⟩ := and2 h
      obtain ⟨h1, h2⟩ := and2 h
      exact PS.imp (ps_dputX (by have := O.ok.gd.hu; omega) (e_adr O.ok.gd (of_decide_eq_true h1) h2 h3) ((chkE_ok O.ok h4).1 rne) ((chkE_ok O.ok h5).1 vne) (swaps_not h6)) fun D σ H h => dput_imp h
  | .tput i f c, st, h => by
    have h : (match asgI st with
    | some (x, _, ek, _, e, _) => decide (ck.N[i]? = some x) && visB sc x && nameB x && strK (tfName f) ek && chkE ck sc (fun _ => true) .v c e && notComp e
    | none => false) = true := h
    split at h <;> try cases h
    · rename_i x p ek p2 e pos hq
      have hst := asgI_some hq
      dsimp only at hst
      subst hst
      obtain ⟨h, h6⟩ := and2 (a := decide (ck.N[i]? = some x) && visB sc x && nameB x && strK (tfName f) ek && chkE ck sc (fun _ => true) .v c e) h
      obtain ⟨h, h5⟩ := and2 h
      obtain ⟨h, h4⟩ := and2 h
      obtain ⟨h, h3⟩ := and2 h
      obtain ⟨h1, h2⟩ := and2 h
      obtain ⟨jj, pp, rfl⟩ := strK_some h4
      exact PS.imp (ps_dput (by have := O.ok.gd.hu; omega) (e_adr O.ok.gd (of_decide_eq_true h1) h2 h3) pe_str ((chkE_ok O.ok h5).1 vne) (swaps_not h6)) fun D σ H h => tput_imp h
  | .raise _, st, h => chkRaise_ok O h
  | .frz _, st, h => by cases h
theorem chkSs_ok {X : Cx} {E : XK} (O : Osx g Γ X ck sc k E) : ∀ {ss : Ss} {sts : List Stmt}, chkSs ck sc ss sts = true → PSs X sts (rdXs g X E Γ n ss)
  | .nil, sts, h => by
    cases empty_nil h
    exact s_nil
  | .cons s ss, sts, h => by
    by_cases hs : ∃ i, s = .frz i
    · obtain ⟨i, rfl⟩ := hs
      exact s_frz (chkSs_ok O h)
    · cases sts with
      | nil => cases s <;> first | (cases h; done) | exact absurd ⟨_, rfl⟩ hs
      | cons st sts =>
        have h : (chkS ck sc s st && chkSs ck sc ss sts) = true := by
          cases s <;> first | exact h | exact absurd ⟨_, rfl⟩ hs
        obtain ⟨h1, h2⟩ := and2 h
        exact s_cons (chkS_ok O h1) (chkSs_ok O h2)
end
end
end Q

set_option Elab.async false
set_option linter.all false
set_option maxRecDepth 100000
namespace Q
open PySem PySem.Spec L2
open PyProof.Rows hiding St
/-! ### defs -/
structure Df where
  ps : List Str
  N : List Str
  ss : Ss
inductive Ent where
  | code (d : Df) | fn (n k0 : Nat) (f : List B → Tp → Out D)
def finO : SO → Out D
  | .rt d t => .ok d t
  | .nx _ t => .ok .none t
  | .exc c t => .exc c t
  | _ => .bad
def callC (es : List Ent) (gl : Str → Option D) (fuel : Nat) : Nat → Nat → List B → Tp → Out D
  | 0, _, _, _ => .bad
  | k + 1, f, bs, tp => match es[f]? with
    | some (.code d) => match Nat.beq bs.length d.ps.length with
      | true => finO (exSs ⟨callC es gl fuel k, gl⟩ fuel d.ss (bs ++ List.replicate (d.N.length - bs.length) .un) tp)
      | false => .bad
    | some (.fn n k0 h) => match Nat.beq bs.length n with
      | true => (match Nat.ble k0 (k + 1) with
        | true => h bs tp
        | false => .bad)
      | false => .bad
    | none => .bad
section
variable {g : G} {P : Program} {w : PySem.World} {K : PySem.W.Frag} {mg : Str → Option Value} {base : Heap} {es : List Ent} {names : List Str} {gl : Str → Option D} {fuel : Nat} {free glo : Str → Bool} {cx : CkX}
/-- what is told of a def -/
def EntOk (g : G) (P : Program) (w : PySem.World) (K : PySem.W.Frag) (mg : Str → Option Value) (base : Heap) (names : List Str) (free glo : Str → Bool) (cx : CkX) (x : Str) : Ent → Prop
  | .code d => ∃ (fa : Addr) (fd : FuncData) (y qual : Str) (params : Arguments) (body : List Stmt) (scope : Scope), mg x = some (.ref fa) ∧ FunD K y qual params body scope [] [] fa fd ∧ L2.Binds K fd d.ps [] ∧ FnScope d.N d.ps scope ∧ chkSs ⟨d.N, names, free, glo, cx.no⟩ scope d.ss body = true
  | .fn n k0 h => ∃ (fa : Addr) (fd : FuncData) (ps : List Str), mg x = some (.ref fa) ∧ PySem.W.keepIn K (.ref fa) = true ∧ L2.Binds K fd ps [] ∧ ps.length = n ∧ ∀ k, k0 ≤ k + 1 → FnOk P w K mg base (L2.CX P w) (k + 1) fa fd ps (spD g K n h)
def FnsAt (g : G) (Γ : Sm) (P : Program) (w : PySem.World) (K : PySem.W.Frag) (mg : Str → Option Value) (base : Heap) (k : Nat) (names : List Str) : Prop :=
  ∀ (f : Nat) (x : Str), names[f]? = some x → ∃ (fa : Addr) (fd : FuncData) (ps : List Str), mg x = some (.ref fa) ∧ PySem.W.keepIn K (.ref fa) = true ∧ L2.Binds K fd ps [] ∧
    FnOk P w K mg base (L2.CX P w) k fa fd ps (spD g K ps.length (Γ.call f)) ∧ ∀ bs tp, bs.length ≠ ps.length → Γ.call f bs tp = .bad
theorem start_ok {F : Addr → Prop} {ta ca : Addr} {H : Hp} {tp : Tp} {vs : List V} {bs : List B} {N : List Str} (wd : World g F ta ca H tp) (as : ArgsOk K F ta H vs bs) (no : bs.all (fun b => !isOwn b) = true) :
    EnvOk g K F ta ca H (L2.start N vs) (bs ++ List.replicate (N.length - bs.length) .un) tp := by
  have hl := as.length
  have hg : ∀ i, i < bs.length → getB (bs ++ List.replicate (N.length - bs.length) .un) i = (bs[i]?).getD .un := fun i hi => by
    unfold getB
    rw [List.getElem?_append_left hi]
  have hu : ∀ i, ¬ i < bs.length → getB (bs ++ List.replicate (N.length - bs.length) .un) i = .un := fun i hi => by
    unfold getB
    rw [List.getElem?_append_right (by omega), List.getElem?_replicate]
    split <;> rfl
  have ow : ∀ i, isOwn (getB (bs ++ List.replicate (N.length - bs.length) .un) i) = false := fun i => by
    by_cases hi : i < bs.length
    · rw [hg i hi]
      rw [List.getElem?_eq_getElem hi]
      have := List.all_eq_true.mp no bs[i] (List.getElem_mem hi)
      simpa using this
    · rw [hu i hi]
      rfl
  have arg : ∀ {vs : List V} {bs : List B}, ArgsOk K F ta H vs bs → ∀ (i : Nat) (b : B), bs[i]? = some b → ∃ v, vs[i]? = some v ∧ ArgOk K F ta H v b := fun {vs bs} a => by
    induction a with
    | nil => intro i b h; simp at h
    | cons a _ ih =>
      intro i b h
      cases i with
      | zero =>
        have h := Option.some.inj h
        subst h
        exact ⟨_, rfl, a⟩
      | succ i => exact ih i b h
  refine ⟨?_, wd, fun i => ?_, fun i j a h1 _ _ _ => by rw [ow i] at h1; cases h1⟩
  · unfold L2.start
    rw [List.length_append, List.length_append, List.length_map, List.length_replicate, List.length_replicate, hl]
  · by_cases hi : i < bs.length
    · rw [hg i hi]
      have hb : bs[i]? = some bs[i] := List.getElem?_eq_getElem hi
      rw [hb]
      obtain ⟨v, hv, ha⟩ := arg as i _ hb
      have hs : (L2.start N vs)[i]? = some (some v) := by
        unfold L2.start
        rw [List.getElem?_append_left (by rw [List.length_map, hl]; exact hi), List.getElem?_map, hv]
        rfl
      show SlotOk K F ta H (L2.start N vs) i bs[i]
      cases q : bs[i] with
      | un => trivial
      | val d =>
        rw [q] at ha
        exact ⟨v, hs, ha⟩
      | own ds =>
        have := List.all_eq_true.mp no bs[i] (List.getElem_mem hi)
        rw [q] at this
        cases this
      | owd kb k =>
        have := List.all_eq_true.mp no bs[i] (List.getElem_mem hi)
        rw [q] at this
        cases this
      | tape =>
        rw [q] at ha
        have ha : v = .ref ta := ha
        rw [ha] at hs
        exact hs
    · rw [hu i hi]
      trivial
theorem code_ok {k f : Nat} {d : Df} {fa : Addr} {fd : FuncData} {y qual : Str} {params : Arguments} {body : List Stmt} {scope : Scope} (hfree : ∀ x, free x = true → mg x = none) (hglo : ∀ x, glo x = true → ∃ v u d, mg x = some u ∧ RelV v u ∧ (∀ H F, Rep K H F v d) ∧ gl x = some d) (hexc : ∀ c x, cx.exc[c]? = some x → ExO g mg K c x)
    (ih : FnsAt g ⟨callC es gl fuel k, gl⟩ P w K mg base k names) (h1 : es[f]? = some (.code d)) (m2 : FunD K y qual params body scope [] [] fa fd) (m4 : FnScope d.N d.ps scope) (m5 : chkSs ⟨d.N, names, free, glo, cx.no⟩ scope d.ss body = true) :
    FnOk P w K mg base (L2.CX P w) (k + 1) fa fd d.ps (spD g K d.ps.length (callC es gl fuel (k + 1) f)) := by
  refine m2.ok m4 (fun vs H Q E h => ?_) fun cdv A outer s H vs Q E hr q => ?_
  · obtain ⟨F, ta, ca, bs, tp, hl, _⟩ := h
    exact hl
  · have O : Osx g ⟨callC es gl fuel k, gl⟩ (cxOf (L2.CX P w) P w K mg base d.N qual scope fa cdv A outer s H E) ⟨d.N, names, free, glo, cx.no⟩ scope k E :=
      ⟨⟨⟨rfl, m4.nd, rfl, rfl, hr⟩, fun _ _ => rfl, takes_of rfl rfl rfl rfl, ih, hfree, hglo⟩, passes_of rfl, m4.kind, hexc, fun h => by cases h⟩
    refine ⟨_, chkSs_ok (n := fuel) O m5, ?_⟩
    obtain ⟨F, ta, ca, bs, tp, hl, wd, as, no, q⟩ := q
    have hb : bs.length = d.ps.length := by rw [← as.length, hl]
    have q : (match callC es gl fuel (k + 1) f bs tp with
      | .ok d tp' => ∀ v H', Ext ta H H' → World g F ta ca H' tp' → Rep K H' F v d → Q v H'
      | .exc c tp' => ∀ H', Ext ta H H' → World g F ta ca H' tp' → E (g.cls c) none H'
      | .bad => False) := q
    unfold callC at q
    rw [h1] at q
    have e1 : Nat.beq bs.length d.ps.length = true := by rw [hb]; exact Nat.beq_refl _
    simp only [e1] at q
    have E0 := start_ok (N := d.N) wd as no
    refine ⟨F, H, [], F, ta, ca, _, tp, ⟨E0, fun a z => z, wd.hta, fun a z => .inl z, fun i a ho _ => ?_, .refl _ _ _, fun b hb => by cases hb⟩, ?_⟩
    · exfalso
      unfold getB at ho
      by_cases hi : i < bs.length
      · rw [List.getElem?_append_left hi, List.getElem?_eq_getElem hi] at ho
        have := List.all_eq_true.mp no bs[i] (List.getElem_mem hi)
        have ho : isOwn bs[i] = true := ho
        rw [ho] at this
        cases this
      · rw [List.getElem?_append_right (by omega), List.getElem?_replicate] at ho
        split at ho <;> cases ho
    · cases z : exSs ⟨callC es gl fuel k, gl⟩ fuel d.ss (bs ++ List.replicate (d.N.length - bs.length) .un) tp with
      | nx env t =>
        rw [z] at q
        intro F1 σ1 H1 s1
        exact q .non H1 s1.ext (s1.E.wd.sub s1.sub s1.hta) .non
      | rt d2 t =>
        rw [z] at q
        exact fun v H1 e w r => q v H1 e w r
      | br env t => rw [z] at q; exact q.elim
      | ct env t => rw [z] at q; exact q.elim
      | exc c t =>
        rw [z] at q
        exact fun H1 e w => q H1 e w
      | bad => rw [z] at q; exact q.elim
theorem fns_ok (hfree : ∀ x, free x = true → mg x = none) (hglo : ∀ x, glo x = true → ∃ v u d, mg x = some u ∧ RelV v u ∧ (∀ H F, Rep K H F v d) ∧ gl x = some d) (hexc : ∀ c x, cx.exc[c]? = some x → ExO g mg K c x)
    (he : ∀ (f : Nat) (x : Str), names[f]? = some x → ∃ e, es[f]? = some e ∧ EntOk g P w K mg base names free glo cx x e) : ∀ k, FnsAt g ⟨callC es gl fuel k, gl⟩ P w K mg base k names
  | 0 => fun f x hx => by
    obtain ⟨e, h1, h2⟩ := he f x hx
    have triv : ∀ {fa fd ps}, FnOk P w K mg base (L2.CX P w) 0 fa fd ps (spD g K ps.length (callC es gl fuel 0 f)) := ⟨fun vs H Q E h => by
      obtain ⟨F, ta, ca, bs, tp, hl, _⟩ := h
      exact hl, fun A outer s H args us vs Q E hr e1 bt hv q => by
      obtain ⟨F, ta, ca, bs, tp, hl, _, _, _, h⟩ := q
      exact h.elim⟩
    cases e with
    | code d =>
      obtain ⟨fa, fd, y, qual, params, body, scope, m1, m2, m3, m4, m5⟩ := h2
      exact ⟨fa, fd, d.ps, m1, m2.kp, m3, triv, fun bs tp _ => rfl⟩
    | fn n k0 h =>
      obtain ⟨fa, fd, ps, m1, m2, m3, m4, m5⟩ := h2
      exact ⟨fa, fd, ps, m1, m2, m3, triv, fun bs tp _ => rfl⟩
  | k + 1 => fun f x hx => by
    have ih := fns_ok hfree hglo hexc he k
    obtain ⟨e, h1, h2⟩ := he f x hx
    cases e with
    | fn n k0 h =>
      obtain ⟨fa, fd, ps, m1, m2, m3, m4, m5⟩ := h2
      refine ⟨fa, fd, ps, m1, m2, m3, ?_, fun bs tp hb => ?_⟩
      · cases hk : Nat.ble k0 (k + 1) with
        | false =>
          have bad : ∀ {vs : List V} {H : Hp} {Q : VK} {E : XK}, spD g K ps.length (callC es gl fuel (k + 1) f) vs H Q E → False := fun {vs H Q E} q => by
            obtain ⟨F, ta, ca, bs, tp, hl, wd, as, no, q⟩ := q
            have hb : bs.length = n := by rw [← as.length, hl, m4]
            have q : (match callC es gl fuel (k + 1) f bs tp with
              | .ok d tp' => ∀ v H', Ext ta H H' → World g F ta ca H' tp' → Rep K H' F v d → Q v H'
              | .exc c tp' => ∀ H', Ext ta H H' → World g F ta ca H' tp' → E (g.cls c) none H'
              | .bad => False) := q
            unfold callC at q
            rw [h1] at q
            have e1 : Nat.beq bs.length n = true := by rw [hb]; exact Nat.beq_refl n
            simp only [e1, hk] at q
          exact ⟨fun vs H Q E q => (bad q).elim, fun A outer s H args us vs Q E hr e1 bt hv q => (bad q).elim⟩
        | true =>
        refine (m5 k (Nat.le_of_ble_eq_true hk)).imp fun vs H Q E q => ?_
        obtain ⟨F, ta, ca, bs, tp, hl, wd, as, no, q⟩ := q
        refine ⟨F, ta, ca, bs, tp, by rw [← m4]; exact hl, wd, as, no, ?_⟩
        have hb : bs.length = n := by rw [← as.length, hl, m4]
        have q : (match callC es gl fuel (k + 1) f bs tp with
          | .ok d tp' => ∀ v H', Ext ta H H' → World g F ta ca H' tp' → Rep K H' F v d → Q v H'
          | .exc c tp' => ∀ H', Ext ta H H' → World g F ta ca H' tp' → E (g.cls c) none H'
          | .bad => False) := q
        unfold callC at q
        rw [h1] at q
        have e1 : Nat.beq bs.length n = true := by rw [hb]; exact Nat.beq_refl n
        simp only [e1, hk] at q
        exact q
      · show callC es gl fuel (k + 1) f bs tp = .bad
        unfold callC
        rw [h1]
        have e1 : Nat.beq bs.length n = false := by
          rw [m4] at hb
          cases q : Nat.beq bs.length n with
          | false => rfl
          | true => exact absurd (Nat.eq_of_beq_eq_true q) hb
        simp only [e1]
    | code d =>
      obtain ⟨fa, fd, y, qual, params, body, scope, m1, m2, m3, m4, m5⟩ := h2
      refine ⟨fa, fd, d.ps, m1, m2.kp, m3, code_ok hfree hglo hexc ih h1 m2 m4 m5, fun bs tp hb => ?_⟩
      · show callC es gl fuel (k + 1) f bs tp = .bad
        unfold callC
        rw [h1]
        have e1 : Nat.beq bs.length d.ps.length = false := by
          cases q : Nat.beq bs.length d.ps.length with
          | false => rfl
          | true => exact absurd (Nat.eq_of_beq_eq_true q) hb
        simp only [e1]
/-- a def may be told by what it computes, from a depth of calls on -/
theorem mirror_ok {f n k0 : Nat} {x : Str} {d : Df} {h : List B → Tp → Out D} (hfree : ∀ x, free x = true → mg x = none) (hglo : ∀ x, glo x = true → ∃ v u d, mg x = some u ∧ RelV v u ∧ (∀ H F, Rep K H F v d) ∧ gl x = some d) (hexc : ∀ c x, cx.exc[c]? = some x → ExO g mg K c x)
    (he : ∀ (f : Nat) (x : Str), names[f]? = some x → ∃ e, es[f]? = some e ∧ EntOk g P w K mg base names free glo cx x e) (hx : names[f]? = some x) (h1 : es[f]? = some (.code d)) (hn : d.ps.length = n)
    (hm : ∀ k, k0 ≤ k + 1 → ∀ bs tp, h bs tp = .bad ∨ callC es gl fuel (k + 1) f bs tp = h bs tp) : EntOk g P w K mg base names free glo cx x (.fn n k0 h) := by
  obtain ⟨e, e1, e2⟩ := he f x hx
  rw [h1] at e1
  cases e1
  obtain ⟨fa, fd, y, qual, params, body, scope, m1, m2, m3, m4, m5⟩ := e2
  refine ⟨fa, fd, d.ps, m1, m2.kp, m3, hn, fun k hk => (code_ok (fuel := fuel) hfree hglo hexc (fns_ok hfree hglo hexc he k) h1 m2 m4 m5).imp fun vs H Q E q => ?_⟩
  obtain ⟨F, ta, ca, bs, tp, hl, wd, as, no, q⟩ := q
  refine ⟨F, ta, ca, bs, tp, by rw [hn]; exact hl, wd, as, no, ?_⟩
  rcases hm k hk bs tp with z | z
  · rw [z] at q
    exact q.elim
  · rw [z]
    exact q
end
end Q

set_option Elab.async false
set_option linter.all false
set_option maxRecDepth 100000
namespace Q
open PySem PySem.Spec L2
open PyProof.Rows hiding St
def topT (i : Nat) : Stmt := PySem.Challenge.pw_oddsinfull_k01_shares_and_equations.main.body.getD i (.Pass ⟨0, 0, 0, 0⟩)
abbrev sTape : Stmt := topT 23
def absI (i : Int) : Int := if i < 0 then -i else i
def seedOf (cs : List Int) : Int := cs.foldl (fun s c => (s * 31 + c) % 2147483647) 7
def tpOf (ns : List Int) : Tp := ⟨ns.map absI, 0, 0, seedOf (ns.map absI), 0⟩
def spTape (K : PySem.W.Frag) : Sp := fun vs H Q _ => ∃ (a : Addr) (ns : List Int), vs = [.ref a] ∧ SqL K H a (ns.map V.int) ∧ ns.length ≤ 63 ∧
  ∀ (ta ca : Addr) (H' : Hp), ta ≠ ca → H ta = none → H ca = none → H' ta = some (.dK (tapeK ca (tpOf ns))) → H' ca = some (.lst ((tpOf ns).cells.map V.int)) → (∀ b o, H b = some o → H' b = some o) → Q (.ref ta) H'
theorem seed_rng (l : List Int) : 0 ≤ seedOf l ∧ seedOf l < 2147483648 := by
  unfold seedOf
  have key : ∀ (l : List Int) (s : Int), 0 ≤ s ∧ s < 2147483648 → 0 ≤ l.foldl (fun s c => (s * 31 + c) % 2147483647) s ∧ l.foldl (fun s c => (s * 31 + c) % 2147483647) s < 2147483648 := by
    intro l
    induction l with
    | nil => intro s h; exact h
    | cons c l ih =>
      intro s _
      refine ih ((s * 31 + c) % 2147483647) ⟨Int.emod_nonneg _ (by decide), ?_⟩
      have := Int.emod_lt_of_pos (s * 31 + c) (show (0 : Int) < 2147483647 by decide)
      omega
  exact key l 7 (by decide)
theorem merge_tape (ca : Addr) (tp : Tp) : mergeK [] (tapeK ca tp) = tapeK ca tp := by
  rw [tapeK_eq]
  simp [mergeK, putK, dec_ne (show TF.cells ≠ TF.at from nofun), dec_ne (show TF.cells ≠ TF.left from nofun), dec_ne (show TF.cells ≠ TF.seed from nofun), dec_ne (show TF.cells ≠ TF.salt from nofun),
    dec_ne (show TF.at ≠ TF.left from nofun), dec_ne (show TF.at ≠ TF.seed from nofun), dec_ne (show TF.at ≠ TF.salt from nofun), dec_ne (show TF.left ≠ TF.seed from nofun), dec_ne (show TF.left ≠ TF.salt from nofun), dec_ne (show TF.seed ≠ TF.salt from nofun),
    tf_ne TF.cells TF.at nofun, tf_ne TF.cells TF.left nofun, tf_ne TF.cells TF.seed nofun, tf_ne TF.cells TF.salt nofun, tf_ne TF.at TF.left nofun, tf_ne TF.at TF.seed nofun, tf_ne TF.at TF.salt nofun, tf_ne TF.left TF.seed nofun, tf_ne TF.left TF.salt nofun, tf_ne TF.seed TF.salt nofun]
theorem scTape : FnScope ["script", "cells", "cell", "seed"] ["script"] (defScope sTape) := ⟨rfl, rfl, rfl, by decide +kernel, rfl, by decide +kernel, by decide +kernel⟩
section
variable {P : Program} {w : PySem.World} {K : PySem.W.Frag} {mg : Str → Option Value} {base : Heap} {f : Addr} {fd : FuncData}
def t_tape (K : PySem.W.Frag) : TS := tSeq (tAsg (tLc (iList K (tVar 0)) (gName 2) tYes (tCB (fun xs H Q => ∃ i, xs = [.int i] ∧ Q (.int (if i < 0 then -i else i)) H) (tCons (tCB (fun xs H Q => (∃ i, xs = [.int i] ∧ Q (.int i) H) ∨ ∃ k, xs = [.bl k] ∧ Q (.int (if k then 1 else 0)) H) (tCons (tVar 2) tNil)) tNil)) [2]) (gName 1))
  (tSeq (tAsg (tC (.int 7)) (gName 3))
  (tSeq (tFor (iList K (tVar 1)) (gName 2) (tAsg (tOp (rI (fun _ j => 0 < j) fun i j => .int (i % j)) (tCB (fun xs H Q => (∃ i, xs = [.int i] ∧ Q (.int i) H) ∨ ∃ k, xs = [.bl k] ∧ Q (.int (if k then 1 else 0)) H) (tCons (tOp (rI0 fun i j => .int (i + j)) (tOp (rI CMulW fun i j => .int (i * j)) (tVar 3) (tC (.int 31))) (tVar 2)) tNil)) (tC (.int 2147483647))) (gName 3)))
  (tRet (tDisp [(tC (.str (Str.ofString "cells")), tVar 1), (tC (.str (Str.ofString "at")), tC (.int 0)), (tC (.str (Str.ofString "left")), tC (.int 0)), (tC (.str (Str.ofString "seed")), tVar 3), (tC (.str (Str.ofString "salt")), tC (.int 0))]))))
theorem ok_tape (F : FunD K "_law_tape" "_law_tape" (defArgs sTape) (defBody sTape) (defScope sTape) [] [] f fd) (gA : mg "abs" = none) (gI : mg "int" = none) (k : Nat) : FnOk P w K mg base (L2.CX P w) (k + 1) f fd ["script"] (spTape K) := by
  refine F.ok scTape (fun vs H Q E h => ?_) (fun cdv A outer s H vs Q E hr h => ⟨t_tape K, ?_, ?_⟩)
  · obtain ⟨a, ns, rfl, _⟩ := h
    rfl
  · refine pss_cons ?_ (pss_cons ?_ (pss_cons ?_ (pss_one ?_)))
    · exact ps_setLc (i := 1) (own := [("cell", 2)]) rfl scTape.nd rfl rfl (sw_true rfl rfl rfl (by decide +kernel)) (pi_list (pv 0)) (show BlkOk ["script", "cells", "cell", "seed"] (defScope sTape) _ [("cell", 2)] from blkOk_by (by decide +kernel)) (fun s H C cl fp => pg_name scTape.nd rfl (Or.inl rfl)) (fun s H C cl fp => pts_nil) (fun s H C cl fp => pe_callB call_abs rfl gA (by decide +kernel) (pa_cons (pe_callTy call_int1 rfl gI (by decide +kernel) (pa_cons (pv 2) pa_nil)) pa_nil))
    · exact ps_set (i := 3) scTape.nd rfl (Or.inl rfl) pe_int
    · exact ps_for (passes_of rfl) rfl (pi_list (pv 1)) (pg_name scTape.nd rfl (Or.inl rfl)) (pss_one (ps_set (i := 3) scTape.nd rfl (Or.inl rfl) (pe_op op_mod (pe_callTy call_int1 rfl gI (by decide +kernel) (pa_cons (pe_op op_add (pe_op op_mulW (pv 3) pe_int) (pv 2)) pa_nil)) pe_int)))
    · exact ps_ret (pe_disp (pps_cons pe_str (pv 1) (pps_cons pe_str pe_int (pps_cons pe_str pe_int (pps_cons pe_str (pv 3) (pps_cons pe_str pe_int pps_nil))))) rfl rfl (by simp) (by decide))
  · obtain ⟨a, ns, rfl, hS, hl, q⟩ := h
    refine ⟨.ref a, rfl, a, rfl, ⟨_, hS⟩, fun D hD => ?_⟩
    have keep : ∀ (H' : Hp), (∀ b, b ≠ D → H' b = H b) → SqL K H' a (ns.map V.int) := fun H' hk => by
      rcases hS with (h | ⟨o, h⟩) | h
      · exact .inl (.inl (by rw [hk a (ne_of_none h hD)]; exact h))
      · exact .inl (.inr ⟨o, by rw [hk a (ne_of_none h hD)]; exact h⟩)
      · exact .inr h
    refine lc_list (K := K) (xs := ns.map V.int) (fun i H' => H' = upd H D (.lst (((ns.take i).map absI).map V.int))) rfl ?_ ?_ ?_
    · rintro i H' _ rfl
      exact keep _ fun b hb => upd_ne hb
    · rintro i x H' hx rfl
      rw [List.getElem?_map] at hx
      obtain ⟨n, hn, rfl⟩ := Option.map_eq_some_iff.mp hx
      have hi : i < ns.length := (List.getElem?_eq_some_iff.mp hn).1
      refine ⟨rfl, ?_⟩
      simp only [tYes, if_true]
      refine ⟨.int n, rfl, .inl ⟨n, rfl, n, rfl, ((ns.take i).map absI).map V.int, upd_same, ?_, ?_⟩⟩
      · rw [List.length_map, List.length_map, List.length_take, sizeLine_eq]
        omega
      · rw [upd_upd, List.take_add_one, hn]
        simp [absI]
    · rintro H' rfl
      rw [List.length_map, List.take_length]
      generalize hc : ns.map absI = cs
      generalize hH1 : upd H D (.lst (cs.map V.int)) = H1
      have hH : H1 D = some (.lst (cs.map V.int)) := by rw [← hH1]; exact upd_same
      refine ⟨.ref D, rfl, D, rfl, ⟨_, SqL.of hH⟩, ?_⟩
      refine for_list (K := K) (xs := cs.map V.int) (fun i σ' H' => H' = H1 ∧ ∃ c, σ' = [some (.ref a), some (.ref D), c, some (.int (seedOf (cs.take i)))]) ⟨rfl, none, rfl⟩ ?_ ?_ ?_
      · rintro i σ' H' _ ⟨rfl, _⟩
        exact SqL.of hH
      · rintro i x σ' H' hx ⟨rfl, c, rfl⟩
        rw [List.getElem?_map] at hx
        obtain ⟨n, hn, rfl⟩ := Option.map_eq_some_iff.mp hx
        have h0 : 0 ≤ seedOf (cs.take i) ∧ seedOf (cs.take i) < 2147483648 := seed_rng _
        refine ⟨_, rfl, _, _, rfl, rfl, ?_, _, rfl, _, _, rfl, rfl, .inl ⟨_, rfl, _, _, rfl, rfl, (by decide : (0 : Int) < 2147483647), rfl, some (.int n), ?_⟩⟩
        · show (seedOf (cs.take i)).natAbs.log2 + (31 : Int).natAbs.log2 < 1000000
          have h31 : (31 : Int).natAbs.log2 < 10 := by decide
          have hs : (seedOf (cs.take i)).natAbs.log2 < 32 := by
            by_cases z : (seedOf (cs.take i)).natAbs = 0
            · rw [z]
              decide
            · rw [Nat.log2_lt z]
              omega
          omega
        · rw [List.take_add_one, hn]
          show _ = [_, _, _, some (V.int (List.foldl _ 7 (List.take i cs ++ [n])))]
          rw [List.foldl_append]
          rfl
      · rintro σ' H' ⟨rfl, c, rfl⟩
        rw [List.length_map, List.take_length]
        intro p hp
        refine ⟨.ref D, rfl, .int (seedOf cs), rfl, upd_same, tapeK D (tpOf ns), ?_, (by decide : 5 ≤ 15), ?_⟩
        · unfold tapeK tpOf
          rw [hc]
          rfl
        · rw [upd_upd, merge_tape]
          have hpD : p ≠ D := fun e => by rw [e, hH] at hp; cases hp
          refine q p D _ hpD ?_ hD upd_same ?_ fun b o hb => ?_
          · rw [← hH1, upd_ne hpD] at hp
            exact hp
          · rw [upd_ne (Ne.symm hpD), hH, ← hc]
            rfl
          · have bD : b ≠ D := fun e => by rw [e, hD] at hb; cases hb
            have bp : b ≠ p := fun e => by
              have z := hp
              rw [← hH1, upd_ne hpD, ← e, hb] at z
              cases z
            rw [upd_ne bp, ← hH1, upd_ne bD]
            exact hb
end
end Q

set_option Elab.async false
set_option linter.all false
set_option maxRecDepth 100000
namespace Q
open PySem PySem.Spec L2
open PyProof.Rows hiding St
/-! ### a law -/
def spLaw (g : G) (K : PySem.W.Frag) : Sp := fun vs H Q _ => ∃ (a : Addr) (ns : List Int), vs = [.ref a] ∧ SqL K H a (ns.map V.int) ∧ ns.length ≤ 63 ∧ g.T H ∧ ∀ H', Q (.bl true) H'
section
variable {g : G} {P : Program} {w : PySem.World} {K : PySem.W.Frag} {mg : Str → Option Value} {base : Heap} {es : List Ent} {names : List Str} {gl : Str → Option D} {fuel k : Nat} {free glo : Str → Bool} {cx : CkX} {f fT : Addr} {fd fdT : FuncData}
theorem ok_law {params : Arguments} {body : List Stmt} {scope : Scope} {d : Df} {p1 p2 p3 p4 p5 : Pos} {rest : List Stmt} (F : FunD K "law" "law" params body scope [] [] f fd) (S : FnScope d.N ["script"] scope)
    (hbd : body = .Assign [.Name "tape" p1] (.Call (.Name "_law_tape" p2) [.Name "script" p3] [] p4) p5 :: rest) (h0 : d.N[0]? = some ("script" : Str)) (h1 : d.N[1]? = some ("tape" : Str)) (hloc : isLoc scope "script" = true) (hlt : stB scope (fun _ => true) "tape" = true) (hgl : glB scope "_law_tape" = true)
    (T : FnOk P w K mg base (L2.CX P w) (k + 1) fT fdT ["script"] (spTape K)) (mT : mg "_law_tape" = some (.ref fT)) (kT : PySem.W.keepIn K (.ref fT) = true) (bT : L2.Binds K fdT ["script"] [])
    (hexc : ∀ c x, cx.exc[c]? = some x → ExO g mg K c x) (hlam : ∀ cdv A outer s H E, (∃ c, cdv = .ref c ∧ ∀ oc od fd' osl, K.lookup f = some ⟨oc, od, .func fd', osl⟩ → fd'.code = .ref c) → Room (k + 3) (A.deeper (envOfC "law" scope s.heap.objs.size f cdv)) → cx.lam = true → LamOk g (cxOf (L2.CX P w) P w K mg base d.N "law" scope f cdv A outer s H E) (k + 1) cx.rfn cx.rcs)
    (hfree : ∀ x, free x = true → mg x = none) (hglo : ∀ x, glo x = true → ∃ v u d, mg x = some u ∧ RelV v u ∧ (∀ H F, Rep K H F v d) ∧ gl x = some d)
    (he : ∀ (f : Nat) (x : Str), names[f]? = some x → ∃ e, es[f]? = some e ∧ EntOk g P w K mg base names free glo cx x e) (hchk : chkSs ⟨d.N, names, free, glo, cx⟩ scope d.ss rest = true)
    (run : ∀ ns : List Int, ns.length ≤ 63 → ∃ t, exSs ⟨callC es gl fuel (k + 1), gl⟩ fuel d.ss (((List.replicate d.N.length B.un)).set 1 .tape) (tpOf ns) = .rt (.bool true) t) : FnOk P w K mg base (L2.CX P w) (k + 4) f fd ["script"] (spLaw g K) := by
  subst hbd
  obtain ⟨oc, od, dV, kV, doc, pm, an, cdv, ct, osl, rfl, lk, hcd, _, _⟩ := F.ex
  refine fn_of lk hcd S (fun vs H Q E h => ?_) fun A outer s H vs Q E hr q => ?_
  · obtain ⟨a, ns, rfl, _⟩ := h
    rfl
  · have hr1 : Room (k + 1) (A.deeper (envOfC "law" scope s.heap.objs.size f cdv)) := hr.mono (by omega)
    have ih := fns_ok (fuel := fuel) hfree hglo hexc he (k + 1)
    obtain ⟨c0, hc0⟩ := He.codeIn_ref hcd
    have O : Osx g ⟨callC es gl fuel (k + 1), gl⟩ (cxOf (L2.CX P w) P w K mg base d.N "law" scope f cdv A outer s H E) ⟨d.N, names, free, glo, cx⟩ scope (k + 1) E :=
      ⟨⟨⟨rfl, S.nd, rfl, rfl, hr1⟩, fun _ _ => rfl, takes_of rfl rfl rfl rfl, ih, hfree, hglo⟩, passes_of rfl, S.kind, hexc, hlam cdv A outer s H E ⟨c0, hc0, fun _ _ _ _ z => by rw [lk] at z; cases z; exact hc0⟩ hr⟩
    obtain ⟨l1, l2⟩ := sto_of O.ok.gd O.ok.fF hlt
    have st0 : PS (cxOf (L2.CX P w) P w K mg base d.N "law" scope f cdv A outer s H E) (.Assign [.Name "tape" p1] (.Call (.Name "_law_tape" p2) [.Name "script" p3] [] p4) p5) (tAsg (tCall (spTape K) [] E0 (tCons (tVar 0) tNil)) (gName 1)) :=
      ps_set S.nd h1 l1 (pe_call T hr1 (gl_of O.ok.gd hgl) mT kT bT .nil passL (pa_cons (pe_var h0 (.inl (isLoc_ok hloc)) (by decide +kernel) (by decide +kernel)) pa_nil) (by decide +kernel)) rfl l2
    refine ⟨_, pss_cons st0 (chkSs_ok (n := fuel) O hchk), ?_⟩
    obtain ⟨a, ns, rfl, hS, hl, hgT, q⟩ := q
    have hlen : 2 ≤ d.N.length := by
      have := (List.getElem?_eq_some_iff.mp h1).1
      omega
    refine ⟨.ref a, by
      show (L2.start d.N [V.ref a])[0]? = _
      rfl, a, ns, rfl, hS, hl, fun ta ca H' hne hta hca eT eC hkp => ?_⟩
    obtain ⟨t, hr2⟩ := run ns hl
    have wd : World g (fun x => x = ta) ta ca H' (tpOf ns) := ⟨fun x e => by rw [e, eT]; exact True.intro, rfl, eT, fun e => hne e.symm, eC, g.TK hkp hgT⟩
    have E1 : EnvOk g K (fun x => x = ta) ta ca H' ((L2.start d.N [V.ref a]).set 1 (some (.ref ta))) ((List.replicate d.N.length B.un).set 1 .tape) (tpOf ns) := by
      refine ⟨?_, wd, fun i => ?_, fun i j b h1 _ _ _ => ?_⟩
      · unfold L2.start
        simp
        omega
      · by_cases hi : 1 = i
        · subst hi
          rw [getB_set_same (by rw [List.length_replicate]; omega)]
          show ((L2.start d.N [V.ref a]).set 1 (some (.ref ta)))[1]? = _
          rw [List.getElem?_set_self]
          unfold L2.start
          simp
          omega
        · rw [getB_set_ne hi]
          have : getB (List.replicate d.N.length B.un) i = .un := by
            unfold getB
            rw [List.getElem?_replicate]
            split <;> rfl
          rw [this]
          trivial
      · exfalso
        by_cases hi : 1 = i
        · subst hi
          rw [getB_set_same (by rw [List.length_replicate]; omega)] at h1
          cases h1
        · rw [getB_set_ne hi] at h1
          have : getB (List.replicate d.N.length B.un) i = .un := by
            unfold getB
            rw [List.getElem?_replicate]
            split <;> rfl
          rw [this] at h1
          cases h1
    refine ⟨fun x => x = ta, H', [], fun x => x = ta, ta, ca, _, tpOf ns, ⟨E1, fun x e => e, rfl, fun x e => .inl e, fun i b ho _ => ?_, .refl _ _ _, fun b hb => by cases hb⟩, ?_⟩
    · exfalso
      by_cases hi : 1 = i
      · subst hi
        rw [getB_set_same (by rw [List.length_replicate]; omega)] at ho
        cases ho
      · rw [getB_set_ne hi] at ho
        have : getB (List.replicate d.N.length B.un) i = .un := by
          unfold getB
          rw [List.getElem?_replicate]
          split <;> rfl
        rw [this] at ho
        cases ho
    · rw [hr2]
      intro v H2 _ _ r
      cases r
      exact q H2
end
end Q

set_option Elab.async false
set_option linter.all false
set_option maxRecDepth 100000
/-! a law's end -/
namespace Q
open PySem PySem.Spec L2
open PyProof.Rows hiding St
/-- the end, the way that exceptions take told for each world -/
theorem end_of {l : PySem.W.OpenLaw} {most k : Nat} {view : Program} {loose : List Str} {XP : (Str → Option Value) → Heap → Prop} {YP : PySem.World → Heap → Prop} {d : DefRec} {cx : PySem.World → CXT} {x : Str} (h1 : l.most = some most) (h2 : most ≤ sizeLine) (h3 : d.params.defaults = []) (room : Room k callerA)
    (told : ∀ (w : PySem.World) (mg : Str → Option Value) (fa : Addr) (h : Heap), YP w h → h.Ns mainGlobals mg → mg d.name = some (.ref fa) → ∃ (K : PySem.W.Frag) (fd : FuncData) (sp : Sp), K.In h ∧ (∀ (s : Shared) (u : Value), BindsTo s fd ⟨[u], []⟩ [(x, u)]) ∧
      (∀ (H : Hp) (a : Addr) (ns : List Int), ns.length ≤ most → Only H → SqL K H a (ns.map V.int) → sp [.ref a] H (fun v _ => v = .bl true) fun _ _ _ => False) ∧ ∀ base : Heap, K.In base → base.Ns mainGlobals mg → FnOk l.prog w K mg base (cx w) k fa fd [x] sp)
    (none : ∀ (w : PySem.World) (H : Hp) (s : Shared) (e : Value) (s' : Shared), cx w [] H s (fun _ _ _ => False) e s' → False) : PySem.W.WalkO view loose XP YP l.row.toRowW d [] (fun f vs => PySem.call f vs) := by
  refine Att.attach_call h1 h3 fun w s0 s1 mg mb fa o pm cd doc a vs ns gl yy ho hd hcd hmg hobj hints hlen hg => ?_
  obtain ⟨K, fd, sp, inK, binds, start, run⟩ := told w mg fa _ yy gl.T.g hmg
  exact law_call inK gl.T.g gl.T.b gl.T.builtins gl.T.nolimit hg hobj hints (Nat.le_trans hlen h2) room run binds (fun H only seq => start H a ns hlen only seq) fun H e s' => none w H s1 e s'
theorem cx_none {P : Program} (w : PySem.World) (H : Hp) (s : Shared) (e : Value) (s' : Shared) (h : L2.CX P w [] H s (fun _ _ _ => False) e s') : False := by
  obtain ⟨a, B, H', cls, d, _, _, _, _, _, _, _, z⟩ := h
  exact z
def EntsOk (T : Str → Ent → Prop) : List Str → List Ent → Prop
  | [], [] => True
  | x :: xs, e :: es => T x e ∧ EntsOk T xs es
  | _, _ => False
theorem EntsOk.at_ {T : Str → Ent → Prop} : ∀ {xs : List Str} {es : List Ent}, EntsOk T xs es → ∀ (f : Nat) (x : Str), xs[f]? = some x → ∃ e, es[f]? = some e ∧ T x e
  | [], _, _, f, x, h => by simp at h
  | y :: xs, [], z, f, x, h => z.elim
  | y :: xs, e :: es, z, 0, x, h => by
    have h : some y = some x := h
    cases h
    exact ⟨e, rfl, z.1⟩
  | y :: xs, e :: es, z, f + 1, x, h => by
    obtain ⟨e', h1, h2⟩ := EntsOk.at_ z.2 f x (by simpa using h)
    exact ⟨e', by simpa using h1, h2⟩
theorem EntsOk.append {T : Str → Ent → Prop} : ∀ {xs ys : List Str} {es fs : List Ent}, EntsOk T xs es → EntsOk T ys fs → EntsOk T (xs ++ ys) (es ++ fs)
  | [], _, [], _, _, b => b
  | _ :: _, _, _ :: _, _, a, b => ⟨a.1, a.2.append b⟩
  | [], _, _ :: _, _, a, _ => a.elim
  | _ :: _, _, [], _, a, _ => a.elim
def AllL {α : Type} (P : α → Prop) : List α → Prop
  | [] => True
  | x :: xs => P x ∧ AllL P xs
theorem AllL.mem {α : Type} {P : α → Prop} : ∀ {xs : List α}, AllL P xs → ∀ x, x ∈ xs → P x
  | [], _, x, h => by cases h
  | y :: xs, a, x, h => by
    rcases List.mem_cons.mp h with rfl | h
    · exact a.1
    · exact AllL.mem a.2 x h
theorem has_mem {L : List Str} {x : Str} (h : L.contains x = true) : x ∈ L := by simpa using h
def g0 : G := ⟨fun _ => .none, fun _ => True, fun _ _ _ _ => trivial, fun _ _ => trivial⟩
/-- a constant of the module -/
def ConOk (K : PySem.W.Frag) (mg : Str → Option Value) (gl : Str → Option D) (x : Str) : Prop := ∃ v u d, mg x = some u ∧ RelV v u ∧ (∀ H F, Rep K H F v d) ∧ gl x = some d
theorem con_int {K : PySem.W.Frag} {h : Heap} {mg : Str → Option Value} {gl : Str → Option D} {x : Str} {i : Int} (X : K.In h) (G : h.Ns mainGlobals mg) (c : (He.Fa.int x i).ok K = true) (e : gl x = some (.int i)) : ConOk K mg gl x := by
  obtain ⟨t, ht⟩ := He.int_ok X G c
  exact ⟨.int i, _, _, ht, ⟨t, rfl⟩, fun H F => .int i, e⟩
theorem reps_ints {K : PySem.W.Frag} {H : Hp} {F : Addr → Prop} (ns : List Int) : Reps K H F ((ns.map He.Dv.int).map (He.Dv.v K)) (ns.map PyData.int) := by
  induction ns with
  | nil => exact .nil
  | cons n ns ih => exact .cons (.int n) ih
theorem con_tup {K : PySem.W.Frag} {h : Heap} {mg : Str → Option Value} {gl : Str → Option D} {x : Str} {ns : List Int} (X : K.In h) (G : h.Ns mainGlobals mg) (c : (He.Fa.glo x).ok K = true) (t : He.tupB K x (ns.map He.Dv.int) = true) (e : gl x = some (.tuple (ns.map .int))) : ConOk K mg gl x :=
  ⟨.ref (He.ga K x), _, _, He.glo_ok X G c, rfl, fun H F => .tup (He.tupB_ok t H) (reps_ints ns), e⟩
/-! ### classes of exceptions, lambdas -/
def clsB (K : PySem.W.Frag) (x : Str) : Bool := PySem.W.excIn K (He.ga K x) bmV "ValueError.__new__" && PySem.W.keepIn K (.ref (He.ga K x)) && (PySem.W.subIn K (.ref (He.ga K x)) (.type "BaseException") == some true) && (PySem.W.typeIn K (.ref (He.ga K x)) == some (.type "type"))
def gE (K : PySem.W.Frag) (exc : List Str) : Nat → Value := fun c => .ref (He.ga K ((exc[c]?).getD ""))
theorem exO_of {K : PySem.W.Frag} {h : Heap} {mg : Str → Option Value} {g : G} {exc : List Str} {c : Nat} {x : Str} (X : K.In h) (G : h.Ns mainGlobals mg) (hc : exc[c]? = some x) (hg : g.cls = gE K exc) (f : (He.Fa.glo x).ok K = true) (b : clsB K x = true) : ExO g mg K c x := by
  unfold clsB at b
  obtain ⟨b, b4⟩ := band b
  obtain ⟨b, b3⟩ := band b
  obtain ⟨b1, b2⟩ := band b
  refine ⟨He.ga K x, He.glo_ok X G f, ?_, b1, b2, by simpa using b3, by simpa using b4⟩
  rw [hg]
  unfold gE
  rw [hc]
  rfl
/-- the name that a lambda of law has -/
def qLam (sc : Scope) : Str := (envOfC "law" sc 0 0 .none).qual ++ "<lambda>"
theorem codeO_noTd {c : Addr} {q : Str} : ¬ MutK (some (LamX.CodeO c q)) := by
  intro m
  have m : IsTd (fun h : Heap => ∃ (oc : Obj) (vs : Array Value) (t : Tok), h.get? c = some oc ∧ oc.data = .fields vs ∧ vs[1]? = some (.str q t)) := m
  obtain ⟨a, es, ep, e⟩ := m
  let ob : Obj := { cls := .none, data := .fields #[.none, .str q 0] }
  let hp : Heap := { objs := Array.replicate (c + 1) ob }
  have get : ∀ b, hp.get? b = if b < c + 1 then some ob else none := fun b => by
    by_cases hb : b < c + 1
    · rw [if_pos hb]
      unfold Heap.get?
      have : (Array.replicate (c + 1) ob)[b]? = some ob := by rw [Array.getElem?_replicate, if_pos hb]
      show (match (Array.replicate (c + 1) ob)[b]? with | _ => _) = _
      rw [this]
    · rw [if_neg hb]
      unfold Heap.get?
      have : (Array.replicate (c + 1) ob)[b]? = none := by rw [Array.getElem?_replicate, if_neg hb]
      show (match (Array.replicate (c + 1) ob)[b]? with | _ => _) = _
      rw [this]
  have h1 : (fun h : Heap => ∃ (oc : Obj) (vs : Array Value) (t : Tok), h.get? c = some oc ∧ oc.data = .fields vs ∧ vs[1]? = some (.str q t)) hp := ⟨ob, _, 0, (get c).trans (if_pos (Nat.lt_succ_self c)), rfl, rfl⟩
  rw [e] at h1
  obtain ⟨o, e1, _, e3⟩ := h1
  rw [get] at e1
  split at e1
  · cases e1
    cases e3
  · cases e1
theorem tabs_step {T : List (Addr × Str)} {F : Addr → Prop} {ta : Addr} {H H' : Hp} (hta : F ta) (trk : ∀ a, F a → MutK (H a)) (keep : ∀ b o, ¬ F b → H b = some o → b ≠ ta → H' b = some o) (t : LamX.Tabs T H) : LamX.Tabs T H' := fun p hp => by
  obtain ⟨ps, h1, h2, h3⟩ := t p hp
  have nF : ∀ {b o}, H b = some o → ¬ MutK (some o) → ¬ F b := fun e n z => n (by rw [← e]; exact trk _ z)
  have nta : ∀ {b}, ¬ F b → b ≠ ta := fun n e => n (by rw [e]; exact hta)
  have n1 := nF h1 fun z => z
  refine ⟨ps, keep _ _ n1 h1 (nta n1), h2, fun pos cv hc => ?_⟩
  obtain ⟨c, e1, e2⟩ := h3 pos cv hc
  have n2 := nF e2 codeO_noTd
  exact ⟨c, e1, keep _ _ n2 e2 (nta n2)⟩
/-- what a law with lambdas stands in: the classes, the table of its lambdas -/
def gL (K : PySem.W.Frag) (exc : List Str) (T : List (Addr × Str)) : G := ⟨gE K exc, LamX.Tabs T, fun a b c d => tabs_step a b c d, fun k t => t.ext k⟩
section
variable {P : Program} {w : PySem.World} {K : PySem.W.Frag} {mg : Str → Option Value} {base : Heap} {N : List Str}
theorem lamOk_of {k : Nat} {rfn a e : Str} {rcs : List Nat} {exc : List Str} {sc : Scope} {f gA CS Pt : Addr} {pgR : Arguments} {bodyR : List Stmt} {scR : Scope} {fdR : FuncData} {p1 p2 p3 p4 p5 p6 p7 p8 p9 p10 : Pos} {j1 j2 : Nat}
    (FR : FunD K rfn rfn pgR bodyR scR [] [] gA fdR) (hb : bodyR = refBody a e p1 p2 p3 p4 p5 p6 p7 p8 p9 p10 j1 j2) (SR : FnScope [a] [a] scR) (hv : Vis scR a) (ha : (a == ("__debug__" : Str)) = false) (ha2 : (a == ("__classdict__" : Str)) = false) (mgR : mg rfn = some (.ref gA)) (bR : L2.Binds K fdR [a] [])
    (hge : scR.names.lookup e = some .globalImplicit) (hme : mg e = some (.ref CS)) (hde : (e == ("__debug__" : Str)) = false) (hx : ∀ c, rcs.contains c = true → PySem.W.exmOne K (gE K exc c) (.ref CS) = some true)
    {c : Addr} (TB : LamX.TabB base mg c Pt) {cdv : Value} (hcd : cdv = .ref c) {A : Around} {outer : List Env} {s : Shared} {H : Hp} {E : XK} (hr : Room (k + 3) (A.deeper (envOfC "law" sc s.heap.objs.size f cdv))) :
    LamOk (gL K exc [(Pt, qLam sc)]) (cxOf (L2.CX P w) P w K mg base N "law" sc f cdv A outer s H E) (k + 1) rfn rcs := by
  subst hb
  obtain ⟨oc, od, dV, kV, doc, pm, an, cdR, ct, osl, rfl, lk, hcR, _, _⟩ := FR.ex
  refine ⟨hr, ⟨[(Pt, qLam sc)], c, Pt, rfl, hcd, TB, List.mem_singleton.mpr rfl, fun p hp _ => ?_⟩, gA, CS, pgR, scR, dV, kV, doc, pm, cdR, ct, oc, an, od, osl, [a], a, e, p1, p2, p3, p4, p5, p6, p7, p8, p9, p10, j1, j2, mgR, FR.kp, lk, hcR, bR, SR, rfl, hv, ha, ha2, hge, hme, hde, hx⟩
  rw [List.mem_singleton.mp hp]
  rfl
end
end Q

set_option Elab.async false
set_option linter.all false
set_option maxRecDepth 100000
set_option exponentiation.threshold 4000
/-! fractions: what the codes of share, plus .. compute -/
namespace Q
open PySem PySem.Spec L2
open PyProof.Rows hiding St
abbrev C.n (i : Nat) : C := .lit (.int (i : Nat))
abbrev C.i2 (v i : Nat) : C := .ix (.var v) (C.n i)
abbrev C.pr (a b : C) : Cs := .cons a (.cons b .nil)
def kShare : Df := ⟨["n", "d"], ["n", "d", "a", "b"], (.cons (.ife (.cmp .eq (.var 1) (.lit (.int 0))) (.cons (.raise 0) .nil) .nil) (.cons (.ife (.cmp .lt (.var 1) (.lit (.int 0))) (.cons (.par 0 1 (.neg (.var 0)) (.neg (.var 1))) .nil) .nil) (.cons (.par 2 3 (.blt .abs (.cons (.var 0) .nil)) (.var 1)) (.cons (.whl (.cmp .gt (.var 3) (.lit (.int 0))) (.cons (.par 2 3 (.var 3) (.bin .mod (.var 2) (.var 3))) .nil)) (.cons (.ret (.tup (.cons (.bin .fdiv (.var 0) (.var 2)) (.cons (.bin .fdiv (.var 1) (.var 2)) .nil)))) .nil)))))⟩
def kOp (s : Nat) (x y : C) : Df := ⟨["a", "b"], ["a", "b"], .cons (.ret (.call s (C.pr x y))) .nil⟩
def kPlus (s : Nat) : Df := kOp s (.bin .add (.bin .mul (C.i2 0 0) (C.i2 1 1)) (.bin .mul (C.i2 1 0) (C.i2 0 1))) (.bin .mul (C.i2 0 1) (C.i2 1 1))
def kMinus (s : Nat) : Df := kOp s (.bin .sub (.bin .mul (C.i2 0 0) (C.i2 1 1)) (.bin .mul (C.i2 1 0) (C.i2 0 1))) (.bin .mul (C.i2 0 1) (C.i2 1 1))
def kTimes (s : Nat) : Df := kOp s (.bin .mul (C.i2 0 0) (C.i2 1 0)) (.bin .mul (C.i2 0 1) (C.i2 1 1))
def kOver (s : Nat) : Df := kOp s (.bin .mul (C.i2 0 0) (C.i2 1 1)) (.bin .mul (C.i2 0 1) (C.i2 1 0))
def kLess : Df := ⟨["a", "b"], ["a", "b"], (.cons (.ret (.cmp .lt (.bin .mul (C.i2 0 0) (C.i2 1 1)) (.bin .mul (C.i2 1 0) (C.i2 0 1)))) .nil)⟩
def kGcd : Df := ⟨["a", "b"], ["a", "b"], (.cons (.par 0 1 (.blt .abs (.cons (.var 0) .nil)) (.blt .abs (.cons (.var 1) .nil))) (.cons (.whl (.cmp .gt (.var 1) (.lit (.int 0))) (.cons (.par 0 1 (.var 1) (.bin .mod (.blt .int (.cons (.var 0) .nil)) (.var 1))) .nil)) (.cons (.ret (.var 0)) .nil)))⟩
def kRatio (s : Nat) : Df := ⟨["n", "d"], ["n", "d", "most"], (.cons (.ife (.cmp .lt (.var 1) (.lit (.int 0))) (.cons (.par 0 1 (.bin .sub (.lit (.int 0)) (.var 0)) (.bin .sub (.lit (.int 0)) (.var 1))) .nil) .nil) (.cons (.set 2 (.call s (.cons (.var 0) (.cons (.var 1) .nil)))) (.cons (.ret (.tup (.cons (.bin .fdiv (.var 0) (.var 2)) (.cons (.bin .fdiv (.var 1) (.var 2)) .nil)))) .nil)))⟩
/-- n / d in its form, d not 0 -/
def frac (n d : Int) : D := match decide (d < 0) with
  | true => .tuple [.int (-n / (Nat.gcd n.natAbs d.natAbs : Nat)), .int (-d / (Nat.gcd n.natAbs d.natAbs : Nat))]
  | false => .tuple [.int (n / (Nat.gcd n.natAbs d.natAbs : Nat)), .int (d / (Nat.gcd n.natAbs d.natAbs : Nat))]
def smD (d : Int) : Bool := Nat.blt d.natAbs.log2 3000 && !decide (d = 0)
def smI (i : Int) : Bool := Nat.blt i.natAbs.log2 1000
def mShare : List B → Tp → Out D
  | [.val (.int n), .val (.int d)], tp => match smD d with
    | true => .ok (frac n d) tp
    | false => .bad
  | _, _ => .bad
def mOp (f : Int → Int → Int → Int → Int) (e : Int → Int → Int → Int → Int) : List B → Tp → Out D
  | [.val (.tuple [.int a, .int b]), .val (.tuple [.int c, .int d])], tp => match (smI a && smI b) && (smI c && smI d) && smD (e a b c d) with
    | true => .ok (frac (f a b c d) (e a b c d)) tp
    | false => .bad
  | _, _ => .bad
def mLess : List B → Tp → Out D
  | [.val (.tuple [.int a, .int b]), .val (.tuple [.int c, .int d])], tp => match (smI a && smI b) && (smI c && smI d) with
    | true => .ok (.bool (decide (a * d < c * b))) tp
    | false => .bad
  | _, _ => .bad
def mGcd : List B → Tp → Out D
  | [.val (.int n), .val (.int d)], tp => match smD d with
    | true => .ok (.int (Nat.gcd n.natAbs d.natAbs : Nat)) tp
    | false => .bad
  | _, _ => .bad
section
theorem wh_gcd {c : QE → Tp → Out D} {f : QE → Tp → SO} {mk : Nat → Nat → QE} {tp : Tp} (hc : ∀ a b, c (mk a b) tp = .ok (.bool (decide (0 < b))) tp) (hf : ∀ a b, 0 < b → f (mk a b) tp = .nx (mk b (a % b)) tp) :
    ∀ (m fuel a b : Nat), b < 2 ^ m → 2 * m + 1 ≤ fuel → whGo c f fuel (mk a b) tp = .nx (mk (Nat.gcd a b) 0) tp := by
  have zero : ∀ (fuel a : Nat), 1 ≤ fuel → whGo c f fuel (mk a 0) tp = .nx (mk (Nat.gcd a 0) 0) tp := fun fuel a h => by
    cases fuel with
    | zero => omega
    | succ n =>
      unfold whGo
      rw [hc]
      show SO.nx (mk a 0) tp = _
      rw [Nat.gcd_zero_right]
  have one : ∀ (fuel a b : Nat), 0 < b → whGo c f (fuel + 1) (mk a b) tp = whGo c f fuel (mk b (a % b)) tp := fun fuel a b h => by
    conv => lhs; unfold whGo
    rw [hc, decide_eq_true h]
    show (match f (mk a b) tp with
      | .nx e t => whGo c f fuel e t
      | .ct e t => whGo c f fuel e t
      | .br e t => .nx e t
      | .rt d t => .rt d t
      | .exc c t => .exc c t
      | .bad => .bad) = _
    rw [hf a b h]
  have gs : ∀ a b : Nat, Nat.gcd a b = Nat.gcd b (a % b) := fun a b => by
    rw [Nat.gcd_comm a b, Nat.gcd_rec b a, Nat.gcd_comm]
  intro m
  induction m with
  | zero =>
    intro fuel a b hb hf
    have : b = 0 := by simpa using hb
    subst this
    exact zero fuel a (by omega)
  | succ m ih =>
    intro fuel a b hb hfu
    by_cases h0 : b = 0
    · subst h0
      exact zero fuel a (by omega)
    · obtain ⟨n, rfl⟩ : ∃ n, fuel = n + 2 := ⟨fuel - 2, by omega⟩
      rw [one (n + 1) a b (by omega), gs a b]
      by_cases h1 : a % b = 0
      · rw [h1]
        exact zero (n + 1) b (by omega)
      · rw [one n b (a % b) (by omega), gs b (a % b)]
        refine ih n _ _ ?_ (by omega)
        have hr : a % b < b := Nat.mod_lt _ (by omega)
        have h2 : b % (a % b) < a % b := Nat.mod_lt _ (by omega)
        have h3 : b % (a % b) ≤ b - a % b := by
          rw [Nat.mod_eq_sub_mod (by omega)]
          exact Nat.mod_le _ _
        rw [Nat.pow_succ] at hb
        omega
variable {Γ : Sm} {fuel : Nat} {tp : Tp}
theorem cons_nx {s : S} {ss : Ss} {env e : QE} {t : Tp} (h : exS Γ fuel s env tp = .nx e t) : exSs Γ fuel (.cons s ss) env tp = exSs Γ fuel ss e t := by
  conv => lhs; unfold exSs
  rw [h]
theorem cons_rt {s : S} {ss : Ss} {env : QE} {d : D} {t : Tp} (h : exS Γ fuel s env tp = .rt d t) : exSs Γ fuel (.cons s ss) env tp = .rt d t := by
  conv => lhs; unfold exSs
  rw [h]
theorem ife_ok {c : C} {a b : Ss} {env : QE} {k : Bool} {t : Tp} (h : ev Γ .t c env tp = .ok (.bool k) t) : exS Γ fuel (.ife c a b) env tp = exSs Γ fuel (bif k then a else b) env t := by
  unfold exS
  rw [h]
  cases k <;> rfl
theorem log_lt {n m : Nat} (h : Nat.log2 n < m) : n < 2 ^ m := by
  by_cases h0 : n = 0
  · subst h0
    exact Nat.two_pow_pos m
  · exact (Nat.log2_lt h0).mp h
theorem abs_eq (n : Int) : (if n < 0 then -n else n) = ((n.natAbs : Nat) : Int) := by
  split <;> omega
theorem blt_iff {a b : Nat} (h : Nat.blt a b = true) : a < b := Nat.le_of_ble_eq_true h
theorem gcd_div {n d : Nat} (h : d ≠ 0) (hd : d.log2 < 3000) : divOk (Nat.gcd n d : Nat) = true := by
  have hp : 0 < Nat.gcd n d := Nat.gcd_pos_of_pos_right _ (by omega)
  have hle : Nat.gcd n d ≤ d := Nat.le_of_dvd (by omega) (Nat.gcd_dvd_right _ _)
  have hl : (Nat.gcd n d).log2 < 9000 := by
    have h1 : d < 2 ^ 3000 := log_lt hd
    have h2 : Nat.gcd n d < 2 ^ 3000 := by omega
    have := (Nat.log2_lt (by omega)).mpr h2
    omega
  unfold divOk
  rw [Bool.and_eq_true]
  refine ⟨decide_eq_true (by omega), ?_⟩
  rw [Int.natAbs_natCast]
  exact Nat.ble_eq_true_of_le hl
theorem share_run {n d : Int} (hd : smD d = true) (hf : 6001 ≤ fuel) : exSs Γ fuel kShare.ss [.val (.int n), .val (.int d), .un, .un] tp = .rt (frac n d) tp := by
  obtain ⟨h1, h2⟩ := band hd
  have h1 := blt_iff h1
  have h2 : d ≠ 0 := by simpa using h2
  have core : ∀ n d : Int, 0 < d → d.natAbs.log2 < 3000 → exSs Γ fuel (.cons (.par 2 3 (.blt .abs (.cons (.var 0) .nil)) (.var 1)) (.cons (.whl (.cmp .gt (.var 3) (.lit (.int 0))) (.cons (.par 2 3 (.var 3) (.bin .mod (.var 2) (.var 3))) .nil)) (.cons (.ret (.tup (.cons (.bin .fdiv (.var 0) (.var 2)) (.cons (.bin .fdiv (.var 1) (.var 2)) .nil)))) .nil))) [.val (.int n), .val (.int d), .un, .un] tp
      = .rt (.tuple [.int (n / (Nat.gcd n.natAbs d.natAbs : Nat)), .int (d / (Nat.gcd n.natAbs d.natAbs : Nat))]) tp := fun n d hp hl => by
    let mk : Nat → Nat → QE := fun a b => [.val (.int n), .val (.int d), .val (.int (a : Nat)), .val (.int (b : Nat))]
    have e1 : exS Γ fuel (.par 2 3 (.blt .abs (.cons (.var 0) .nil)) (.var 1)) [.val (.int n), .val (.int d), .un, .un] tp = .nx (mk n.natAbs d.natAbs) tp := by
      show SO.nx [.val (.int n), .val (.int d), .val (.int (if n < 0 then -n else n)), .val (.int d)] tp = SO.nx [.val (.int n), .val (.int d), .val (.int (n.natAbs : Nat)), .val (.int (d.natAbs : Nat))] tp
      rw [abs_eq n, show ((d.natAbs : Nat) : Int) = d by omega]
    rw [cons_nx e1]
    have e2 : exS Γ fuel (.whl (.cmp .gt (.var 3) (.lit (.int 0))) (.cons (.par 2 3 (.var 3) (.bin .mod (.var 2) (.var 3))) .nil)) (mk n.natAbs d.natAbs) tp = .nx (mk (Nat.gcd n.natAbs d.natAbs) 0) tp := by
      have := wh_gcd (c := fun env tp => ev Γ .t (.cmp .gt (.var 3) (.lit (.int 0))) env tp) (f := fun env tp => exSs Γ fuel (.cons (.par 2 3 (.var 3) (.bin .mod (.var 2) (.var 3))) .nil) env tp) (mk := mk) (tp := tp) (fun a b => ?_) (fun a b hb => ?_) 3000 fuel n.natAbs d.natAbs (log_lt hl) hf
      · exact this
      · show Out.ok (PyData.bool (decide ((0 : Int) < (b : Int)))) tp = Out.ok (PyData.bool _) tp
        rw [show decide ((0 : Int) < (b : Int)) = decide (0 < b) from decide_eq_decide.mpr (by omega)]
      · refine cons_nx (e := mk b (a % b)) (t := tp) ?_
        have hm : modD (.int (a : Nat)) (.int (b : Nat)) = some (.int ((a % b : Nat) : Int)) := by
          show grd (decide ((0 : Int) < (b : Int))) (PyData.int ((a : Int) % (b : Int))) = _
          rw [decide_eq_true (by omega)]
          rfl
        show ((Out.opt (modD (.int (a : Nat)) (.int (b : Nat))) tp).so fun y t => SO.nx [.val (.int n), .val (.int d), .val (.int (b : Nat)), .val y] t) = _
        rw [hm]
        rfl
    rw [cons_nx e2]
    refine cons_rt ?_
    have hg := gcd_div (n := n.natAbs) (d := d.natAbs) (by omega) hl
    have hq : ∀ i : Int, fdivD (.int i) (.int (Nat.gcd n.natAbs d.natAbs : Nat)) = some (.int (i / (Nat.gcd n.natAbs d.natAbs : Nat))) := fun i => by
      show grd (divOk _) _ = _
      rw [hg]
      rfl
    show (((Out.opt (fdivD (.int n) (.int (Nat.gcd n.natAbs d.natAbs : Nat))) tp).bind fun x t1 => ((Out.opt (fdivD (.int d) (.int (Nat.gcd n.natAbs d.natAbs : Nat))) t1).bind fun y t2 => Out.ok [y] t2).bind fun xs t2 => Out.ok (x :: xs) t2).bind fun ds t1 => Out.opt (grd (big ds.length) (PyData.tuple ds)) t1).so (fun d t => SO.rt d t) = _
    rw [hq, hq]
    rfl
  have hz : (d == 0) = false := by simpa using h2
  have s1 : exS Γ fuel (.ife (.cmp .eq (.var 1) (.lit (.int 0))) (.cons (.raise 0) .nil) .nil) [.val (.int n), .val (.int d), .un, .un] tp = .nx [.val (.int n), .val (.int d), .un, .un] tp := by
    have e : ev Γ .t (.cmp .eq (.var 1) (.lit (.int 0))) [.val (.int n), .val (.int d), .un, .un] tp = .ok (.bool (d == 0)) tp := rfl
    rw [hz] at e
    rw [ife_ok e]
    rfl
  show exSs Γ fuel (.cons _ (.cons _ _)) _ tp = _
  rw [cons_nx s1]
  unfold frac
  by_cases hn : d < 0
  · have s2 : exS Γ fuel (.ife (.cmp .lt (.var 1) (.lit (.int 0))) (.cons (.par 0 1 (.neg (.var 0)) (.neg (.var 1))) .nil) .nil) [.val (.int n), .val (.int d), .un, .un] tp = .nx [.val (.int (-n)), .val (.int (-d)), .un, .un] tp := by
      have e : ev Γ .t (.cmp .lt (.var 1) (.lit (.int 0))) [.val (.int n), .val (.int d), .un, .un] tp = .ok (.bool (decide (d < 0))) tp := rfl
      rw [decide_eq_true hn] at e
      rw [ife_ok e]
      rfl
    rw [cons_nx s2, decide_eq_true hn, core (-n) (-d) (by omega) (by rw [Int.natAbs_neg]; exact h1), Int.natAbs_neg, Int.natAbs_neg]
  · have s2 : exS Γ fuel (.ife (.cmp .lt (.var 1) (.lit (.int 0))) (.cons (.par 0 1 (.neg (.var 0)) (.neg (.var 1))) .nil) .nil) [.val (.int n), .val (.int d), .un, .un] tp = .nx [.val (.int n), .val (.int d), .un, .un] tp := by
      have e : ev Γ .t (.cmp .lt (.var 1) (.lit (.int 0))) [.val (.int n), .val (.int d), .un, .un] tp = .ok (.bool (decide (d < 0))) tp := rfl
      rw [decide_eq_false hn] at e
      rw [ife_ok e]
      rfl
    rw [cons_nx s2, decide_eq_false hn, core n d (by omega) h1]
theorem gcd_run {n d : Int} (hd : smD d = true) (hf : 6001 ≤ fuel) : exSs Γ fuel kGcd.ss [.val (.int n), .val (.int d)] tp = .rt (.int (Nat.gcd n.natAbs d.natAbs : Nat)) tp := by
  obtain ⟨h1, h2⟩ := band hd
  have h1 := blt_iff h1
  let mk : Nat → Nat → QE := fun a b => [.val (.int (a : Nat)), .val (.int (b : Nat))]
  have e1 : exS Γ fuel (.par 0 1 (.blt .abs (.cons (.var 0) .nil)) (.blt .abs (.cons (.var 1) .nil))) [.val (.int n), .val (.int d)] tp = .nx (mk n.natAbs d.natAbs) tp := by
    show SO.nx [.val (.int (if n < 0 then -n else n)), .val (.int (if d < 0 then -d else d))] tp = SO.nx [.val (.int (n.natAbs : Nat)), .val (.int (d.natAbs : Nat))] tp
    rw [abs_eq n, abs_eq d]
  show exSs Γ fuel (.cons _ (.cons _ _)) _ tp = _
  rw [cons_nx e1]
  have e2 : exS Γ fuel (.whl (.cmp .gt (.var 1) (.lit (.int 0))) (.cons (.par 0 1 (.var 1) (.bin .mod (.blt .int (.cons (.var 0) .nil)) (.var 1))) .nil)) (mk n.natAbs d.natAbs) tp = .nx (mk (Nat.gcd n.natAbs d.natAbs) 0) tp := by
    have := wh_gcd (c := fun env tp => ev Γ .t (.cmp .gt (.var 1) (.lit (.int 0))) env tp) (f := fun env tp => exSs Γ fuel (.cons (.par 0 1 (.var 1) (.bin .mod (.blt .int (.cons (.var 0) .nil)) (.var 1))) .nil) env tp) (mk := mk) (tp := tp) (fun a b => ?_) (fun a b hb => ?_) 3000 fuel n.natAbs d.natAbs (log_lt h1) hf
    · exact this
    · show Out.ok (PyData.bool (decide ((0 : Int) < (b : Int)))) tp = Out.ok (PyData.bool _) tp
      rw [show decide ((0 : Int) < (b : Int)) = decide (0 < b) from decide_eq_decide.mpr (by omega)]
    · refine cons_nx (e := mk b (a % b)) (t := tp) ?_
      have hm : modD (.int (a : Nat)) (.int (b : Nat)) = some (.int ((a % b : Nat) : Int)) := by
        show grd (decide ((0 : Int) < (b : Int))) (PyData.int ((a : Int) % (b : Int))) = _
        rw [decide_eq_true (by omega)]
        rfl
      show ((Out.opt (modD (.int (a : Nat)) (.int (b : Nat))) tp).so fun y t => SO.nx [.val (.int (b : Nat)), .val y] t) = _
      rw [hm]
      rfl
  rw [cons_nx e2]
  exact cons_rt rfl
variable {es : List Ent} {gl : Str → Option D}
theorem call_code {k f : Nat} {d : Df} {bs : List B} (h : es[f]? = some (.code d)) (hl : bs.length = d.ps.length) : callC es gl fuel (k + 1) f bs tp = finO (exSs ⟨callC es gl fuel k, gl⟩ fuel d.ss (bs ++ List.replicate (d.N.length - bs.length) .un) tp) := by
  conv => lhs; unfold callC
  rw [h]
  have e1 : Nat.beq bs.length d.ps.length = true := by rw [hl]; exact Nat.beq_refl _
  simp only [e1]
theorem share_mirror {i : Nat} (h : es[i]? = some (.code kShare)) (hf : 6001 ≤ fuel) : ∀ k, 1 ≤ k + 1 → ∀ bs tp, mShare bs tp = .bad ∨ callC es gl fuel (k + 1) i bs tp = mShare bs tp := by
  intro k _ bs tp
  unfold mShare
  split
  · rename_i n d
    cases hd : smD d with
    | false => exact .inl rfl
    | true =>
      refine .inr ?_
      rw [call_code h rfl]
      show finO (exSs _ fuel kShare.ss [.val (.int n), .val (.int d), .un, .un] tp) = _
      rw [share_run hd hf]
      rfl
  · exact .inl rfl
theorem gcd_mirror {i : Nat} (h : es[i]? = some (.code kGcd)) (hf : 6001 ≤ fuel) : ∀ k, 1 ≤ k + 1 → ∀ bs tp, mGcd bs tp = .bad ∨ callC es gl fuel (k + 1) i bs tp = mGcd bs tp := by
  intro k _ bs tp
  unfold mGcd
  split
  · rename_i n d
    cases hd : smD d with
    | false => exact .inl rfl
    | true =>
      refine .inr ?_
      rw [call_code h rfl]
      show finO (exSs _ fuel kGcd.ss [.val (.int n), .val (.int d)] tp) = _
      rw [gcd_run hd hf]
      rfl
  · exact .inl rfl
theorem ratio_mirror {i s : Nat} (h : es[i]? = some (.code (kRatio s))) (hs : es[s]? = some (.code kGcd)) (hf : 6001 ≤ fuel) : ∀ k, 2 ≤ k + 1 → ∀ bs tp, mShare bs tp = .bad ∨ callC es gl fuel (k + 1) i bs tp = mShare bs tp := by
  intro k hk bs tp
  obtain ⟨k, rfl⟩ : ∃ j, k = j + 1 := ⟨k - 1, by omega⟩
  unfold mShare
  split
  · rename_i n d
    cases hd : smD d with
    | false => exact .inl rfl
    | true =>
      refine .inr ?_
      rw [call_code h rfl]
      obtain ⟨h1, h2⟩ := band hd
      have h1 := blt_iff h1
      have h2 : d ≠ 0 := by simpa using h2
      have core : ∀ n d : Int, 0 < d → d.natAbs.log2 < 3000 → exSs ⟨callC es gl fuel (k + 1), gl⟩ fuel (.cons (.set 2 (.call s (.cons (.var 0) (.cons (.var 1) .nil)))) (.cons (.ret (.tup (.cons (.bin .fdiv (.var 0) (.var 2)) (.cons (.bin .fdiv (.var 1) (.var 2)) .nil)))) .nil)) [.val (.int n), .val (.int d), .un] tp
          = .rt (.tuple [.int (n / (Nat.gcd n.natAbs d.natAbs : Nat)), .int (d / (Nat.gcd n.natAbs d.natAbs : Nat))]) tp := fun n d hp hl => by
        have hsd : smD d = true := by
          unfold smD
          rw [Bool.and_eq_true]
          exact ⟨Nat.ble_eq_true_of_le hl, by simp; omega⟩
        have hc : callC es gl fuel (k + 1) s [.val (.int n), .val (.int d)] tp = .ok (.int (Nat.gcd n.natAbs d.natAbs : Nat)) tp := by
          rw [call_code hs rfl]
          show finO (exSs _ fuel kGcd.ss [.val (.int n), .val (.int d)] tp) = _
          rw [gcd_run hsd hf]
          rfl
        have e1 : exS ⟨callC es gl fuel (k + 1), gl⟩ fuel (.set 2 (.call s (.cons (.var 0) (.cons (.var 1) .nil)))) [.val (.int n), .val (.int d), .un] tp = .nx [.val (.int n), .val (.int d), .val (.int (Nat.gcd n.natAbs d.natAbs : Nat))] tp := by
          show (((callC es gl fuel (k + 1) s [.val (.int n), .val (.int d)] tp).bind fun d t2 => Out.ok d t2).so fun v t => SO.nx [.val (.int n), .val (.int d), .val v] t) = _
          rw [hc]
          rfl
        rw [cons_nx e1]
        refine cons_rt ?_
        have hg := gcd_div (n := n.natAbs) (d := d.natAbs) (by omega) hl
        have hq : ∀ i : Int, fdivD (.int i) (.int (Nat.gcd n.natAbs d.natAbs : Nat)) = some (.int (i / (Nat.gcd n.natAbs d.natAbs : Nat))) := fun i => by
          show grd (divOk _) _ = _
          rw [hg]
          rfl
        show (((Out.opt (fdivD (.int n) (.int (Nat.gcd n.natAbs d.natAbs : Nat))) tp).bind fun x t1 => ((Out.opt (fdivD (.int d) (.int (Nat.gcd n.natAbs d.natAbs : Nat))) t1).bind fun y t2 => Out.ok [y] t2).bind fun xs t2 => Out.ok (x :: xs) t2).bind fun ds t1 => Out.opt (grd (big ds.length) (PyData.tuple ds)) t1).so (fun d t => SO.rt d t) = _
        rw [hq, hq]
        rfl
      show finO (exSs _ fuel (.cons _ (.cons _ _)) [.val (.int n), .val (.int d), .un] tp) = Out.ok (frac n d) tp
      unfold frac
      by_cases hn : d < 0
      · have s2 : exS ⟨callC es gl fuel (k + 1), gl⟩ fuel (.ife (.cmp .lt (.var 1) (.lit (.int 0))) (.cons (.par 0 1 (.bin .sub (.lit (.int 0)) (.var 0)) (.bin .sub (.lit (.int 0)) (.var 1))) .nil) .nil) [.val (.int n), .val (.int d), .un] tp = .nx [.val (.int (-n)), .val (.int (-d)), .un] tp := by
          have e : ev ⟨callC es gl fuel (k + 1), gl⟩ .t (.cmp .lt (.var 1) (.lit (.int 0))) [.val (.int n), .val (.int d), .un] tp = .ok (.bool (decide (d < 0))) tp := rfl
          rw [decide_eq_true hn] at e
          rw [ife_ok e]
          show SO.nx [.val (.int (0 - n)), .val (.int (0 - d)), .un] tp = _
          rw [Int.zero_sub, Int.zero_sub]
        rw [cons_nx s2, decide_eq_true hn, core (-n) (-d) (by omega) (by rw [Int.natAbs_neg]; exact h1), Int.natAbs_neg, Int.natAbs_neg]
        rfl
      · have s2 : exS ⟨callC es gl fuel (k + 1), gl⟩ fuel (.ife (.cmp .lt (.var 1) (.lit (.int 0))) (.cons (.par 0 1 (.bin .sub (.lit (.int 0)) (.var 0)) (.bin .sub (.lit (.int 0)) (.var 1))) .nil) .nil) [.val (.int n), .val (.int d), .un] tp = .nx [.val (.int n), .val (.int d), .un] tp := by
          have e : ev ⟨callC es gl fuel (k + 1), gl⟩ .t (.cmp .lt (.var 1) (.lit (.int 0))) [.val (.int n), .val (.int d), .un] tp = .ok (.bool (decide (d < 0))) tp := rfl
          rw [decide_eq_false hn] at e
          rw [ife_ok e]
          rfl
        rw [cons_nx s2, decide_eq_false hn, core n d (by omega) h1]
        rfl
  · exact .inl rfl
theorem smI_mul {a b : Int} (h : smI a = true) (h' : smI b = true) : mulD (.int a) (.int b) = some (.int (a * b)) := by
  have h1 := blt_iff h
  have h2 := blt_iff h'
  show grd (mulOk a b) _ = _
  have : mulOk a b = true := Nat.ble_eq_true_of_le (by omega)
  rw [this]
  rfl
/-- two pairs: first the code's two parts, then a call of share (or ratio) -/
theorem op_mirror {i s : Nat} {x y : C} {f e : Int → Int → Int → Int → Int} (h : es[i]? = some (.code (kOp s x y))) (nv : argB x = fun _ => none) (nv' : argB y = fun _ => none) {k1 : Nat} (hs : ∀ k, k1 ≤ k + 1 → ∀ bs tp, mShare bs tp = .bad ∨ callC es gl fuel (k + 1) s bs tp = mShare bs tp) (hk1 : 1 ≤ k1)
    (hx : ∀ (Γ : Sm) (a b c d : Int) (tp : Tp), smI a = true → smI b = true → smI c = true → smI d = true → ev Γ .v x [.val (.tuple [.int a, .int b]), .val (.tuple [.int c, .int d])] tp = .ok (.int (f a b c d)) tp)
    (hy : ∀ (Γ : Sm) (a b c d : Int) (tp : Tp), smI a = true → smI b = true → smI c = true → smI d = true → ev Γ .v y [.val (.tuple [.int a, .int b]), .val (.tuple [.int c, .int d])] tp = .ok (.int (e a b c d)) tp) :
    ∀ k, k1 + 1 ≤ k + 1 → ∀ bs tp, mOp f e bs tp = .bad ∨ callC es gl fuel (k + 1) i bs tp = mOp f e bs tp := by
  intro k hk bs tp
  obtain ⟨k, rfl⟩ : ∃ j, k = j + 1 := ⟨k - 1, by omega⟩
  unfold mOp
  split
  · rename_i a b c d
    cases hg : (smI a && smI b) && (smI c && smI d) && smD (e a b c d) with
    | false => exact .inl rfl
    | true =>
      refine .inr ?_
      obtain ⟨hg, h5⟩ := band hg
      obtain ⟨hg, hg2⟩ := band hg
      obtain ⟨h1, h2⟩ := band hg
      obtain ⟨h3, h4⟩ := band hg2
      rw [call_code h rfl]
      have hc : callC es gl fuel (k + 1) s [.val (.int (f a b c d)), .val (.int (e a b c d))] tp = .ok (frac (f a b c d) (e a b c d)) tp := by
        have hm : mShare [.val (.int (f a b c d)), .val (.int (e a b c d))] tp = .ok (frac (f a b c d) (e a b c d)) tp := by
          unfold mShare
          simp only [h5]
        rcases hs k (by omega) [.val (.int (f a b c d)), .val (.int (e a b c d))] tp with z | z
        · rw [hm] at z
          cases z
        · rw [z, hm]
      show finO (exSs _ fuel (.cons (.ret (.call s (C.pr x y))) .nil) [.val (.tuple [.int a, .int b]), .val (.tuple [.int c, .int d])] tp) = _
      have e1 : exS ⟨callC es gl fuel (k + 1), gl⟩ fuel (.ret (.call s (C.pr x y))) [.val (.tuple [.int a, .int b]), .val (.tuple [.int c, .int d])] tp = .rt (frac (f a b c d) (e a b c d)) tp := by
        have ha : evA ⟨callC es gl fuel (k + 1), gl⟩ (C.pr x y) [.val (.tuple [.int a, .int b]), .val (.tuple [.int c, .int d])] tp = .ok [.val (.int (f a b c d)), .val (.int (e a b c d))] tp := by
          unfold evA evA evA
          rw [nv, nv']
          simp only [hx _ a b c d tp h1 h2 h3 h4, hy _ a b c d tp h1 h2 h3 h4, Out.bind]
        have hv : ev ⟨callC es gl fuel (k + 1), gl⟩ .v (.call s (C.pr x y)) [.val (.tuple [.int a, .int b]), .val (.tuple [.int c, .int d])] tp = .ok (frac (f a b c d) (e a b c d)) tp := by
          unfold ev
          rw [ha]
          show (fin .v ((callC es gl fuel (k + 1) s [.val (.int (f a b c d)), .val (.int (e a b c d))] tp).bind fun d t2 => Out.ok d t2)) = _
          rw [hc]
          rfl
        unfold exS
        rw [hv]
        rfl
      rw [cons_rt e1]
      rfl
  · exact .inl rfl
theorem ev_m {a b c d : Int} {tp : Tp} {v v' : Nat} {w w' : Nat} {i j : Int} {m : M} (h1 : ev Γ .r (C.i2 v w) [.val (.tuple [.int a, .int b]), .val (.tuple [.int c, .int d])] tp = .ok (.int i) tp) (h2 : ev Γ .r (C.i2 v' w') [.val (.tuple [.int a, .int b]), .val (.tuple [.int c, .int d])] tp = .ok (.int j) tp) (hi : smI i = true) (hj : smI j = true) (hm : m ≠ .t) :
    ev Γ m (.bin .mul (C.i2 v w) (C.i2 v' w')) [.val (.tuple [.int a, .int b]), .val (.tuple [.int c, .int d])] tp = .ok (.int (i * j)) tp := by
  conv => lhs; unfold ev
  rw [h1]
  show fin m ((ev Γ .r (C.i2 v' w') _ tp).bind fun y t2 => Out.opt (binD .mul (.int i) y) t2) = _
  rw [h2]
  show fin m (Out.opt (mulD (.int i) (.int j)) tp) = _
  rw [smI_mul hi hj]
  cases m with
  | v => rfl
  | r => rfl
  | t => exact absurd rfl hm
section
variable {a b c d : Int} (h1 : smI a = true) (h2 : smI b = true) (h3 : smI c = true) (h4 : smI d = true)
include h1 h2 h3 h4
theorem ev_sum {tp : Tp} : ev Γ .v (.bin .add (.bin .mul (C.i2 0 0) (C.i2 1 1)) (.bin .mul (C.i2 1 0) (C.i2 0 1))) [.val (.tuple [.int a, .int b]), .val (.tuple [.int c, .int d])] tp = .ok (.int (a * d + c * b)) tp := by
  conv => lhs; unfold ev
  rw [ev_m (m := .r) (i := a) (j := d) rfl rfl h1 h4 rne]
  show fin .v ((ev Γ .r _ _ tp).bind fun y t2 => Out.opt (binD .add (.int (a * d)) y) t2) = _
  rw [ev_m (m := .r) (i := c) (j := b) rfl rfl h3 h2 rne]
  rfl
theorem ev_dif {tp : Tp} : ev Γ .v (.bin .sub (.bin .mul (C.i2 0 0) (C.i2 1 1)) (.bin .mul (C.i2 1 0) (C.i2 0 1))) [.val (.tuple [.int a, .int b]), .val (.tuple [.int c, .int d])] tp = .ok (.int (a * d - c * b)) tp := by
  conv => lhs; unfold ev
  rw [ev_m (m := .r) (i := a) (j := d) rfl rfl h1 h4 rne]
  show fin .v ((ev Γ .r _ _ tp).bind fun y t2 => Out.opt (binD .sub (.int (a * d)) y) t2) = _
  rw [ev_m (m := .r) (i := c) (j := b) rfl rfl h3 h2 rne]
  rfl
theorem ev_les {tp : Tp} : ev Γ .v (.cmp .lt (.bin .mul (C.i2 0 0) (C.i2 1 1)) (.bin .mul (C.i2 1 0) (C.i2 0 1))) [.val (.tuple [.int a, .int b]), .val (.tuple [.int c, .int d])] tp = .ok (.bool (decide (a * d < c * b))) tp := by
  conv => lhs; unfold ev
  rw [ev_m (m := .r) (i := a) (j := d) rfl rfl h1 h4 rne]
  show ((ev Γ .r _ _ tp).bind fun y t2 => Out.opt ((cmpD .lt (PyData.int (a * d)) y).map PyData.bool) t2) = _
  rw [ev_m (m := .r) (i := c) (j := b) rfl rfl h3 h2 rne]
  rfl
end
theorem plus_mirror {i s k1 : Nat} (h : es[i]? = some (.code (kPlus s))) (hs : ∀ k, k1 ≤ k + 1 → ∀ bs tp, mShare bs tp = .bad ∨ callC es gl fuel (k + 1) s bs tp = mShare bs tp) (hk1 : 1 ≤ k1) :
    ∀ k, k1 + 1 ≤ k + 1 → ∀ bs tp, mOp (fun a b c d => a * d + c * b) (fun a b c d => b * d) bs tp = .bad ∨ callC es gl fuel (k + 1) i bs tp = mOp (fun a b c d => a * d + c * b) (fun a b c d => b * d) bs tp :=
  op_mirror h rfl rfl hs hk1 (fun Γ a b c d tp h1 h2 h3 h4 => ev_sum h1 h2 h3 h4) fun Γ a b c d tp h1 h2 h3 h4 => ev_m rfl rfl h2 h4 vne
theorem minus_mirror {i s k1 : Nat} (h : es[i]? = some (.code (kMinus s))) (hs : ∀ k, k1 ≤ k + 1 → ∀ bs tp, mShare bs tp = .bad ∨ callC es gl fuel (k + 1) s bs tp = mShare bs tp) (hk1 : 1 ≤ k1) :
    ∀ k, k1 + 1 ≤ k + 1 → ∀ bs tp, mOp (fun a b c d => a * d - c * b) (fun a b c d => b * d) bs tp = .bad ∨ callC es gl fuel (k + 1) i bs tp = mOp (fun a b c d => a * d - c * b) (fun a b c d => b * d) bs tp :=
  op_mirror h rfl rfl hs hk1 (fun Γ a b c d tp h1 h2 h3 h4 => ev_dif h1 h2 h3 h4) fun Γ a b c d tp h1 h2 h3 h4 => ev_m rfl rfl h2 h4 vne
theorem times_mirror {i s k1 : Nat} (h : es[i]? = some (.code (kTimes s))) (hs : ∀ k, k1 ≤ k + 1 → ∀ bs tp, mShare bs tp = .bad ∨ callC es gl fuel (k + 1) s bs tp = mShare bs tp) (hk1 : 1 ≤ k1) :
    ∀ k, k1 + 1 ≤ k + 1 → ∀ bs tp, mOp (fun a b c d => a * c) (fun a b c d => b * d) bs tp = .bad ∨ callC es gl fuel (k + 1) i bs tp = mOp (fun a b c d => a * c) (fun a b c d => b * d) bs tp :=
  op_mirror h rfl rfl hs hk1 (fun Γ a b c d tp h1 h2 h3 h4 => ev_m rfl rfl h1 h3 vne) fun Γ a b c d tp h1 h2 h3 h4 => ev_m rfl rfl h2 h4 vne
theorem over_mirror {i s k1 : Nat} (h : es[i]? = some (.code (kOver s))) (hs : ∀ k, k1 ≤ k + 1 → ∀ bs tp, mShare bs tp = .bad ∨ callC es gl fuel (k + 1) s bs tp = mShare bs tp) (hk1 : 1 ≤ k1) :
    ∀ k, k1 + 1 ≤ k + 1 → ∀ bs tp, mOp (fun a b c d => a * d) (fun a b c d => b * c) bs tp = .bad ∨ callC es gl fuel (k + 1) i bs tp = mOp (fun a b c d => a * d) (fun a b c d => b * c) bs tp :=
  op_mirror h rfl rfl hs hk1 (fun Γ a b c d tp h1 h2 h3 h4 => ev_m rfl rfl h1 h4 vne) fun Γ a b c d tp h1 h2 h3 h4 => ev_m rfl rfl h2 h3 vne
theorem less_mirror {i : Nat} (h : es[i]? = some (.code kLess)) : ∀ k, 1 ≤ k + 1 → ∀ bs tp, mLess bs tp = .bad ∨ callC es gl fuel (k + 1) i bs tp = mLess bs tp := by
  intro k hk bs tp
  unfold mLess
  split
  · rename_i a b c d
    cases hg : (smI a && smI b) && (smI c && smI d) with
    | false => exact .inl rfl
    | true =>
      refine .inr ?_
      obtain ⟨hg, hg2⟩ := band hg
      obtain ⟨h1, h2⟩ := band hg
      obtain ⟨h3, h4⟩ := band hg2
      rw [call_code h rfl]
      show finO (exSs _ fuel (.cons (.ret _) .nil) [.val (.tuple [.int a, .int b]), .val (.tuple [.int c, .int d])] tp) = _
      have e1 : exS ⟨callC es gl fuel k, gl⟩ fuel (.ret (.cmp .lt (.bin .mul (C.i2 0 0) (C.i2 1 1)) (.bin .mul (C.i2 1 0) (C.i2 0 1)))) [.val (.tuple [.int a, .int b]), .val (.tuple [.int c, .int d])] tp = .rt (.bool (decide (a * d < c * b))) tp := by
        unfold exS
        rw [ev_les h1 h2 h3 h4]
        rfl
      rw [cons_rt e1]
      rfl
  · exact .inl rfl
/-! .. that refuse to divide by 0 -/
def mShareX : List B → Tp → Out D
  | [.val (.int n), .val (.int d)], tp => match decide (d = 0) with
    | true => .exc 0 tp
    | false => mShare [.val (.int n), .val (.int d)] tp
  | _, _ => .bad
def mOpX (f : Int → Int → Int → Int → Int) (e : Int → Int → Int → Int → Int) : List B → Tp → Out D
  | [.val (.tuple [.int a, .int b]), .val (.tuple [.int c, .int d])], tp => match (smI a && smI b) && (smI c && smI d) && decide (e a b c d = 0) with
    | true => .exc 0 tp
    | false => mOp f e [.val (.tuple [.int a, .int b]), .val (.tuple [.int c, .int d])] tp
  | _, _ => .bad
theorem share_zero {n : Int} {k : Nat} (h : es[i]? = some (.code kShare)) : callC es gl fuel (k + 1) i [.val (.int n), .val (.int 0)] tp = .exc 0 tp := by
  rw [call_code h rfl]
  have e : ev ⟨callC es gl fuel k, gl⟩ .t (.cmp .eq (.var 1) (.lit (.int 0))) [.val (.int n), .val (.int 0), .un, .un] tp = .ok (.bool true) tp := rfl
  show finO (exSs _ fuel (.cons _ _) [.val (.int n), .val (.int 0), .un, .un] tp) = _
  unfold exSs
  rw [ife_ok e]
  rfl
theorem share_mirrorX {i : Nat} (h : es[i]? = some (.code kShare)) (hf : 6001 ≤ fuel) : ∀ k, 1 ≤ k + 1 → ∀ bs tp, mShareX bs tp = .bad ∨ callC es gl fuel (k + 1) i bs tp = mShareX bs tp := by
  intro k hk bs tp
  unfold mShareX
  split
  · rename_i n d
    by_cases hd : d = 0
    · subst hd
      exact .inr (share_zero h)
    · rw [decide_eq_false hd]
      exact share_mirror h hf k hk _ tp
  · exact .inl rfl
theorem over_mirrorX {i s : Nat} (h : es[i]? = some (.code (kOver s))) (hs : es[s]? = some (.code kShare)) (hf : 6001 ≤ fuel) : ∀ k, 2 ≤ k + 1 → ∀ bs tp, mOpX (fun a b c d => a * d) (fun a b c d => b * c) bs tp = .bad ∨ callC es gl fuel (k + 1) i bs tp = mOpX (fun a b c d => a * d) (fun a b c d => b * c) bs tp := by
  intro k hk bs tp
  have old := over_mirror (gl := gl) (s := s) (k1 := 1) h (share_mirror hs hf) (by decide) k hk bs tp
  obtain ⟨k, rfl⟩ : ∃ j, k = j + 1 := ⟨k - 1, by omega⟩
  unfold mOpX
  split
  · rename_i a b c d
    cases hg : (smI a && smI b) && (smI c && smI d) && decide (b * c = 0) with
    | false => exact old
    | true =>
      refine .inr ?_
      obtain ⟨hg, h5⟩ := band hg
      obtain ⟨hg, hg2⟩ := band hg
      obtain ⟨h1, h2⟩ := band hg
      obtain ⟨h3, h4⟩ := band hg2
      rw [call_code h rfl]
      have hx := fun Γ => ev_m (Γ := Γ) (a := a) (b := b) (c := c) (d := d) (tp := tp) (v := 0) (w := 0) (v' := 1) (w' := 1) (i := a) (j := d) rfl rfl h1 h4 vne
      have hy := fun Γ => ev_m (Γ := Γ) (a := a) (b := b) (c := c) (d := d) (tp := tp) (v := 0) (w := 1) (v' := 1) (w' := 0) (i := b) (j := c) rfl rfl h2 h3 vne
      have hc : callC es gl fuel (k + 1) s [.val (.int (a * d)), .val (.int (b * c))] tp = .exc 0 tp := by
        rw [of_decide_eq_true h5]
        exact share_zero hs
      show finO (exSs _ fuel (.cons (.ret (.call s (C.pr (.bin .mul (C.i2 0 0) (C.i2 1 1)) (.bin .mul (C.i2 0 1) (C.i2 1 0))))) .nil) [.val (.tuple [.int a, .int b]), .val (.tuple [.int c, .int d])] tp) = _
      have ha : evA ⟨callC es gl fuel (k + 1), gl⟩ (C.pr (.bin .mul (C.i2 0 0) (C.i2 1 1)) (.bin .mul (C.i2 0 1) (C.i2 1 0))) [.val (.tuple [.int a, .int b]), .val (.tuple [.int c, .int d])] tp = .ok [.val (.int (a * d)), .val (.int (b * c))] tp := by
        unfold evA evA evA
        rw [show argB (.bin .mul (C.i2 0 0) (C.i2 1 1)) = fun _ => none from rfl, show argB (.bin .mul (C.i2 0 1) (C.i2 1 0)) = fun _ => none from rfl]
        simp only [hx, hy, Out.bind]
      unfold exSs exS ev
      rw [ha]
      show finO (match (Out.so (fin .v ((callC es gl fuel (k + 1) s [.val (.int (a * d)), .val (.int (b * c))] tp).bind fun d t2 => Out.ok d t2)) fun d t => SO.rt d t) with
        | .nx e t => exSs _ fuel .nil e t
        | o => o) = _
      rw [hc]
      rfl
  · exact .inl rfl
end
end Q

set_option Elab.async false
set_option linter.all false
set_option maxRecDepth 100000
set_option exponentiation.threshold 4000
/-! a draw from the tape -/
namespace Q
open PySem PySem.Spec L2
open PyProof.Rows hiding St
def kTake : Df := ⟨["tape", "many"], ["tape", "many", "mixed", "drawn"], (.cons (.ife (.and (.cmp .eq (.tg 0 .left) (.lit (.int 0))) (.cmp .lt (.tg 0 .«at») (.blt .len (.cons (.tg 0 .cells) .nil)))) (.cons (.tput 0 .left (.ix (.tg 0 .cells) (.tg 0 .«at»))) (.cons (.tput 0 .«at» (.bin .add (.tg 0 .«at») (.lit (.int 1)))) .nil)) .nil) (.cons (.ife (.cmp .gt (.tg 0 .left) (.lit (.int 0))) (.cons (.set 3 (.bin .mod (.blt .int (.cons (.tg 0 .left) .nil)) (.var 1))) (.cons (.tput 0 .left (.bin .fdiv (.tg 0 .left) (.var 1))) (.cons (.ret (.var 3)) .nil))) .nil) (.cons (.tput 0 .salt (.bin .add (.tg 0 .salt) (.lit (.int 1)))) (.cons (.set 2 (.bin .mod (.blt .int (.cons (.bin .add (.bin .mul (.tg 0 .seed) (.lit (.int 48271))) (.bin .mul (.tg 0 .salt) (.lit (.int 69621)))) .nil)) (.lit (.int 2147483647)))) (.cons (.set 2 (.bin .mod (.blt .int (.cons (.bin .add (.bin .add (.bin .mul (.var 2) (.var 2)) (.bin .mul (.tg 0 .salt) (.lit (.int 40692)))) (.lit (.int 12345))) .nil)) (.lit (.int 2147483399)))) (.cons (.ret (.bin .mod (.blt .int (.cons (.var 2) .nil)) (.var 1))) .nil))))))⟩
def TpOk (tp : Tp) : Prop := smI tp.seed = true ∧ 0 ≤ tp.salt ∧ tp.salt < 2 ^ 900
section
variable {Γ : Sm} {fuel : Nat} {tp : Tp}
theorem nil_nx {env : QE} : exSs Γ fuel .nil env tp = .nx env tp := by unfold exSs; rfl
theorem mod_m {a b : Int} (h : 0 < b) : modD (.int a) (.int b) = some (.int (a % b)) := by
  show grd (decide (0 < b)) _ = _
  rw [decide_eq_true h]
  rfl
theorem fin_ok {m : M} (hm : m ≠ .t) (d : D) : fin m (Out.ok d tp) = .ok d tp := by
  cases m with
  | v => rfl
  | r => rfl
  | t => exact absurd rfl hm
section
variable {m : M} {a b : C} {env : QE} {i j : Int}
theorem ev_bin {o : BO} {d e z : D} (hm : m ≠ .t) (ha : ev Γ .r a env tp = .ok d tp) (hb : ev Γ .r b env tp = .ok e tp) (h : binD o d e = some z) : ev Γ m (.bin o a b) env tp = .ok z tp := by
  conv => lhs; unfold ev
  rw [ha]
  show fin m ((ev Γ .r b env tp).bind fun y t2 => Out.opt (binD o d y) t2) = _
  rw [hb]
  show fin m (Out.opt (binD o d e) tp) = _
  rw [h]
  exact fin_ok hm _
theorem ev_add (hm : m ≠ .t) (ha : ev Γ .r a env tp = .ok (.int i) tp) (hb : ev Γ .r b env tp = .ok (.int j) tp) : ev Γ m (.bin .add a b) env tp = .ok (.int (i + j)) tp := ev_bin hm ha hb rfl
theorem ev_mul (hm : m ≠ .t) (ha : ev Γ .r a env tp = .ok (.int i) tp) (hb : ev Γ .r b env tp = .ok (.int j) tp) (h : i.natAbs.log2 < 1000) (h' : j.natAbs.log2 < 1000) : ev Γ m (.bin .mul a b) env tp = .ok (.int (i * j)) tp :=
  ev_bin hm ha hb (smI_mul (Nat.ble_eq_true_of_le h) (Nat.ble_eq_true_of_le h'))
theorem ev_mod (hm : m ≠ .t) (ha : ev Γ .r a env tp = .ok (.int i) tp) (hb : ev Γ .r b env tp = .ok (.int j) tp) (h : 0 < j) : ev Γ m (.bin .mod a b) env tp = .ok (.int (i % j)) tp := ev_bin hm ha hb (mod_m h)
theorem ev_int (hm : m ≠ .t) (ha : ev Γ .r a env tp = .ok (.int i) tp) : ev Γ m (.blt .int (.cons a .nil)) env tp = .ok (.int i) tp := by
  conv => lhs; unfold ev evs evs
  rw [ha]
  exact fin_ok hm _
theorem set_nx {n k : Nat} {d : D} (h : ev Γ .v a env tp = .ok d tp) : exS Γ n (.set k a) env tp = .nx (env.set k (.val d)) tp := by
  unfold exS
  rw [h]
  rfl
end
theorem log_small {i : Int} (h0 : 0 ≤ i) (h : i < 2 ^ 999) : i.natAbs.log2 < 1000 := by
  by_cases hz : i.natAbs = 0
  · rw [hz]
    decide
  · refine Nat.lt_succ_of_lt ((Nat.log2_lt hz).mpr ?_)
    have h1 : ((i.natAbs : Nat) : Int) < ((2 ^ 999 : Nat) : Int) := by
      rw [Int.natAbs_of_nonneg h0]
      exact_mod_cast h
    exact_mod_cast h1
theorem mul_m {a b : Int} (h : a.natAbs.log2 < 1000) (h' : b.natAbs.log2 < 1000) : mulD (.int a) (.int b) = some (.int (a * b)) := smI_mul (Nat.ble_eq_true_of_le h) (Nat.ble_eq_true_of_le h')
/-- behind the first test: left, at -/
def tp1 (tp : Tp) : Tp := match (tp.left == 0) && decide (tp.pos < tp.cells.length) with
  | true => ⟨tp.cells, tp.pos + 1, (tp.cells[tp.pos]?).getD 0, tp.seed, tp.salt⟩
  | false => tp
theorem tp1_salt : (tp1 tp).salt = tp.salt ∧ (tp1 tp).seed = tp.seed := by
  unfold tp1
  split <;> exact ⟨rfl, rfl⟩
theorem take_run {m : Int} (hm : 1 ≤ m) (hm2 : m.natAbs.log2 < 9000) (ok : TpOk tp) : ∃ d tp', 0 ≤ d ∧ d < m ∧ tp'.seed = tp.seed ∧ 0 ≤ tp'.salt ∧ tp'.salt ≤ tp.salt + 1 ∧ exSs Γ fuel kTake.ss [.tape, .val (.int m), .un, .un] tp = .rt (.int d) tp' := by
  obtain ⟨k1, k2, k3⟩ := ok
  have k4 : tp.salt < 2 ^ 999 := Int.lt_of_lt_of_le k3 (by decide +kernel)
  have s1 : exS Γ fuel (.ife (.and (.cmp .eq (.tg 0 .left) (.lit (.int 0))) (.cmp .lt (.tg 0 .«at») (.blt .len (.cons (.tg 0 .cells) .nil)))) (.cons (.tput 0 .left (.ix (.tg 0 .cells) (.tg 0 .«at»))) (.cons (.tput 0 .«at» (.bin .add (.tg 0 .«at») (.lit (.int 1)))) .nil)) .nil) [.tape, .val (.int m), .un, .un] tp = .nx [.tape, .val (.int m), .un, .un] (tp1 tp) := by
    have hl : (tp.cells.map PyData.int).length = tp.cells.length := List.length_map ..
    have e : ev Γ .t (.and (.cmp .eq (.tg 0 .left) (.lit (.int 0))) (.cmp .lt (.tg 0 .«at») (.blt .len (.cons (.tg 0 .cells) .nil)))) [.tape, .val (.int m), .un, .un] tp = .ok (.bool ((tp.left == 0) && decide (tp.pos < tp.cells.length))) tp := by
      have e0 : ev Γ .t (.cmp .eq (.tg 0 .left) (.lit (.int 0))) [.tape, .val (.int m), .un, .un] tp = .ok (.bool (tp.left == 0)) tp := rfl
      have e1 : ev Γ .t (.cmp .lt (.tg 0 .«at») (.blt .len (.cons (.tg 0 .cells) .nil))) [.tape, .val (.int m), .un, .un] tp = .ok (.bool (decide ((tp.pos : Int) < ((tp.cells.map PyData.int).length : Int)))) tp := rfl
      rw [hl, show decide ((tp.pos : Int) < (tp.cells.length : Int)) = decide (tp.pos < tp.cells.length) from decide_eq_decide.mpr (by omega)] at e1
      unfold ev
      show (Out.bind (ev Γ .t (.cmp .eq (.tg 0 .left) (.lit (.int 0))) [.tape, .val (.int m), .un, .un] tp) _) = _
      rw [e0]
      cases tp.left == 0 with
      | true => exact e1
      | false => rfl
    rw [ife_ok e]
    unfold tp1
    cases hb : (tp.left == 0) && decide (tp.pos < tp.cells.length) with
    | false => exact nil_nx
    | true =>
      have hp : tp.pos < tp.cells.length := of_decide_eq_true (band hb).2
      have e2 : exS Γ fuel (.tput 0 .left (.ix (.tg 0 .cells) (.tg 0 .«at»))) [.tape, .val (.int m), .un, .un] tp = .nx [.tape, .val (.int m), .un, .un] ⟨tp.cells, tp.pos, (tp.cells[tp.pos]?).getD 0, tp.seed, tp.salt⟩ := by
        have hi : atI (tp.cells.map PyData.int) (tp.pos : Int) = some (.int ((tp.cells[tp.pos]?).getD 0)) := by
          unfold atI ixN
          rw [hl]
          simp [hp]
        show ((Out.opt (atI (tp.cells.map PyData.int) (tp.pos : Int)) tp).so fun d t => match tapeP .left d t with
          | some t' => SO.nx [.tape, .val (.int m), .un, .un] t'
          | none => .bad) = _
        rw [hi]
        rfl
      show exSs Γ fuel (.cons _ (.cons _ .nil)) _ tp = _
      rw [cons_nx e2]
      exact cons_nx rfl
  show ∃ d tp', _ ∧ _ ∧ _ ∧ _ ∧ _ ∧ exSs Γ fuel (.cons _ (.cons _ (.cons _ _))) _ tp = _
  rw [cons_nx s1]
  obtain ⟨q1, q2⟩ := tp1_salt (tp := tp)
  generalize tp1 tp = u at q1 q2
  have e : ev Γ .t (.cmp .gt (.tg 0 .left) (.lit (.int 0))) [.tape, .val (.int m), .un, .un] u = .ok (.bool (decide (0 < u.left))) u := rfl
  cases hb : decide (0 < u.left) with
  | true =>
    rw [hb] at e
    refine ⟨u.left % m, ⟨u.cells, u.pos, u.left / m, u.seed, u.salt⟩, Int.emod_nonneg _ (by omega), Int.emod_lt_of_pos _ (by omega), q2, by show 0 ≤ u.salt; omega, by show u.salt ≤ _; omega, ?_⟩
    refine cons_rt ?_
    rw [ife_ok e]
    have e1 : exS Γ fuel (.set 3 (.bin .mod (.blt .int (.cons (.tg 0 .left) .nil)) (.var 1))) [.tape, .val (.int m), .un, .un] u = .nx [.tape, .val (.int m), .un, .val (.int (u.left % m))] u := by
      show ((Out.opt (modD (.int u.left) (.int m)) u).so fun v t => SO.nx [.tape, .val (.int m), .un, .val v] t) = _
      rw [mod_m (by omega)]
      rfl
    have e2 : exS Γ fuel (.tput 0 .left (.bin .fdiv (.tg 0 .left) (.var 1))) [.tape, .val (.int m), .un, .val (.int (u.left % m))] u = .nx [.tape, .val (.int m), .un, .val (.int (u.left % m))] ⟨u.cells, u.pos, u.left / m, u.seed, u.salt⟩ := by
      have hd : fdivD (.int u.left) (.int m) = some (.int (u.left / m)) := by
        show grd (divOk m) _ = _
        have : divOk m = true := by
          unfold divOk
          rw [decide_eq_true (by omega), Bool.true_and]
          exact Nat.ble_eq_true_of_le hm2
        rw [this]
        rfl
      show ((Out.opt (fdivD (.int u.left) (.int m)) u).so fun d t => match tapeP .left d t with
          | some t' => SO.nx [.tape, .val (.int m), .un, .val (.int (u.left % m))] t'
          | none => .bad) = _
      rw [hd]
      rfl
    show exSs Γ fuel (.cons _ (.cons _ (.cons _ .nil))) _ u = _
    rw [cons_nx e1, cons_nx e2]
    exact cons_rt rfl
  | false =>
    rw [hb] at e
    have s2 : exS Γ fuel (.ife (.cmp .gt (.tg 0 .left) (.lit (.int 0))) (.cons (.set 3 (.bin .mod (.blt .int (.cons (.tg 0 .left) .nil)) (.var 1))) (.cons (.tput 0 .left (.bin .fdiv (.tg 0 .left) (.var 1))) (.cons (.ret (.var 3)) .nil))) .nil) [.tape, .val (.int m), .un, .un] u = .nx [.tape, .val (.int m), .un, .un] u := by
      rw [ife_ok e]
      exact nil_nx
    rw [cons_nx s2]
    have s3 : exS Γ fuel (.tput 0 .salt (.bin .add (.tg 0 .salt) (.lit (.int 1)))) [.tape, .val (.int m), .un, .un] u = .nx [.tape, .val (.int m), .un, .un] ⟨u.cells, u.pos, u.left, u.seed, u.salt + 1⟩ := rfl
    rw [cons_nx s3]
    have hs1 : (u.salt + 1).natAbs.log2 < 1000 := log_small (by omega) (by rw [q1]; exact Int.lt_of_lt_of_le (show tp.salt + 1 < 2 ^ 900 + 1 by omega) (by decide +kernel))
    have hs0 : u.seed.natAbs.log2 < 1000 := by rw [q2]; exact blt_iff k1
    let x : Int := (u.seed * 48271 + (u.salt + 1) * 69621) % 2147483647
    have hx0 : 0 ≤ x := Int.emod_nonneg _ (by decide)
    have hx1 : x < 2147483647 := Int.emod_lt_of_pos _ (by decide)
    have hx : x.natAbs.log2 < 1000 := log_small hx0 (Int.lt_trans hx1 (by decide +kernel))
    have s4 : exS Γ fuel (.set 2 (.bin .mod (.blt .int (.cons (.bin .add (.bin .mul (.tg 0 .seed) (.lit (.int 48271))) (.bin .mul (.tg 0 .salt) (.lit (.int 69621)))) .nil)) (.lit (.int 2147483647)))) [.tape, .val (.int m), .un, .un] ⟨u.cells, u.pos, u.left, u.seed, u.salt + 1⟩ = .nx [.tape, .val (.int m), .val (.int x), .un] ⟨u.cells, u.pos, u.left, u.seed, u.salt + 1⟩ :=
      set_nx (ev_mod vne (ev_int rne (ev_add rne (ev_mul rne (i := u.seed) (j := 48271) rfl rfl hs0 (by decide +kernel)) (ev_mul rne (i := u.salt + 1) (j := 69621) rfl rfl hs1 (by decide +kernel)))) rfl (by decide +kernel))
    rw [cons_nx s4]
    let z : Int := (x * x + (u.salt + 1) * 40692 + 12345) % 2147483399
    have s5 : exS Γ fuel (.set 2 (.bin .mod (.blt .int (.cons (.bin .add (.bin .add (.bin .mul (.var 2) (.var 2)) (.bin .mul (.tg 0 .salt) (.lit (.int 40692)))) (.lit (.int 12345))) .nil)) (.lit (.int 2147483399)))) [.tape, .val (.int m), .val (.int x), .un] ⟨u.cells, u.pos, u.left, u.seed, u.salt + 1⟩ = .nx [.tape, .val (.int m), .val (.int z), .un] ⟨u.cells, u.pos, u.left, u.seed, u.salt + 1⟩ :=
      set_nx (ev_mod vne (ev_int rne (ev_add rne (ev_add rne (ev_mul rne (i := x) (j := x) rfl rfl hx hx) (ev_mul rne (i := u.salt + 1) (j := 40692) rfl rfl hs1 (by decide +kernel))) (j := 12345) rfl)) rfl (by decide +kernel))
    rw [cons_nx s5]
    refine ⟨z % m, ⟨u.cells, u.pos, u.left, u.seed, u.salt + 1⟩, Int.emod_nonneg _ (by omega), Int.emod_lt_of_pos _ (by omega), q2, by show 0 ≤ u.salt + 1; omega, by show u.salt + 1 ≤ _; omega, ?_⟩
    refine cons_rt ?_
    show ((Out.opt (modD (.int z) (.int m)) (⟨u.cells, u.pos, u.left, u.seed, u.salt + 1⟩ : Tp)).so fun d t => SO.rt d t) = _
    rw [mod_m (by omega)]
    rfl
variable {es : List Ent} {gl : Str → Option D}
/-- n draws lie behind -/
def TpN (n : Nat) (tp : Tp) : Prop := smI tp.seed = true ∧ 0 ≤ tp.salt ∧ tp.salt ≤ n
theorem take_call {i k n : Nat} {m : Int} (h : es[i]? = some (.code kTake)) (hm : 1 ≤ m) (hm2 : m.natAbs.log2 < 9000) (ok : TpN n tp) (hn : n < 2 ^ 800) : ∃ d tp', 0 ≤ d ∧ d < m ∧ TpN (n + 1) tp' ∧ callC es gl fuel (k + 1) i [.tape, .val (.int m)] tp = .ok (.int d) tp' := by
  obtain ⟨h1, h2, h3⟩ := ok
  have hb : tp.salt < 2 ^ 900 := by
    have h4 : (n : Int) < ((2 ^ 800 : Nat) : Int) := by exact_mod_cast hn
    exact Int.lt_of_le_of_lt h3 (Int.lt_trans h4 (by decide +kernel))
  obtain ⟨d, tp', q1, q2, q3, q4, q5, q6⟩ := take_run (Γ := ⟨callC es gl fuel k, gl⟩) (fuel := fuel) hm hm2 ⟨h1, h2, hb⟩
  refine ⟨d, tp', q1, q2, ⟨by rw [q3]; exact h1, q4, by omega⟩, ?_⟩
  rw [call_code h rfl]
  show finO (exSs _ fuel kTake.ss [.tape, .val (.int m), .un, .un] tp) = _
  rw [q6]
  rfl
end
end Q

set_option Elab.async false
set_option linter.all false
set_option maxRecDepth 100000
set_option exponentiation.threshold 4000
/-! fractions as rational numbers -/
namespace Q
open PySem PySem.Spec L2
open PyProof.Rows hiding St
def fq (q : Rat) : D := .tuple [.int q.num, .int (q.den : Int)]
structure SmQ (q : Rat) : Prop where
  n : q.num.natAbs < 2 ^ 999
  d : q.den < 2 ^ 999
theorem smI_of {i : Int} (h : i.natAbs < 2 ^ 999) : smI i = true := by
  refine Nat.ble_eq_true_of_le ?_
  by_cases h0 : i.natAbs = 0
  · rw [h0]; decide
  · have := (Nat.log2_lt h0).mpr h
    omega
theorem SmQ.i1 {q : Rat} (h : SmQ q) : smI q.num = true := smI_of h.n
theorem SmQ.i2 {q : Rat} (h : SmQ q) : smI (q.den : Int) = true := smI_of (by simpa using h.d)
theorem frac_nat (n : Int) (d : Nat) (h : d ≠ 0) : frac n (d : Int) = fq (Rat.normalize n d h) := by
  unfold frac fq
  have hd : decide ((d : Int) < 0) = false := decide_eq_false (by omega)
  rw [hd, Rat.normalize_eq]
  simp
theorem fq_inj {x y : Rat} (h : fq x = fq y) : x = y := by
  unfold fq at h
  injection h with h
  injection h with h1 h2
  injection h1 with h1
  injection h2 with h2
  injection h2 with h2
  exact Rat.ext h1 (by exact_mod_cast h2)
theorem smD_mul {a b : Nat} (ha : a < 2 ^ 999) (hb : b < 2 ^ 999) (h1 : a ≠ 0) (h2 : b ≠ 0) : smD ((a : Int) * (b : Int)) = true := by
  unfold smD
  have e : ((a : Int) * (b : Int)).natAbs = a * b := by rw [Int.natAbs_mul]; simp
  rw [e, Bool.and_eq_true]
  have hp : 0 < a * b := Nat.mul_pos (by omega) (by omega)
  refine ⟨Nat.ble_eq_true_of_le ?_, ?_⟩
  · have : a * b < 2 ^ 1998 := by
      have : a * b < 2 ^ 999 * 2 ^ 999 := Nat.mul_lt_mul'' ha hb
      rwa [← Nat.pow_add] at this
    have := (Nat.log2_lt (by omega)).mpr this
    omega
  · have : (a : Int) * (b : Int) ≠ 0 := by
      have : ((a * b : Nat) : Int) ≠ 0 := by omega
      simpa using this
    simpa using this
theorem mPlus_fq {x y : Rat} {tp : Tp} (hx : SmQ x) (hy : SmQ y) : mOp (fun a b c d => a * d + c * b) (fun a b c d => b * d) [.val (fq x), .val (fq y)] tp = .ok (fq (x + y)) tp := by
  have hd := smD_mul hx.d hy.d x.den_nz y.den_nz
  show (match (smI x.num && smI (x.den : Int)) && (smI y.num && smI (y.den : Int)) && smD ((x.den : Int) * (y.den : Int)) with
    | true => Out.ok (frac (x.num * (y.den : Int) + y.num * (x.den : Int)) ((x.den : Int) * (y.den : Int))) tp
    | false => .bad) = _
  rw [hx.i1, hx.i2, hy.i1, hy.i2, hd]
  have := frac_nat (x.num * (y.den : Int) + y.num * (x.den : Int)) (x.den * y.den) (Nat.mul_ne_zero x.den_nz y.den_nz)
  rw [Rat.add_def, ← this]
  simp
theorem mMinus_fq {x y : Rat} {tp : Tp} (hx : SmQ x) (hy : SmQ y) : mOp (fun a b c d => a * d - c * b) (fun a b c d => b * d) [.val (fq x), .val (fq y)] tp = .ok (fq (x - y)) tp := by
  have hd := smD_mul hx.d hy.d x.den_nz y.den_nz
  show (match (smI x.num && smI (x.den : Int)) && (smI y.num && smI (y.den : Int)) && smD ((x.den : Int) * (y.den : Int)) with
    | true => Out.ok (frac (x.num * (y.den : Int) - y.num * (x.den : Int)) ((x.den : Int) * (y.den : Int))) tp
    | false => .bad) = _
  rw [hx.i1, hx.i2, hy.i1, hy.i2, hd]
  have := frac_nat (x.num * (y.den : Int) - y.num * (x.den : Int)) (x.den * y.den) (Nat.mul_ne_zero x.den_nz y.den_nz)
  rw [Rat.sub_def, ← this]
  simp
theorem mTimes_fq {x y : Rat} {tp : Tp} (hx : SmQ x) (hy : SmQ y) : mOp (fun a b c d => a * c) (fun a b c d => b * d) [.val (fq x), .val (fq y)] tp = .ok (fq (x * y)) tp := by
  have hd := smD_mul hx.d hy.d x.den_nz y.den_nz
  show (match (smI x.num && smI (x.den : Int)) && (smI y.num && smI (y.den : Int)) && smD ((x.den : Int) * (y.den : Int)) with
    | true => Out.ok (frac (x.num * y.num) ((x.den : Int) * (y.den : Int))) tp
    | false => .bad) = _
  rw [hx.i1, hx.i2, hy.i1, hy.i2, hd]
  have := frac_nat (x.num * y.num) (x.den * y.den) (Nat.mul_ne_zero x.den_nz y.den_nz)
  rw [Rat.mul_def, ← this]
  simp
theorem frac_divInt (n d : Int) (h : d ≠ 0) : frac n d = fq (Rat.divInt n d) := by
  by_cases hd : d < 0
  · have e : frac n d = frac (-n) (-d) := by
      unfold frac
      rw [decide_eq_true hd, decide_eq_false (by omega), Int.natAbs_neg, Int.natAbs_neg]
    obtain ⟨m, hm⟩ : ∃ m : Nat, -d = (m : Int) := ⟨(-d).toNat, by omega⟩
    have hm0 : m ≠ 0 := by omega
    rw [e, hm, frac_nat (-n) m hm0, ← Rat.neg_divInt_neg, hm, Rat.divInt_ofNat, Rat.mkRat_def, dif_neg hm0]
  · obtain ⟨m, rfl⟩ : ∃ m : Nat, d = (m : Int) := ⟨d.toNat, by omega⟩
    have hm0 : m ≠ 0 := by omega
    rw [frac_nat n m hm0, Rat.divInt_ofNat, Rat.mkRat_def, dif_neg hm0]
theorem mOver_fq {x y : Rat} {tp : Tp} (hx : SmQ x) (hy : SmQ y) (h0 : y ≠ 0) : mOp (fun a b c d => a * d) (fun a b c d => b * c) [.val (fq x), .val (fq y)] tp = .ok (fq (x / y)) tp := by
  have hn : y.num ≠ 0 := fun h => h0 (Rat.num_eq_zero.mp h)
  have hd : smD ((x.den : Int) * y.num) = true := by
    have hn' : y.num.natAbs ≠ 0 := by omega
    have := smD_mul hx.d hy.n x.den_nz hn'
    unfold smD at this ⊢
    have e : ((x.den : Int) * y.num) ≠ 0 := Int.mul_ne_zero (by have := x.den_nz; omega) hn
    rw [Bool.and_eq_true] at this ⊢
    refine ⟨?_, by simpa using e⟩
    have h1 := this.1
    rw [Int.natAbs_mul] at h1 ⊢
    simpa using h1
  show (match (smI x.num && smI (x.den : Int)) && (smI y.num && smI (y.den : Int)) && smD ((x.den : Int) * y.num) with
    | true => Out.ok (frac (x.num * (y.den : Int)) ((x.den : Int) * y.num)) tp
    | false => .bad) = _
  rw [hx.i1, hx.i2, hy.i1, hy.i2, hd]
  have e : ((x.den : Int) * y.num) ≠ 0 := Int.mul_ne_zero (by have := x.den_nz; omega) hn
  show Out.ok (frac _ _) tp = _
  rw [frac_divInt _ _ e]
  congr 2
  have := Rat.divInt_mul_divInt x.num (y.den : Int) (d₁ := (x.den : Int)) (d₂ := y.num)
  rw [← this, Rat.num_divInt_den, Rat.div_def, Rat.inv_def]
theorem mLess_fq {x y : Rat} {tp : Tp} (hx : SmQ x) (hy : SmQ y) : mLess [.val (fq x), .val (fq y)] tp = .ok (.bool (decide (x < y))) tp := by
  show (match (smI x.num && smI (x.den : Int)) && (smI y.num && smI (y.den : Int)) with
    | true => Out.ok (PyData.bool (decide (x.num * (y.den : Int) < y.num * (x.den : Int)))) tp
    | false => .bad) = _
  rw [hx.i1, hx.i2, hy.i1, hy.i2]
  show Out.ok _ tp = _
  congr 3
  exact propext (Rat.lt_iff x y).symm
theorem mShare_int {n d : Int} {tp : Tp} (h : d ≠ 0) (hl : d.natAbs < 2 ^ 2999) : mShare [.val (.int n), .val (.int d)] tp = .ok (fq (Rat.divInt n d)) tp := by
  have : smD d = true := by
    unfold smD
    rw [Bool.and_eq_true]
    refine ⟨Nat.ble_eq_true_of_le ?_, by simpa using h⟩
    have := (Nat.log2_lt (n := d.natAbs) (by omega)).mpr hl
    omega
  show (match smD d with
    | true => Out.ok (frac n d) tp
    | false => .bad) = _
  rw [this, ← frac_divInt n d h]
/-- a part of 1 / D, at most M -/
def Bd (D M : Nat) (q : Rat) : Prop := 0 < D ∧ ∃ n : Int, n.natAbs ≤ M * D ∧ q = mkRat n D
theorem Bd.sm {D M : Nat} {q : Rat} (h : Bd D M q) (h1 : M * D < 2 ^ 999) (h2 : D < 2 ^ 999) : SmQ q := by
  obtain ⟨hD, n, hn, rfl⟩ := h
  have hd0 : D ≠ 0 := by omega
  have hg : 0 < Nat.gcd n.natAbs D := Nat.gcd_pos_of_pos_right _ hD
  constructor
  · rw [Rat.num_mkRat]
    have e : (n / ((Nat.gcd n.natAbs D : Nat) : Int)).natAbs ≤ n.natAbs := Int.natAbs_ediv_le_natAbs _ _
    have e2 : (n / ((Nat.gcd D n.natAbs : Nat) : Int)).natAbs ≤ n.natAbs := Int.natAbs_ediv_le_natAbs _ _
    first
      | omega
      | (split <;> omega)
  · rw [Rat.den_mkRat]
    have : D / Nat.gcd n.natAbs D ≤ D := Nat.div_le_self _ _
    have : D / Nat.gcd D n.natAbs ≤ D := Nat.div_le_self _ _
    first
      | omega
      | (split <;> omega)
theorem Bd.add {D M M' : Nat} {x y : Rat} (h : Bd D M x) (h' : Bd D M' y) : Bd D (M + M') (x + y) := by
  obtain ⟨hD, n, hn, rfl⟩ := h
  obtain ⟨_, m, hm, rfl⟩ := h'
  have hd0 : D ≠ 0 := by omega
  refine ⟨hD, n + m, ?_, ?_⟩
  · have := Int.natAbs_add_le n m
    rw [Nat.add_mul]
    omega
  · rw [Rat.mkRat_add_mkRat n m hd0 hd0, ← Int.add_mul]
    exact Rat.mkRat_mul_right hd0
theorem Bd.neg {D M : Nat} {x : Rat} (h : Bd D M x) : Bd D M (-x) := by
  obtain ⟨hD, n, hn, rfl⟩ := h
  exact ⟨hD, -n, by rw [Int.natAbs_neg]; exact hn, Rat.neg_mkRat n D⟩
theorem Bd.sub {D M M' : Nat} {x y : Rat} (h : Bd D M x) (h' : Bd D M' y) : Bd D (M + M') (x - y) := by
  rw [Rat.sub_eq_add_neg]
  exact h.add h'.neg
theorem Bd.mul {D D' M M' : Nat} {x y : Rat} (h : Bd D M x) (h' : Bd D' M' y) : Bd (D * D') (M * M') (x * y) := by
  obtain ⟨hD, n, hn, rfl⟩ := h
  obtain ⟨hD', m, hm, rfl⟩ := h'
  refine ⟨Nat.mul_pos hD hD', n * m, ?_, ?_⟩
  · rw [Int.natAbs_mul]
    calc n.natAbs * m.natAbs ≤ (M * D) * (M' * D') := Nat.mul_le_mul hn hm
      _ = _ := by simp only [Nat.mul_assoc, Nat.mul_left_comm, Nat.mul_comm]
  · rw [Rat.mkRat_mul_mkRat]
theorem Bd.mono {D D' M M' : Nat} {x : Rat} (h : Bd D M x) (hd : D ∣ D') (h0 : 0 < D') (hm : M ≤ M') : Bd D' M' x := by
  obtain ⟨hD, n, hn, rfl⟩ := h
  obtain ⟨c, rfl⟩ := hd
  have hc : c ≠ 0 := fun e => by subst e; simp at h0
  refine ⟨h0, n * c, ?_, ?_⟩
  · rw [Int.natAbs_mul, Int.natAbs_natCast]
    calc n.natAbs * c ≤ (M * D) * c := Nat.mul_le_mul_right _ hn
      _ = M * (D * c) := Nat.mul_assoc ..
      _ ≤ M' * (D * c) := Nat.mul_le_mul_right _ hm
  · exact (Rat.mkRat_mul_right hc).symm
theorem Bd.le {D M M' : Nat} {x : Rat} (h : Bd D M x) (hm : M ≤ M') : Bd D M' x := h.mono (Nat.dvd_refl D) h.1 hm
theorem Bd.int (i : Int) : Bd 1 i.natAbs (i : Rat) := ⟨Nat.one_pos, i, by omega, by rw [Rat.mkRat_one]⟩
theorem Bd.zero {D : Nat} (h : 0 < D) : Bd D 0 0 := ⟨h, 0, by simp, by simp⟩
theorem Bd.one {D : Nat} (h : 0 < D) : Bd D 1 1 := ⟨h, D, by simp, by rw [← Rat.divInt_ofNat, Rat.divInt_self' (by omega)]⟩
end Q

set_option Elab.async false
set_option linter.all false
set_option maxRecDepth 100000
set_option exponentiation.threshold 4000
/-! running codes on fractions -/
namespace Q
open PySem PySem.Spec L2
open PyProof.Rows hiding St
/-! ### steps, for simp -/
/-- τ; that f stands in it keeps simp from going into f -/
abbrev K2 {γ : Type} (_ : γ) (τ : Type) : Type := τ
def SO.thn (o : SO) (f : QE → Tp → SO) : K2 f SO := match o with
  | .nx e t => f e t
  | o => o
def Out.bnd {α β : Type} (o : Out α) (f : α → Tp → Out β) : K2 f (Out β) := o.bind f
def Out.sod {α : Type} (o : Out α) (f : α → Tp → SO) : K2 f SO := o.so f
section
variable {α β : Type} {e env : QE} {t tp : Tp} {d : D} {f : QE → Tp → SO} {g : α → Tp → Out β} {h : α → Tp → SO} {a : α}
theorem thn_nx : (SO.nx e t).thn f = f e t := Eq.trans rfl rfl
theorem thn_rt : (SO.rt d t).thn f = .rt d t := Eq.trans rfl rfl
theorem thn_ct : (SO.ct e t).thn f = .ct e t := Eq.trans rfl rfl
theorem thn_br : (SO.br e t).thn f = .br e t := Eq.trans rfl rfl
theorem bind_ok : (Out.ok a t).bnd g = g a t := Eq.trans rfl rfl
theorem so_ok : (Out.ok a t).sod h = h a t := Eq.trans rfl rfl
theorem opt_some : Out.opt (some a) t = .ok a t := Eq.trans rfl rfl
theorem getB_0 {b : B} : getB (b :: env) 0 = b := Eq.trans rfl rfl
theorem getB_s {b : B} {i : Nat} : getB (b :: env) (i + 1) = getB env i := Eq.trans rfl rfl
theorem fi_v {o : Out D} : fin .v o = o := Eq.trans rfl rfl
theorem fi_r {o : Out D} : fin .r o = o := Eq.trans rfl rfl
theorem fi_t {o : Out D} : fin .t o = o.bnd fun x t => .opt ((truD x).map .bool) t := Eq.trans rfl rfl
theorem bT_nm {i : Nat} : bindT (.nm i) d env = some (env.set i (.val d)) := by unfold bindT; rfl
theorem bT_tp {ts : Tgs} {ds : List D} : bindT (.tp ts) (.tuple ds) env = bindTs ts ds env := by (conv => lhs; unfold bindT) <;> rfl
theorem bTs_nil : bindTs .nil [] env = some env := by unfold bindTs; rfl
theorem bTs_cons {x : Tg} {ts : Tgs} {ds : List D} : bindTs (.cons x ts) (d :: ds) env = (bindT x d env).bind fun e => bindTs ts ds e := by (conv => lhs; unfold bindTs) <;> rfl
theorem im_seq {ds : List D} : itemsOf .seq ds = seq1D ds := Eq.trans rfl rfl
theorem im_rng1 {ds : List D} : itemsOf .rng1 ds = rng1D ds := Eq.trans rfl rfl
theorem im_rng2 {ds : List D} : itemsOf .rng2 ds = rng2D ds := Eq.trans rfl rfl
theorem im_enum {ds : List D} : itemsOf .enum ds = enumD ds := Eq.trans rfl rfl
theorem im_zip {ds : List D} : itemsOf .zip ds = zipD ds := Eq.trans rfl rfl
theorem im_rng3 {ds : List D} : itemsOf .rng3 ds = rng3D ds := Eq.trans rfl rfl
theorem im_items {ds : List D} : itemsOf .items ds = itemsD ds := Eq.trans rfl rfl
end
section
variable {Γ : Sm} {n : Nat} {env : QE} {tp : Tp} {m : M}
def forF (Γ : Sm) (n : Nat) (g : Tg) (b : Ss) : D → QE → Tp → SO := fun x env tp => match bindT g x env with
  | some env1 => exSs Γ n b env1 tp
  | none => .bad
def lcf (Γ : Sm) (t : Tg) (cs : Cs) (e : C) (env : QE) : D → Tp → Out (Option D) := fun x tp => match bindT t x env with
  | none => .bad
  | some env1 => ((evC Γ cs env1 tp).bnd fun b tp2 => match b with
    | true => (ev Γ .v e env1 tp2).bnd fun d tp3 => .ok (some d) tp3
    | false => .ok none tp2).nox
theorem xs_nil : exSs Γ n .nil env tp = .nx env tp := by unfold exSs; rfl
theorem xs_cons {s : S} {ss : Ss} : exSs Γ n (.cons s ss) env tp = (exS Γ n s env tp).thn fun e t => exSs Γ n ss e t := by
  (conv => lhs; unfold exSs) <;> rfl
theorem x_set {i : Nat} {e : C} : exS Γ n (.set i e) env tp = (ev Γ .v e env tp).sod fun d t => .nx (env.set i (.val d)) t := by unfold exS; rfl
theorem x_setL {i : Nat} {e : C} : exS Γ n (.setL i e) env tp = (ev Γ .v e env tp).sod fun d t => match d with
    | .list ds => .nx (env.set i (.own ds)) t
    | _ => .bad := by unfold exS; rfl
theorem x_par {i j : Nat} {a b : C} : exS Γ n (.par i j a b) env tp = (ev Γ .v a env tp).sod fun x t => (ev Γ .v b env t).sod fun y t => .nx ((env.set i (.val x)).set j (.val y)) t := by unfold exS; rfl
theorem x_unp {g : Tg} {e : C} : exS Γ n (.unp g e) env tp = (ev Γ .v e env tp).sod fun d t => match bindT g d env with
    | some env1 => .nx env1 t
    | none => .bad := by unfold exS; rfl
theorem x_app {i : Nat} {e : C} : exS Γ n (.app i e) env tp = match getB env i with
    | .own ds => (ev Γ .v e env tp).sod fun d t => match big (ds.length + 1) with
      | true => .nx (env.set i (.own (ds ++ [d]))) t
      | false => .bad
    | _ => .bad := by unfold exS; rfl
theorem x_ext {i : Nat} {e : C} : exS Γ n (.ext i e) env tp = match getB env i with
    | .own ds => (ev Γ .v e env tp).sod fun d t => match d with
      | .list es => match big (ds.length + es.length) with
        | true => .nx (env.set i (.own (ds ++ es))) t
        | false => .bad
      | _ => .bad
    | _ => .bad := by unfold exS; rfl
theorem x_sub {i : Nat} {k e : C} : exS Γ n (.sub i k e) env tp = match getB env i with
    | .own ds => (ev Γ .v e env tp).sod fun d t => (ev Γ .r k env t).sod fun x t => match x with
      | .int a => match ixN ds.length a with
        | some j => .nx (env.set i (.own (ds.set j d))) t
        | none => .bad
      | _ => .bad
    | _ => .bad := by unfold exS; rfl
theorem x_aug {i : Nat} {o : BO} {e : C} : exS Γ n (.aug i o e) env tp = match getB env i with
    | .val (.int x) => (ev Γ .r e env tp).sod fun y t => match y with
      | .int y => match binD o (.int x) (.int y) with
        | some z => .nx (env.set i (.val z)) t
        | none => .bad
      | _ => .bad
    | _ => .bad := by unfold exS; rfl
theorem x_ret {e : C} : exS Γ n (.ret e) env tp = (ev Γ .v e env tp).sod fun d t => .rt d t := by unfold exS; rfl
theorem x_ife {c : C} {a b : Ss} : exS Γ n (.ife c a b) env tp = (ev Γ .t c env tp).sod fun x t => match x with
    | .bool true => exSs Γ n a env t
    | .bool false => exSs Γ n b env t
    | _ => .bad := by
  (conv => lhs; unfold exS) <;> rfl
theorem x_ex {e : C} : exS Γ n (.ex e) env tp = (ev Γ .r e env tp).sod fun _ t => .nx env t := by unfold exS; rfl
theorem x_cont : exS Γ n .cont env tp = .ct env tp := by unfold exS; rfl
theorem x_brk : exS Γ n .brk env tp = .br env tp := by unfold exS; rfl
theorem x_pass : exS Γ n .pass env tp = .nx env tp := by unfold exS; rfl
theorem x_frz {i : Nat} : exS Γ n (.frz i) env tp = match getB env i with
    | .own ds => .nx (env.set i (.val (.list ds))) tp
    | .owd kb kvs => .nx (env.set i (.val (.dict kvs))) tp
    | _ => .nx env tp := by unfold exS; rfl
theorem x_for {g : Tg} {k : IK} {as : Cs} {b : Ss} : exS Γ n (.for_ g k as b) env tp = ((evs Γ .v as env tp).bnd fun ds t => Out.opt (itemsOf k ds) t).sod fun xs t => forGo (forF Γ n g b) xs env t := by unfold exS; rfl
theorem v_var {i : Nat} : ev Γ m (.var i) env tp = fin m (match getB env i with
    | .val d => .ok d tp
    | .own ds => match m.isR with
      | true => .ok (.list ds) tp
      | false => .bad
    | .owd kb kvs => match m.isR with
      | true => .ok (.dict kvs) tp
      | false => .bad
    | _ => .bad) := by unfold ev; rfl
theorem v_lit {d : D} : ev Γ m (.lit d) env tp = fin m (.ok d tp) := by unfold ev; rfl
theorem v_glo {x : Str} : ev Γ m (.glo x) env tp = fin m (.opt (Γ.glob x) tp) := by unfold ev; rfl
theorem v_bin {o : BO} {a b : C} : ev Γ m (.bin o a b) env tp = fin m ((ev Γ .r a env tp).bnd fun x t1 => (ev Γ .r b env t1).bnd fun y t2 => .opt (binD o x y) t2) := by
  (conv => lhs; unfold ev) <;> rfl
theorem v_neg {a : C} : ev Γ m (.neg a) env tp = fin m ((ev Γ .r a env tp).bnd fun x t1 => match x with
    | .int i => .ok (.int (-i)) t1
    | _ => .bad) := by
  (conv => lhs; unfold ev) <;> rfl
theorem v_cmp {o : CO} {a b : C} : ev Γ m (.cmp o a b) env tp = (ev Γ .r a env tp).bnd fun x t1 => (ev Γ .r b env t1).bnd fun y t2 => .opt ((cmpD o x y).map .bool) t2 := by
  (conv => lhs; unfold ev) <;> rfl
theorem v_chain {o p : CO} {a b c : C} : ev Γ m (.chain o p a b c) env tp = (ev Γ .r a env tp).bnd fun x t1 => (ev Γ .r b env t1).bnd fun y t2 => (Out.opt (cmpD o x y) t2).bnd fun k t3 => match k with
    | true => (ev Γ .r c env t3).bnd fun z t4 => .opt ((cmpD p y z).map .bool) t4
    | false => .ok (.bool false) t3 := by
  (conv => lhs; unfold ev) <;> rfl
theorem v_not {a : C} : ev Γ m (.not a) env tp = match m with
    | .t => (ev Γ .t a env tp).bnd fun x t1 => match x with
      | .bool c => .ok (.bool (!c)) t1
      | _ => .bad
    | _ => (ev Γ .r a env tp).bnd fun x t1 => .opt ((truD x).map fun b => .bool (!b)) t1 := by
  (conv => lhs; unfold ev) <;> rfl
theorem v_and {a b : C} : ev Γ m (.and a b) env tp = (ev Γ m.op a env tp).bnd fun x t1 => match x with
    | .bool true => ev Γ m b env t1
    | .bool false => .ok (.bool false) t1
    | _ => .bad := by
  (conv => lhs; unfold ev) <;> rfl
theorem v_or {a b : C} : ev Γ m (.or a b) env tp = (ev Γ m.op a env tp).bnd fun x t1 => match x with
    | .bool true => .ok (.bool true) t1
    | .bool false => ev Γ m b env t1
    | _ => .bad := by
  (conv => lhs; unfold ev) <;> rfl
theorem v_ite {t a b : C} : ev Γ m (.ite t a b) env tp = (ev Γ .t t env tp).bnd fun x t1 => match x with
    | .bool true => ev Γ m a env t1
    | .bool false => ev Γ m b env t1
    | _ => .bad := by
  (conv => lhs; unfold ev) <;> rfl
theorem v_call {f : Nat} {as : Cs} : ev Γ m (.call f as) env tp = fin m ((evA Γ as env tp).bnd fun bs t1 => (Γ.call f (bs.map unown) t1).bnd fun d t2 => match bs.any isOwn && !noLst d with
    | true => .bad
    | false => .ok d t2) := by
  (conv => lhs; unfold ev) <;> rfl
theorem v_blt {f : BF} {as : Cs} : ev Γ m (.blt f as) env tp = fin m ((evs Γ .r as env tp).bnd fun ds t1 => .opt (bltD f ds) t1) := by
  (conv => lhs; unfold ev) <;> rfl
theorem v_ix {a i : C} : ev Γ m (.ix a i) env tp = fin m ((ev Γ .r a env tp).bnd fun x t1 => (ev Γ .r i env t1).bnd fun y t2 => .opt (ixD x y) t2) := by
  (conv => lhs; unfold ev) <;> rfl
theorem v_slc {a : C} {lo hi : Cs} : ev Γ m (.slc a lo hi) env tp = fin m ((ev Γ .r a env tp).bnd fun x t1 => ((evs Γ .r lo env t1).bnd fun l t => .opt (partD l) t).bnd fun l t2 => ((evs Γ .r hi env t2).bnd fun h t => .opt (partD h) t).bnd fun h t3 =>
    .opt (slcD x l h) t3) := by
  (conv => lhs; unfold ev) <;> rfl
theorem v_lst {as : Cs} : ev Γ m (.lst as) env tp = fin m ((evs Γ .v as env tp).bnd fun ds t1 => .opt (grd (big ds.length) (.list ds)) t1) := by
  (conv => lhs; unfold ev) <;> rfl
theorem v_tup {as : Cs} : ev Γ m (.tup as) env tp = fin m ((evs Γ .v as env tp).bnd fun ds t1 => .opt (grd (big ds.length) (.tuple ds)) t1) := by
  (conv => lhs; unfold ev) <;> rfl
theorem v_rev {a : C} : ev Γ m (.rev a) env tp = fin m ((ev Γ .r a env tp).bnd fun x t => .opt (revD x) t) := by
  (conv => lhs; unfold ev) <;> rfl
theorem v_lc {e : C} {t : Tg} {k : IK} {as cs : Cs} {ow : List Nat} : ev Γ m (.lc e t k as cs ow) env tp = fin m ((evs Γ k.md as env tp).bnd fun ds t1 => (Out.opt (itemsOf k ds) t1).bnd fun xs t2 => match big xs.length with
    | true => (lcGo (lcf Γ t cs e (wipeB env ow)) xs [] t2).bnd fun r t3 => .ok (.list r) t3
    | false => .bad) := by
  (conv => lhs; unfold ev) <;> rfl
theorem es_nil' : evs Γ m .nil env tp = .ok [] tp := by unfold evs; rfl
theorem es_cons' {a : C} {as : Cs} : evs Γ m (.cons a as) env tp = (ev Γ m a env tp).bnd fun x t1 => (evs Γ m as env t1).bnd fun xs t2 => .ok (x :: xs) t2 := by
  (conv => lhs; unfold evs) <;> rfl
theorem ea_nil : evA Γ .nil env tp = .ok [] tp := by unfold evA; rfl
theorem ea_cons {a : C} {as : Cs} : evA Γ (.cons a as) env tp = (match argB a env with
    | some b => Out.ok b tp
    | none => (ev Γ .v a env tp).bnd fun x t => Out.ok (B.val x) t).bnd fun b t1 => (evA Γ as env t1).bnd fun xs t2 => .ok (b :: xs) t2 := by
  (conv => lhs; unfold evA) <;> rfl
theorem ec_nil : evC Γ .nil env tp = .ok true tp := by unfold evC; rfl
theorem ec_one {a : C} : evC Γ (.cons a .nil) env tp = (ev Γ .t a env tp).bnd fun x t1 => match x with
    | .bool c => .ok c t1
    | _ => .bad := by
  (conv => lhs; unfold evC) <;> rfl
end
/-- a tuple or a list -/
def sq (b : Bool) (xs : List D) : D := match b with
  | true => .tuple xs
  | false => .list xs
abbrev qs (l : List Rat) : List D := l.map fq
section
variable {b : Bool} {xs : List D} {tp : Tp}
theorem sq_f : sq false xs = .list xs := rfl
theorem sq_t : sq true xs = .tuple xs := rfl
theorem seqOf_sq : seqOf (sq b xs) = some xs := by cases b <;> rfl
theorem len_sq : bltD .len [sq b xs] = some (.int xs.length) := by cases b <;> rfl
theorem seq1_sq : seq1D [sq b xs] = some xs := by cases b <;> rfl
theorem ix_sq {i : Int} : ixD (sq b xs) (.int i) = atI xs i := by cases b <;> rfl
theorem zipD_sq {b' : Bool} {ys : List D} : zipD [sq b xs, sq b' ys] = some (zipGo xs ys) := by cases b <;> cases b' <;> rfl
theorem enumD_sq : enumD [sq b xs] = some (enumGo 0 xs) := by cases b <;> rfl
theorem rev_sq : revD (sq b xs) = some (sq b xs.reverse) := by cases b <;> rfl
theorem tru_sq : truD (sq b xs) = some (!xs.isEmpty) := by cases b <;> rfl
theorem eqD_int {i j : Int} : eqD (.int i) (.int j) = some (i == j) := rfl
theorem tru_bool {c : Bool} : truD (.bool c) = some c := rfl
theorem tru_int {i : Int} : truD (.int i) = some (i != 0) := rfl
theorem tru_none : truD .none = some false := rfl
theorem seqOf_l {xs : List D} : seqOf (.list xs) = some xs := rfl
theorem seqOf_t {xs : List D} : seqOf (.tuple xs) = some xs := rfl
theorem seq1_l {xs : List D} : seq1D [.list xs] = some xs := rfl
theorem seq1_t {xs : List D} : seq1D [.tuple xs] = some xs := rfl
theorem zipD_eq {d e : D} : zipD [d, e] = (seqOf d).bind fun xs => (seqOf e).map fun ys => zipGo xs ys := rfl
theorem enumD_eq {d : D} : enumD [d] = (seqOf d).map (enumGo 0) := rfl
theorem tup_l {xs : List D} : bltD .tuple [.list xs] = some (.tuple xs) := rfl
theorem tup_t {xs : List D} : bltD .tuple [.tuple xs] = some (.tuple xs) := rfl
theorem tup_sq {b : Bool} {xs : List D} : bltD .tuple [sq b xs] = some (.tuple xs) := by cases b <;> rfl
theorem list_sq {b : Bool} {xs : List D} : bltD .list [sq b xs] = some (.list xs) := by cases b <;> rfl
theorem len_l {xs : List D} : bltD .len [.list xs] = some (.int xs.length) := rfl
theorem len_t {xs : List D} : bltD .len [.tuple xs] = some (.int xs.length) := rfl
theorem grd_true {α : Type} {x : α} : grd true x = some x := rfl
theorem bin_addI {i j : Int} : binD .add (.int i) (.int j) = some (.int (i + j)) := rfl
theorem bin_subI {i j : Int} : binD .sub (.int i) (.int j) = some (.int (i - j)) := rfl
theorem ix_l {xs : List D} {i : Int} : ixD (.list xs) (.int i) = atI xs i := rfl
theorem ix_t {xs : List D} {i : Int} : ixD (.tuple xs) (.int i) = atI xs i := rfl
theorem big1 : big 1 = true := rfl
theorem big2 : big 2 = true := rfl
theorem ixN_lt {n k : Nat} (h : k < n) : ixN n (k : Int) = some k := by
  unfold ixN
  simp [h]
theorem noLst_fq (q : Rat) : noLst (fq q) = true := rfl
theorem zipGo_map {α β : Type} (e : α → D) (e' : β → D) : ∀ (l : List α) (m : List β), zipGo (l.map e) (m.map e') = (l.zip m).map fun p => .tuple [e p.1, e' p.2]
  | [], _ => rfl
  | _ :: _, [] => rfl
  | x :: l, y :: m => by
    show PyData.tuple [e x, e' y] :: zipGo (l.map e) (m.map e') = _
    rw [zipGo_map e e' l m]
    rfl
theorem enumGo_map {α : Type} (e : α → D) : ∀ (l : List α) (k : Nat), enumGo k (l.map e) = (l.zipIdx k).map fun p => .tuple [.int (p.2 : Nat), e p.1]
  | [], _ => rfl
  | x :: l, k => by
    show PyData.tuple [.int (k : Nat), e x] :: enumGo (k + 1) (l.map e) = _
    rw [enumGo_map e l (k + 1)]
    rfl
theorem rngGo_map (lo : Int) : ∀ (n i : Nat), rngGo lo i n = (List.range' i n).map fun j => .int (lo + (j : Nat))
  | 0, _ => rfl
  | n + 1, i => by
    show PyData.int (lo + (i : Nat)) :: rngGo lo (i + 1) n = _
    rw [rngGo_map lo n (i + 1)]
    rfl
theorem rng1_nat {n : Nat} (h : n ≤ 1000) : rng1D [.int (n : Int)] = some ((List.range n).map fun j : Nat => PyData.int (j : Int)) := by
  show grd (sm62 (n : Int) && big (n : Int).toNat) (rngGo 0 0 (n : Int).toNat) = _
  have e1 : sm62 (n : Int) = true := by
    unfold sm62
    rw [Bool.and_eq_true]
    exact ⟨decide_eq_true (by omega), decide_eq_true (by omega)⟩
  have e2 : big (n : Int).toNat = true := Nat.ble_eq_true_of_le (by simp; omega)
  rw [e1, e2, Bool.and_self, grd_true, Int.toNat_natCast, rngGo_map, List.range_eq_range']
  refine congrArg some (List.map_congr_left fun j _ => ?_)
  rw [Int.zero_add]
/-! loops -/
theorem lc_run {β : Type} {f : D → Tp → Out (Option D)} {e g : β → D} : ∀ {xs : List β} {acc : List D}, (∀ x ∈ xs, f (e x) tp = .ok (some (g x)) tp) → lcGo f (xs.map e) acc tp = .ok (acc ++ xs.map g) tp
  | [], acc, _ => by simp [lcGo]
  | x :: xs, acc, h => by
    unfold lcGo
    rw [List.map_cons]
    dsimp only
    rw [h x (List.mem_cons_self ..)]
    show lcGo f (xs.map e) (acc ++ [g x]) tp = _
    rw [lc_run fun y hy => h y (List.mem_cons_of_mem _ hy)]
    simp
theorem lc_filter {β : Type} {f : D → Tp → Out (Option D)} {e g : β → D} {p : β → Bool} : ∀ {xs : List β} {acc : List D}, (∀ x ∈ xs, f (e x) tp = .ok (if p x then some (g x) else none) tp) → lcGo f (xs.map e) acc tp = .ok (acc ++ (xs.filter p).map g) tp
  | [], acc, _ => by simp [lcGo]
  | x :: xs, acc, h => by
    unfold lcGo
    rw [List.map_cons]
    dsimp only
    rw [h x (List.mem_cons_self ..)]
    cases hp : p x with
    | true =>
      show lcGo f (xs.map e) (acc ++ [g x]) tp = _
      rw [lc_filter fun y hy => h y (List.mem_cons_of_mem _ hy), List.filter_cons_of_pos hp]
      simp
    | false =>
      show lcGo f (xs.map e) acc tp = _
      rw [lc_filter fun y hy => h y (List.mem_cons_of_mem _ hy), List.filter_cons_of_neg (by simp [hp])]
/-- a loop: I a j is the environment at a, the loop's names hold j -/
theorem for_run {α β J : Type} {f : D → QE → Tp → SO} {e : β → D} {step : α → β → α} {Ok : Nat → α → Prop} {I : α → J → QE} {N : Nat} : ∀ {xs : List β} {n : Nat} {a : α} {j : J}, n + xs.length ≤ N → (∀ n a j x, n < N → x ∈ xs → Ok n a → Ok (n + 1) (step a x) ∧ ∃ j', f (e x) (I a j) tp = .nx (I (step a x) j') tp) → Ok n a →
    Ok (n + xs.length) (xs.foldl step a) ∧ ∃ j', forGo f (xs.map e) (I a j) tp = .nx (I (xs.foldl step a) j') tp
  | [], n, a, j, _, _, h0 => ⟨h0, j, rfl⟩
  | x :: xs, n, a, j, hN, h, h0 => by
    rw [List.length_cons] at hN
    obtain ⟨h1, j1, h2⟩ := h n a j x (by omega) (List.mem_cons_self ..) h0
    obtain ⟨h3, j2, h4⟩ := for_run (n := n + 1) (j := j1) (by omega) (fun n a j y hn hy => h n a j y hn (List.mem_cons_of_mem _ hy)) h1
    refine ⟨?_, j2, ?_⟩
    · rw [List.length_cons, show n + (xs.length + 1) = n + 1 + xs.length by omega]
      exact h3
    · rw [List.map_cons]
      unfold forGo
      rw [h2]
      exact h4
end
/-! what a def computes -/
section
variable (es : List Ent) (gl : Str → Option D) (fuel : Nat)
def Op2 (i k0 : Nat) (P : Rat → Rat → Prop) (f : Rat → Rat → Rat) : Prop := ∀ k tp x y, k0 ≤ k → SmQ x → SmQ y → P x y → callC es gl fuel k i [.val (fq x), .val (fq y)] tp = .ok (fq (f x y)) tp
abbrev PlusOk (i k0 : Nat) : Prop := Op2 es gl fuel i k0 (fun _ _ => True) fun x y => x + y
abbrev MinusOk (i k0 : Nat) : Prop := Op2 es gl fuel i k0 (fun _ _ => True) fun x y => x - y
abbrev TimesOk (i k0 : Nat) : Prop := Op2 es gl fuel i k0 (fun _ _ => True) fun x y => x * y
abbrev OverOk (i k0 : Nat) : Prop := Op2 es gl fuel i k0 (fun _ y => y ≠ 0) fun x y => x / y
def LessOk (i k0 : Nat) : Prop := ∀ k tp x y, k0 ≤ k → SmQ x → SmQ y → callC es gl fuel k i [.val (fq x), .val (fq y)] tp = .ok (.bool (decide (x < y))) tp
end
structure GlOk (gl : Str → Option D) : Prop where
  zero : gl "ZERO" = some (fq 0)
  one : gl "ONE" = some (fq 1)
end Q

set_option Elab.async false
set_option linter.all false
set_option maxRecDepth 100000
set_option exponentiation.threshold 4000
/-! lots: what the codes compute -/
namespace Q
open PySem PySem.Spec L2
open PyProof.Rows hiding St
def Bq (d m : Nat) (q : Rat) : Prop := ∃ D, D < 2 ^ d ∧ Bd D (2 ^ m) q
/-- a row of parts of one D -/
structure Rw (d m : Nat) (l : List Rat) : Prop where
  le : l.length ≤ 1000
  bd : ∃ D, 0 < D ∧ D < 2 ^ d ∧ ∀ q ∈ l, Bd D (2 ^ m) q
structure Lt (d : Nat) (l : List Rat) : Prop extends Rw d 0 l where
  one : 1 ≤ l.length
  nn : ∀ q ∈ l, 0 ≤ q
  sum : l.sum = 1
structure Lot (d : Nat) (l : List Rat) : Prop extends Lt d l where
  most : l.length ≤ 40
theorem pow_le {a b : Nat} (h : a ≤ b) : 2 ^ a ≤ 2 ^ b := Nat.pow_le_pow_right (by decide) h
theorem mul_pow {a b m n : Nat} (h : a < 2 ^ m) (h' : b < 2 ^ n) : a * b < 2 ^ (m + n) := by
  rw [Nat.pow_add]
  exact Nat.mul_lt_mul'' h h'
theorem Bq.sm {d m : Nat} {q : Rat} (h : Bq d m q) (hl : d + m ≤ 998 := by decide) : SmQ q := by
  obtain ⟨D, h1, h2⟩ := h
  refine h2.sm ?_ (Nat.lt_of_lt_of_le h1 (pow_le (by omega)))
  have h0 := h2.1
  have : 2 ^ m < 2 ^ (m + 1) := Nat.pow_lt_pow_right (by decide) (by omega)
  exact Nat.lt_of_lt_of_le (mul_pow this h1) (pow_le (by omega))
theorem two_mul_le {a b : Nat} : 2 ^ a + 2 ^ b ≤ 2 ^ (max a b + 1) := by
  have h1 : 2 ^ a ≤ 2 ^ (max a b) := pow_le (by omega)
  have h2 : 2 ^ b ≤ 2 ^ (max a b) := pow_le (by omega)
  rw [Nat.pow_succ]
  omega
theorem Bq.mono {d m d' m' : Nat} {q : Rat} (h : Bq d m q) (h1 : d ≤ d' := by decide) (h2 : m ≤ m' := by decide) : Bq d' m' q := by
  obtain ⟨D, h3, h4⟩ := h
  exact ⟨D, Nat.lt_of_lt_of_le h3 (pow_le h1), h4.le (pow_le h2)⟩
theorem Bd.com {D D' M : Nat} {x : Rat} (h : Bd D M x) (h0 : 0 < D') : Bd (D * D') M x := h.mono (Nat.dvd_mul_right ..) (Nat.mul_pos h.1 h0) (Nat.le_refl _)
theorem Bd.com' {D D' M : Nat} {x : Rat} (h : Bd D' M x) (h0 : 0 < D) : Bd (D * D') M x := h.mono (Nat.dvd_mul_left ..) (Nat.mul_pos h0 h.1) (Nat.le_refl _)
theorem Bq.add {d m d' m' : Nat} {x y : Rat} (h : Bq d m x) (h' : Bq d' m' y) : Bq (d + d') (max m m' + 1) (x + y) := by
  obtain ⟨D, h1, h2⟩ := h
  obtain ⟨D', h1', h2'⟩ := h'
  exact ⟨D * D', mul_pow h1 h1', ((h2.com h2'.1).add (h2'.com' h2.1)).le two_mul_le⟩
theorem Bq.sub {d m d' m' : Nat} {x y : Rat} (h : Bq d m x) (h' : Bq d' m' y) : Bq (d + d') (max m m' + 1) (x - y) := by
  obtain ⟨D, h1, h2⟩ := h
  obtain ⟨D', h1', h2'⟩ := h'
  exact ⟨D * D', mul_pow h1 h1', ((h2.com h2'.1).sub (h2'.com' h2.1)).le two_mul_le⟩
theorem Bq.mul {d m d' m' : Nat} {x y : Rat} (h : Bq d m x) (h' : Bq d' m' y) : Bq (d + d') (m + m') (x * y) := by
  obtain ⟨D, h1, h2⟩ := h
  obtain ⟨D', h1', h2'⟩ := h'
  exact ⟨D * D', mul_pow h1 h1', by rw [Nat.pow_add]; exact h2.mul h2'⟩
theorem Bq.neg {d m : Nat} {x : Rat} (h : Bq d m x) : Bq d m (-x) := by
  obtain ⟨D, h1, h2⟩ := h
  exact ⟨D, h1, h2.neg⟩
theorem Bq.int {i : Int} {m : Nat} (h : i.natAbs ≤ 2 ^ m) : Bq 1 m (i : Rat) := ⟨1, by decide, (Bd.int i).le h⟩
theorem Bq.nat {i m : Nat} (h : i ≤ 2 ^ m) : Bq 1 m (i : Rat) := by
  have := Bq.int (i := (i : Int)) (m := m) (by simpa using h)
  rwa [Rat.intCast_natCast] at this
theorem Bq.zero : Bq 1 0 0 := by simpa using Bq.nat (i := 0) (m := 0) (by decide)
theorem Bq.one : Bq 1 0 1 := by simpa using Bq.nat (i := 1) (m := 0) (by decide)
/-- 1 / y -/
theorem Bq.inv {d m : Nat} {y : Rat} (h : Bq d m y) (h0 : y ≠ 0) : Bq (d + m) d (y⁻¹) := by
  obtain ⟨D, h1, hD, n, hn, rfl⟩ := h
  have hn0 : n ≠ 0 := fun e => h0 (by subst e; simp)
  refine ⟨n.natAbs, ?_, by omega, if n < 0 then -(D : Int) else D, ?_, ?_⟩
  · have : n.natAbs < 2 ^ m * 2 ^ d := Nat.lt_of_le_of_lt hn (Nat.mul_lt_mul_of_pos_left h1 (Nat.two_pow_pos m))
    rwa [← Nat.pow_add, Nat.add_comm] at this
  · have h2 : (if n < 0 then -(D : Int) else D).natAbs = D := by split <;> simp
    rw [h2]
    exact Nat.le_trans (Nat.le_of_lt h1) (Nat.le_mul_of_pos_right _ (by omega))
  · rw [← Rat.divInt_ofNat, Rat.inv_divInt, ← Rat.divInt_ofNat]
    by_cases hs : n < 0
    · rw [if_pos hs, show ((n.natAbs : Nat) : Int) = -n by omega, Rat.neg_divInt_neg]
    · rw [if_neg hs, show ((n.natAbs : Nat) : Int) = n by omega]
theorem Bq.over {d m d' m' : Nat} {x y : Rat} (h : Bq d m x) (h' : Bq d' m' y) (h0 : y ≠ 0) : Bq (d + (d' + m')) (m + d') (x / y) := by
  rw [Rat.div_def]
  exact h.mul (h'.inv h0)
theorem Rw.at {d m : Nat} {l : List Rat} (h : Rw d m l) {q : Rat} (hq : q ∈ l) : Bq d m q := by
  obtain ⟨_, D, h1, h2, h3⟩ := h
  exact ⟨D, h2, h3 q hq⟩
theorem Rw.mono {d m d' m' : Nat} {l : List Rat} (h : Rw d m l) (h1 : d ≤ d' := by decide) (h2 : m ≤ m' := by decide) : Rw d' m' l := by
  obtain ⟨h0, D, h3, h4, h5⟩ := h
  exact ⟨h0, D, h3, Nat.lt_of_lt_of_le h4 (pow_le h1), fun q hq => (h5 q hq).le (pow_le h2)⟩
theorem Rw.big {d m : Nat} {l : List Rat} (h : Rw d m l) : big l.length = true := Nat.ble_eq_true_of_le (by have := h.le; omega)
theorem sumBd {D M : Nat} : ∀ {l : List Rat}, 0 < D → (∀ q ∈ l, Bd D M q) → Bd D (l.length * M) l.sum
  | [], h0, _ => by simpa using Bd.zero h0
  | x :: l, h0, h => by
    rw [List.sum_cons, List.length_cons, Nat.succ_mul, Nat.add_comm]
    exact (h x (List.mem_cons_self ..)).add (sumBd h0 fun q hq => h q (List.mem_cons_of_mem _ hq))
theorem Rw.sum {d m : Nat} {l : List Rat} (h : Rw d m l) : Bq d (m + 10) l.sum := by
  obtain ⟨h0, D, h1, h2, h3⟩ := h
  refine ⟨D, h2, (sumBd h1 h3).le ?_⟩
  rw [Nat.pow_add, Nat.mul_comm]
  exact Nat.mul_le_mul_left _ (by omega)
theorem zipWith_zip {α β γ : Type} (f : α → β → γ) : ∀ (l : List α) (m : List β), (l.zip m).map (fun p => f p.1 p.2) = l.zipWith f m
  | [], _ => rfl
  | _ :: _, [] => rfl
  | x :: l, y :: m => by
    show f x y :: (l.zip m).map _ = _
    rw [zipWith_zip f l m]
    rfl
theorem Rw.zip {d m d' m' : Nat} {l k : List Rat} (h : Rw d m l) (h' : Rw d' m' k) : Rw (d + d') (m + m') (l.zipWith (· * ·) k) := by
  obtain ⟨h0, D, h1, h2, h3⟩ := h
  obtain ⟨h0', D', h1', h2', h3'⟩ := h'
  refine ⟨by rw [List.length_zipWith]; omega, D * D', Nat.mul_pos h1 h1', mul_pow h2 h2', fun q hq => ?_⟩
  rw [← zipWith_zip] at hq
  obtain ⟨p, hp, rfl⟩ := List.mem_map.mp hq
  have := List.of_mem_zip hp
  rw [Nat.pow_add]
  exact (h3 _ this.1).mul (h3' _ this.2)
def dotR (l m : List Rat) : Rat := (l.zipWith (· * ·) m).sum
theorem Bq.dot {d m d' m' : Nat} {l k : List Rat} (h : Rw d m l) (h' : Rw d' m' k) : Bq (d + d') (m + m' + 10) (dotR l k) := (h.zip h').sum
section
variable (es : List Ent) (gl : Str → Option D) (fuel : Nat)
def SumOk (i k0 : Nat) : Prop := ∀ k tp b l d m, k0 ≤ k → Rw d m l → d + m ≤ 900 → callC es gl fuel k i [.val (sq b (qs l))] tp = .ok (fq l.sum) tp
def IsShareOk (i k0 : Nat) : Prop := ∀ k tp q, k0 ≤ k → SmQ q → callC es gl fuel k i [.val (fq q)] tp = .ok (.bool true) tp
def CheckLotOk (i k0 : Nat) : Prop := ∀ k tp b l d, k0 ≤ k → Lot d l → d ≤ 900 → callC es gl fuel k i [.val (sq b (qs l))] tp = .ok .none tp
def DotOk (i k0 : Nat) : Prop := ∀ k tp b b' l l' d m d' m', k0 ≤ k → Rw d m l → Rw d' m' l' → d + m + (d' + m') ≤ 900 → callC es gl fuel k i [.val (sq b (qs l)), .val (sq b' (qs l'))] tp = .ok (fq (dotR l l')) tp
def MeanOk (i k0 : Nat) : Prop := ∀ k tp b b' l l' d d' m, k0 ≤ k → Lot d l → Rw d' m l' → l'.length = l.length → d + (d' + m) ≤ 900 → callC es gl fuel k i [.val (sq b (qs l)), .val (sq b' (qs l'))] tp = .ok (fq (dotR l l')) tp
def SpreadOk (i k0 : Nat) : Prop := ∀ k tp b b' l l' d d' m, k0 ≤ k → Lot d l → Rw d' m l' → l'.length = l.length → 3 * d + 4 * d' + 2 * m ≤ 800 → callC es gl fuel k i [.val (sq b (qs l)), .val (sq b' (qs l'))] tp = .ok (fq (dotR l (l'.map fun a => (a - dotR l l') * (a - dotR l l')))) tp
end
theorem bools_all : ∀ {α : Type} (l : List α), boolsOf (l.map fun _ => PyData.bool true) = some (l.map fun _ => true)
  | _, [] => rfl
  | _, _ :: l => by
    show (boolsOf (l.map fun _ => PyData.bool true)).map (true :: ·) = _
    rw [bools_all l]
    rfl
theorem all_true {α : Type} (l : List α) : bltD .all [.list (l.map fun _ => PyData.bool true)] = some (.bool true) := by
  show (boolsOf _).map _ = _
  rw [bools_all]
  show some (PyData.bool ((l.map fun _ => true).all id)) = _
  congr 2
  simp
theorem eq_fq {x y : Rat} : eqD (fq x) (fq y) = some (decide (x = y)) := by
  show some (PyData.eqv (fq x) (fq y)) = _
  congr 1
  by_cases h : x = y
  · subst h
    rw [decide_eq_true rfl]
    simp [fq, PyData.eqv, PyData.eqvAll]
  · rw [decide_eq_false h]
    cases hq : PyData.eqv (fq x) (fq y) with
    | false => rfl
    | true =>
      refine absurd ?_ h
      simp [fq, PyData.eqv, PyData.eqvAll] at hq
      exact Rat.ext hq.1 (by exact_mod_cast hq.2)
theorem isTup_fq {q : Rat} : bltD .isTup [fq q] = some (.bool true) := rfl
theorem len_fq {q : Rat} : bltD .len [fq q] = some (.int 2) := rfl
theorem ix0_fq {q : Rat} : ixD (fq q) (.int 0) = some (.int q.num) := rfl
theorem ix1_fq {q : Rat} : ixD (fq q) (.int 1) = some (.int (q.den : Int)) := rfl
theorem num_nn {q : Rat} : decide (0 ≤ q.num) = decide (0 ≤ q) := decide_eq_decide.mpr Rat.num_nonneg
theorem foldl_add (l : List Rat) (a : Rat) : l.foldl (fun s x => s + x) a = a + l.sum := by
  induction l generalizing a with
  | nil => simp [Rat.add_zero]
  | cons x l ih => rw [List.foldl_cons, ih, List.sum_cons, Rat.add_assoc]
section
variable {es : List Ent} {gl : Str → Option D} {fuel : Nat} {i k0 : Nat}
abbrev kl_sum_of_0 (i_plus : Nat) (Γ : Sm) (n : Nat) : D → QE → Tp → SO := forF Γ n (.nm 2) (.cons (.set 1 (.call i_plus (.cons (.var 1) (.cons (.var 2) .nil)))) .nil)
def k_sum_of (i_plus : Nat) : Df := ⟨["row"], ["row", "total", "a"], (.cons (.set 1 (.glo "ZERO")) (.cons (.for_ (.nm 2) .seq (.cons (.var 0) .nil) (.cons (.set 1 (.call i_plus (.cons (.var 1) (.cons (.var 2) .nil)))) .nil)) (.cons (.ret (.var 1)) .nil)))⟩
def k_is_share (i_share : Nat) : Df := ⟨["value"], ["value"], (.cons (.ret (.and (.blt .isTup (.cons (.var 0) .nil)) (.and (.cmp .eq (.blt .len (.cons (.var 0) .nil)) (.lit (.int 2))) (.and (.cmp .ge (.ix (.var 0) (.lit (.int 1))) (.lit (.int 1))) (.cmp .eq (.call i_share (.cons (.ix (.var 0) (.lit (.int 0))) (.cons (.ix (.var 0) (.lit (.int 1))) .nil))) (.var 0)))))) .nil)⟩
abbrev kl_check_lot_0 (i_is_share : Nat) (Γ : Sm) (env : QE) : D → Tp → Out (Option D) := lcf Γ (.nm 1) .nil (.and (.call i_is_share (.cons (.var 1) .nil)) (.cmp .ge (.ix (.var 1) (.lit (.int 0))) (.lit (.int 0)))) env
def k_check_lot (i_is_share : Nat) (i_sum_of : Nat) (x_InvalidLaw : Nat) : Df := ⟨["lot"], ["lot", "a"], (.cons (.ife (.or (.not (.chain .le .le (.lit (.int 1)) (.blt .len (.cons (.var 0) .nil)) (.glo "MOST_THINGS"))) (.not (.blt .all (.cons (.lc (.and (.call i_is_share (.cons (.var 1) .nil)) (.cmp .ge (.ix (.var 1) (.lit (.int 0))) (.lit (.int 0)))) (.nm 1) .seq (.cons (.var 0) .nil) .nil [1]) .nil)))) (.cons (.raise x_InvalidLaw) .nil) .nil) (.cons (.ife (.cmp .ne (.call i_sum_of (.cons (.var 0) .nil)) (.glo "ONE")) (.cons (.raise x_InvalidLaw) .nil) .nil) .nil))⟩
abbrev kl_dot_0 (i_times : Nat) (Γ : Sm) (env : QE) : D → Tp → Out (Option D) := lcf Γ (.tp (.cons (.nm 2) (.cons (.nm 3) .nil))) .nil (.call i_times (.cons (.var 2) (.cons (.var 3) .nil))) env
def k_dot (i_sum_of : Nat) (i_times : Nat) : Df := ⟨["one", "other"], ["one", "other", "a", "b"], (.cons (.ret (.call i_sum_of (.cons (.lc (.call i_times (.cons (.var 2) (.cons (.var 3) .nil))) (.tp (.cons (.nm 2) (.cons (.nm 3) .nil))) .zip (.cons (.var 0) (.cons (.var 1) .nil)) .nil [2, 3]) .nil))) .nil)⟩
def k_mean (i_check_lot : Nat) (i_dot : Nat) (x_InvalidLaw : Nat) : Df := ⟨["lot", "values"], ["lot", "values"], (.cons (.ex (.call i_check_lot (.cons (.var 0) .nil))) (.cons (.ife (.cmp .ne (.blt .len (.cons (.var 1) .nil)) (.blt .len (.cons (.var 0) .nil))) (.cons (.raise x_InvalidLaw) .nil) .nil) (.cons (.ret (.call i_dot (.cons (.var 0) (.cons (.var 1) .nil)))) .nil)))⟩
abbrev kl_spread_0 (i_minus : Nat) (i_times : Nat) (Γ : Sm) (env : QE) : D → Tp → Out (Option D) := lcf Γ (.nm 3) .nil (.call i_times (.cons (.call i_minus (.cons (.var 3) (.cons (.var 2) .nil))) (.cons (.call i_minus (.cons (.var 3) (.cons (.var 2) .nil))) .nil))) env
def k_spread (i_mean : Nat) (i_minus : Nat) (i_times : Nat) : Df := ⟨["lot", "values"], ["lot", "values", "middle", "a"], (.cons (.set 2 (.call i_mean (.cons (.var 0) (.cons (.var 1) .nil)))) (.cons (.ret (.call i_mean (.cons (.var 0) (.cons (.lc (.call i_times (.cons (.call i_minus (.cons (.var 3) (.cons (.var 2) .nil))) (.cons (.call i_minus (.cons (.var 3) (.cons (.var 2) .nil))) .nil))) (.nm 3) .seq (.cons (.var 1) .nil) .nil [3]) .nil)))) .nil))⟩
theorem sum_of_ok {ip : Nat} (h : es[i]? = some (.code (k_sum_of ip))) (G : GlOk gl) (hp : PlusOk es gl fuel ip k0) : SumOk es gl fuel i (k0 + 1) := by
  intro k tp b l d m hk R hdm
  obtain ⟨k, rfl⟩ : ∃ j, k = j + 1 := ⟨k - 1, by omega⟩
  rw [call_code h rfl]
  obtain ⟨hle, D, hD, hd, hl⟩ := R
  have loop := for_run (tp := tp) (f := kl_sum_of_0 ip ⟨callC es gl fuel k, gl⟩ fuel) (e := fq) (step := fun s x => s + x) (Ok := fun n a => Bd D (n * 2 ^ m) a) (I := fun a j => [.val (sq b (qs l)), .val (fq a), j]) (xs := l) (n := 0) (a := 0) (j := B.un) (N := l.length) (by omega) (fun n a j x hn hx ha => ?_) (by simpa using Bd.zero hD)
  · obtain ⟨-, j', e⟩ := loop
    rw [foldl_add, Rat.zero_add] at e
    simp only [k_sum_of, G.zero, e, xs_nil, xs_cons, x_set, x_setL, x_par, x_unp, x_app, x_ext, x_sub, x_aug, x_ret, x_ife, x_ex, x_cont, x_brk, x_pass, x_frz, x_for, v_var, v_lit, v_glo, v_bin, v_neg, v_cmp, v_chain, v_not, v_and, v_or, v_ite, v_call, v_blt, v_ix, v_slc, v_lst, v_tup, v_lc, v_rev, es_nil', es_cons', ea_nil, ea_cons, argB, thn_nx, thn_rt, thn_ct, thn_br, bind_ok, so_ok, opt_some, bT_nm, bT_tp, bTs_nil, bTs_cons, getB_0, getB_s, fi_v, fi_r, fi_t, Q.M.isR, Q.M.op, Q.IK.md, im_seq, im_rng1, im_rng2, im_enum, im_zip, im_rng3, im_items, seq1_sq, zipD_eq, enumD_eq, seqOf_sq, seqOf_l, seqOf_t, seq1_l, seq1_t, len_sq, ix_sq, rev_sq, Option.map_some, Option.bind_some, List.set_cons_zero, List.set_cons_succ, List.map_cons, List.map_nil, unown, List.any_cons, List.any_nil, isOwn, Bool.or_false, Bool.or_true, Bool.false_and, Bool.true_and, Bool.and_false, Bool.and_true, finO, List.length_cons, List.length_nil, List.replicate, List.cons_append, List.nil_append, Nat.reduceSub, Nat.reduceAdd, Nat.sub_self, wipeB, Bool.not_true, Bool.not_false, Option.getD_some, cmpD, ltD, eqD_int, tru_bool, noLst_fq, tru_none, noLst, tup_l, tup_t, tup_sq, list_sq, len_l, len_t, grd_true, bin_addI, bin_subI, ix_l, ix_t, big1, big2]
  · have sx : SmQ x := Bq.sm (d := d) (m := m) ⟨D, hd, hl x hx⟩ (by omega)
    have sa : SmQ a := Bq.sm (d := d) (m := m + 10) ⟨D, hd, ha.le (by rw [Nat.pow_add, Nat.mul_comm]; exact Nat.mul_le_mul_left _ (by omega))⟩ (by omega)
    refine ⟨?_, .val (fq x), ?_⟩
    · show Bd D ((n + 1) * 2 ^ m) (a + x)
      rw [Nat.succ_mul]
      exact ha.add (hl x hx)
    · simp only [forF, hp k tp a x (by omega) sa sx trivial, xs_nil, xs_cons, x_set, x_setL, x_par, x_unp, x_app, x_ext, x_sub, x_aug, x_ret, x_ife, x_ex, x_cont, x_brk, x_pass, x_frz, x_for, v_var, v_lit, v_glo, v_bin, v_neg, v_cmp, v_chain, v_not, v_and, v_or, v_ite, v_call, v_blt, v_ix, v_slc, v_lst, v_tup, v_lc, v_rev, es_nil', es_cons', ea_nil, ea_cons, argB, thn_nx, thn_rt, thn_ct, thn_br, bind_ok, so_ok, opt_some, bT_nm, bT_tp, bTs_nil, bTs_cons, getB_0, getB_s, fi_v, fi_r, fi_t, Q.M.isR, Q.M.op, Q.IK.md, im_seq, im_rng1, im_rng2, im_enum, im_zip, im_rng3, im_items, seq1_sq, zipD_eq, enumD_eq, seqOf_sq, seqOf_l, seqOf_t, seq1_l, seq1_t, len_sq, ix_sq, rev_sq, Option.map_some, Option.bind_some, List.set_cons_zero, List.set_cons_succ, List.map_cons, List.map_nil, unown, List.any_cons, List.any_nil, isOwn, Bool.or_false, Bool.or_true, Bool.false_and, Bool.true_and, Bool.and_false, Bool.and_true, finO, List.length_cons, List.length_nil, List.replicate, List.cons_append, List.nil_append, Nat.reduceSub, Nat.reduceAdd, Nat.sub_self, wipeB, Bool.not_true, Bool.not_false, Option.getD_some, cmpD, ltD, eqD_int, tru_bool, noLst_fq, tru_none, noLst, tup_l, tup_t, tup_sq, list_sq, len_l, len_t, grd_true, bin_addI, bin_subI, ix_l, ix_t, big1, big2]
theorem is_share_ok {js : Nat} (h : es[i]? = some (.code (k_is_share js))) (hs : ∀ k tp n d, k0 ≤ k → d ≠ 0 → d.natAbs < 2 ^ 2999 → callC es gl fuel k js [.val (.int n), .val (.int d)] tp = .ok (fq (Rat.divInt n d)) tp) : IsShareOk es gl fuel i (k0 + 1) := by
  intro k tp q hk hq
  obtain ⟨k, rfl⟩ : ∃ j, k = j + 1 := ⟨k - 1, by omega⟩
  rw [call_code h rfl]
  have hd : (q.den : Int) ≠ 0 := by have := q.den_nz; omega
  have e := hs k tp q.num (q.den : Int) (by omega) hd (by rw [Int.natAbs_natCast]; exact Nat.lt_of_lt_of_le hq.d (pow_le (by decide)))
  rw [Rat.num_divInt_den] at e
  have e1 : decide (1 ≤ (q.den : Int)) = true := decide_eq_true (by have := q.den_nz; omega)
  have e2 : (2 : Int) == 2 := rfl
  simp only [k_is_share, isTup_fq, len_fq, e2, ix0_fq, ix1_fq, e1, e, eq_fq, decide_true, xs_nil, xs_cons, x_set, x_setL, x_par, x_unp, x_app, x_ext, x_sub, x_aug, x_ret, x_ife, x_ex, x_cont, x_brk, x_pass, x_frz, x_for, v_var, v_lit, v_glo, v_bin, v_neg, v_cmp, v_chain, v_not, v_and, v_or, v_ite, v_call, v_blt, v_ix, v_slc, v_lst, v_tup, v_lc, v_rev, es_nil', es_cons', ea_nil, ea_cons, argB, thn_nx, thn_rt, thn_ct, thn_br, bind_ok, so_ok, opt_some, bT_nm, bT_tp, bTs_nil, bTs_cons, getB_0, getB_s, fi_v, fi_r, fi_t, Q.M.isR, Q.M.op, Q.IK.md, im_seq, im_rng1, im_rng2, im_enum, im_zip, im_rng3, im_items, seq1_sq, zipD_eq, enumD_eq, seqOf_sq, seqOf_l, seqOf_t, seq1_l, seq1_t, len_sq, ix_sq, rev_sq, Option.map_some, Option.bind_some, List.set_cons_zero, List.set_cons_succ, List.map_cons, List.map_nil, unown, List.any_cons, List.any_nil, isOwn, Bool.or_false, Bool.or_true, Bool.false_and, Bool.true_and, Bool.and_false, Bool.and_true, finO, List.length_cons, List.length_nil, List.replicate, List.cons_append, List.nil_append, Nat.reduceSub, Nat.reduceAdd, Nat.sub_self, wipeB, Bool.not_true, Bool.not_false, Option.getD_some, cmpD, ltD, eqD_int, tru_bool, noLst_fq, tru_none, noLst, tup_l, tup_t, tup_sq, list_sq, len_l, len_t, grd_true, bin_addI, bin_subI, ix_l, ix_t, big1, big2]
theorem check_lot_ok {ji js xl : Nat} (h : es[i]? = some (.code (k_check_lot ji js xl))) (G : GlOk gl) (hm : gl "MOST_THINGS" = some (.int 40)) (hi : IsShareOk es gl fuel ji k0) (hs : SumOk es gl fuel js k0) : CheckLotOk es gl fuel i (k0 + 1) := by
  intro k tp b l d hk L hd
  obtain ⟨k, rfl⟩ : ∃ j, k = j + 1 := ⟨k - 1, by omega⟩
  rw [call_code h rfl]
  have e1 : decide (1 ≤ (l.length : Int)) = true := decide_eq_true (by have := L.one; omega)
  have e2 : decide ((l.length : Int) ≤ 40) = true := decide_eq_true (by have := L.most; omega)
  have e3 := lc_run (tp := tp) (f := kl_check_lot_0 ji ⟨callC es gl fuel k, gl⟩ [.val (sq b (qs l)), .un]) (e := fq) (g := fun _ => .bool true) (xs := l) (acc := []) (fun q hq => by
    have := hi k tp q (by omega) ((L.at hq).sm (by omega))
    simp only [lcf, ec_nil, Out.nox, this, ix0_fq, num_nn, decide_eq_true (L.nn q hq), xs_nil, xs_cons, x_set, x_setL, x_par, x_unp, x_app, x_ext, x_sub, x_aug, x_ret, x_ife, x_ex, x_cont, x_brk, x_pass, x_frz, x_for, v_var, v_lit, v_glo, v_bin, v_neg, v_cmp, v_chain, v_not, v_and, v_or, v_ite, v_call, v_blt, v_ix, v_slc, v_lst, v_tup, v_lc, v_rev, es_nil', es_cons', ea_nil, ea_cons, argB, thn_nx, thn_rt, thn_ct, thn_br, bind_ok, so_ok, opt_some, bT_nm, bT_tp, bTs_nil, bTs_cons, getB_0, getB_s, fi_v, fi_r, fi_t, Q.M.isR, Q.M.op, Q.IK.md, im_seq, im_rng1, im_rng2, im_enum, im_zip, im_rng3, im_items, seq1_sq, zipD_eq, enumD_eq, seqOf_sq, seqOf_l, seqOf_t, seq1_l, seq1_t, len_sq, ix_sq, rev_sq, Option.map_some, Option.bind_some, List.set_cons_zero, List.set_cons_succ, List.map_cons, List.map_nil, unown, List.any_cons, List.any_nil, isOwn, Bool.or_false, Bool.or_true, Bool.false_and, Bool.true_and, Bool.and_false, Bool.and_true, finO, List.length_cons, List.length_nil, List.replicate, List.cons_append, List.nil_append, Nat.reduceSub, Nat.reduceAdd, Nat.sub_self, wipeB, Bool.not_true, Bool.not_false, Option.getD_some, cmpD, ltD, eqD_int, tru_bool, noLst_fq, tru_none, noLst, tup_l, tup_t, tup_sq, list_sq, len_l, len_t, grd_true, bin_addI, bin_subI, ix_l, ix_t, big1, big2])
  have e4 := hs k tp b l d 0 (by omega) L.toRw (by omega)
  rw [L.sum] at e4
  simp only [k_check_lot, hm, e1, e2, List.length_map, L.big, e3, all_true, e4, G.one, eq_fq, decide_true, xs_nil, xs_cons, x_set, x_setL, x_par, x_unp, x_app, x_ext, x_sub, x_aug, x_ret, x_ife, x_ex, x_cont, x_brk, x_pass, x_frz, x_for, v_var, v_lit, v_glo, v_bin, v_neg, v_cmp, v_chain, v_not, v_and, v_or, v_ite, v_call, v_blt, v_ix, v_slc, v_lst, v_tup, v_lc, v_rev, es_nil', es_cons', ea_nil, ea_cons, argB, thn_nx, thn_rt, thn_ct, thn_br, bind_ok, so_ok, opt_some, bT_nm, bT_tp, bTs_nil, bTs_cons, getB_0, getB_s, fi_v, fi_r, fi_t, Q.M.isR, Q.M.op, Q.IK.md, im_seq, im_rng1, im_rng2, im_enum, im_zip, im_rng3, im_items, seq1_sq, zipD_eq, enumD_eq, seqOf_sq, seqOf_l, seqOf_t, seq1_l, seq1_t, len_sq, ix_sq, rev_sq, Option.map_some, Option.bind_some, List.set_cons_zero, List.set_cons_succ, List.map_cons, List.map_nil, unown, List.any_cons, List.any_nil, isOwn, Bool.or_false, Bool.or_true, Bool.false_and, Bool.true_and, Bool.and_false, Bool.and_true, finO, List.length_cons, List.length_nil, List.replicate, List.cons_append, List.nil_append, Nat.reduceSub, Nat.reduceAdd, Nat.sub_self, wipeB, Bool.not_true, Bool.not_false, Option.getD_some, cmpD, ltD, eqD_int, tru_bool, noLst_fq, tru_none, noLst, tup_l, tup_t, tup_sq, list_sq, len_l, len_t, grd_true, bin_addI, bin_subI, ix_l, ix_t, big1, big2]
theorem dot_ok {js jt : Nat} (h : es[i]? = some (.code (k_dot js jt))) (hs : SumOk es gl fuel js k0) (ht : TimesOk es gl fuel jt k0) : DotOk es gl fuel i (k0 + 1) := by
  intro k tp b b' l l' d m d' m' hk L L' hb
  obtain ⟨k, rfl⟩ : ∃ j, k = j + 1 := ⟨k - 1, by omega⟩
  rw [call_code h rfl]
  have hz : big (l.zip l').length = true := Nat.ble_eq_true_of_le (by have := L.le; rw [List.length_zip]; omega)
  have e3 := lc_run (tp := tp) (f := kl_dot_0 jt ⟨callC es gl fuel k, gl⟩ [.val (sq b (qs l)), .val (sq b' (qs l')), .un, .un]) (e := fun p : Rat × Rat => .tuple [fq p.1, fq p.2]) (g := fun p => fq (p.1 * p.2)) (xs := l.zip l') (acc := []) (fun p hp => by
    have hm := List.of_mem_zip hp
    have := ht k tp p.1 p.2 (by omega) ((L.at hm.1).sm (by omega)) ((L'.at hm.2).sm (by omega)) trivial
    simp only [lcf, ec_nil, Out.nox, this, xs_nil, xs_cons, x_set, x_setL, x_par, x_unp, x_app, x_ext, x_sub, x_aug, x_ret, x_ife, x_ex, x_cont, x_brk, x_pass, x_frz, x_for, v_var, v_lit, v_glo, v_bin, v_neg, v_cmp, v_chain, v_not, v_and, v_or, v_ite, v_call, v_blt, v_ix, v_slc, v_lst, v_tup, v_lc, v_rev, es_nil', es_cons', ea_nil, ea_cons, argB, thn_nx, thn_rt, thn_ct, thn_br, bind_ok, so_ok, opt_some, bT_nm, bT_tp, bTs_nil, bTs_cons, getB_0, getB_s, fi_v, fi_r, fi_t, Q.M.isR, Q.M.op, Q.IK.md, im_seq, im_rng1, im_rng2, im_enum, im_zip, im_rng3, im_items, seq1_sq, zipD_eq, enumD_eq, seqOf_sq, seqOf_l, seqOf_t, seq1_l, seq1_t, len_sq, ix_sq, rev_sq, Option.map_some, Option.bind_some, List.set_cons_zero, List.set_cons_succ, List.map_cons, List.map_nil, unown, List.any_cons, List.any_nil, isOwn, Bool.or_false, Bool.or_true, Bool.false_and, Bool.true_and, Bool.and_false, Bool.and_true, finO, List.length_cons, List.length_nil, List.replicate, List.cons_append, List.nil_append, Nat.reduceSub, Nat.reduceAdd, Nat.sub_self, wipeB, Bool.not_true, Bool.not_false, Option.getD_some, cmpD, ltD, eqD_int, tru_bool, noLst_fq, tru_none, noLst, tup_l, tup_t, tup_sq, list_sq, len_l, len_t, grd_true, bin_addI, bin_subI, ix_l, ix_t, big1, big2])
  have e5 : (l.zip l').map (fun p => fq (p.1 * p.2)) = qs (l.zipWith (· * ·) l') := by
    rw [← zipWith_zip, qs, List.map_map]
    rfl
  have e4 := hs k tp false (l.zipWith (· * ·) l') (d + d') (m + m') (by omega) (L.zip L') (by omega)
  rw [show sq false (qs (l.zipWith (· * ·) l')) = .list (qs (l.zipWith (· * ·) l')) from rfl] at e4
  rw [e5, List.nil_append] at e3
  simp only [k_dot, zipGo_map, List.length_map, hz, e3, e4, dotR, xs_nil, xs_cons, x_set, x_setL, x_par, x_unp, x_app, x_ext, x_sub, x_aug, x_ret, x_ife, x_ex, x_cont, x_brk, x_pass, x_frz, x_for, v_var, v_lit, v_glo, v_bin, v_neg, v_cmp, v_chain, v_not, v_and, v_or, v_ite, v_call, v_blt, v_ix, v_slc, v_lst, v_tup, v_lc, v_rev, es_nil', es_cons', ea_nil, ea_cons, argB, thn_nx, thn_rt, thn_ct, thn_br, bind_ok, so_ok, opt_some, bT_nm, bT_tp, bTs_nil, bTs_cons, getB_0, getB_s, fi_v, fi_r, fi_t, Q.M.isR, Q.M.op, Q.IK.md, im_seq, im_rng1, im_rng2, im_enum, im_zip, im_rng3, im_items, seq1_sq, zipD_eq, enumD_eq, seqOf_sq, seqOf_l, seqOf_t, seq1_l, seq1_t, len_sq, ix_sq, rev_sq, Option.map_some, Option.bind_some, List.set_cons_zero, List.set_cons_succ, List.map_cons, List.map_nil, unown, List.any_cons, List.any_nil, isOwn, Bool.or_false, Bool.or_true, Bool.false_and, Bool.true_and, Bool.and_false, Bool.and_true, finO, List.length_cons, List.length_nil, List.replicate, List.cons_append, List.nil_append, Nat.reduceSub, Nat.reduceAdd, Nat.sub_self, wipeB, Bool.not_true, Bool.not_false, Option.getD_some, cmpD, ltD, eqD_int, tru_bool, noLst_fq, tru_none, noLst, tup_l, tup_t, tup_sq, list_sq, len_l, len_t, grd_true, bin_addI, bin_subI, ix_l, ix_t, big1, big2]
theorem mean_ok {jc jd xl : Nat} (h : es[i]? = some (.code (k_mean jc jd xl))) (hc : CheckLotOk es gl fuel jc k0) (hd : DotOk es gl fuel jd k0) : MeanOk es gl fuel i (k0 + 1) := by
  intro k tp b b' l l' d d' m hk L R hl hb
  obtain ⟨k, rfl⟩ : ∃ j, k = j + 1 := ⟨k - 1, by omega⟩
  rw [call_code h rfl]
  have e1 := hc k tp b l d (by omega) L (by omega)
  have e2 := hd k tp b b' l l' d 0 d' m (by omega) L.toRw R (by omega)
  simp only [k_mean, e1, e2, List.length_map, hl, beq_self_eq_true, xs_nil, xs_cons, x_set, x_setL, x_par, x_unp, x_app, x_ext, x_sub, x_aug, x_ret, x_ife, x_ex, x_cont, x_brk, x_pass, x_frz, x_for, v_var, v_lit, v_glo, v_bin, v_neg, v_cmp, v_chain, v_not, v_and, v_or, v_ite, v_call, v_blt, v_ix, v_slc, v_lst, v_tup, v_lc, v_rev, es_nil', es_cons', ea_nil, ea_cons, argB, thn_nx, thn_rt, thn_ct, thn_br, bind_ok, so_ok, opt_some, bT_nm, bT_tp, bTs_nil, bTs_cons, getB_0, getB_s, fi_v, fi_r, fi_t, Q.M.isR, Q.M.op, Q.IK.md, im_seq, im_rng1, im_rng2, im_enum, im_zip, im_rng3, im_items, seq1_sq, zipD_eq, enumD_eq, seqOf_sq, seqOf_l, seqOf_t, seq1_l, seq1_t, len_sq, ix_sq, rev_sq, Option.map_some, Option.bind_some, List.set_cons_zero, List.set_cons_succ, List.map_cons, List.map_nil, unown, List.any_cons, List.any_nil, isOwn, Bool.or_false, Bool.or_true, Bool.false_and, Bool.true_and, Bool.and_false, Bool.and_true, finO, List.length_cons, List.length_nil, List.replicate, List.cons_append, List.nil_append, Nat.reduceSub, Nat.reduceAdd, Nat.sub_self, wipeB, Bool.not_true, Bool.not_false, Option.getD_some, cmpD, ltD, eqD_int, tru_bool, noLst_fq, tru_none, noLst, tup_l, tup_t, tup_sq, list_sq, len_l, len_t, grd_true, bin_addI, bin_subI, ix_l, ix_t, big1, big2]
theorem Rw.map {d m d' m' : Nat} {l : List Rat} {f : Rat → Rat} (h : Rw d m l) (hf : ∀ D, 0 < D → D < 2 ^ d → ∃ D', 0 < D' ∧ D' < 2 ^ d' ∧ ∀ q ∈ l, Bd D (2 ^ m) q → Bd D' (2 ^ m') (f q)) : Rw d' m' (l.map f) := by
  obtain ⟨h0, D, h1, h2, h3⟩ := h
  obtain ⟨D', h4, h5, h6⟩ := hf D h1 h2
  refine ⟨by rw [List.length_map]; exact h0, D', h4, h5, fun q hq => ?_⟩
  obtain ⟨x, hx, rfl⟩ := List.mem_map.mp hq
  exact h6 x hx (h3 x hx)
theorem Rw.dev {d m d' m' : Nat} {l : List Rat} {c : Rat} (h : Rw d m l) (hc : Bq d' m' c) : Rw (2 * (d + d')) (2 * (max m m' + 1)) (l.map fun a => (a - c) * (a - c)) := by
  obtain ⟨E, e1, e2⟩ := hc
  refine h.map fun D h1 h2 => ⟨(D * E) * (D * E), Nat.mul_pos (Nat.mul_pos h1 e2.1) (Nat.mul_pos h1 e2.1), ?_, fun q _ hq => ?_⟩
  · rw [Nat.two_mul]
    exact mul_pow (mul_pow h2 e1) (mul_pow h2 e1)
  · have := ((hq.com e2.1).sub (e2.com' h1)).le two_mul_le
    rw [Nat.two_mul (max m m' + 1), Nat.pow_add]
    exact this.mul this
theorem spread_ok {jm ji jt : Nat} (h : es[i]? = some (.code (k_spread jm ji jt))) (hm : MeanOk es gl fuel jm k0) (hi : MinusOk es gl fuel ji k0) (ht : TimesOk es gl fuel jt k0) : SpreadOk es gl fuel i (k0 + 1) := by
  intro k tp b b' l l' d d' m hk L R hl hb
  obtain ⟨k, rfl⟩ : ∃ j, k = j + 1 := ⟨k - 1, by omega⟩
  rw [call_code h rfl]
  have e1 := hm k tp b b' l l' d d' m (by omega) L R hl (by omega)
  have hB := Bq.dot L.toRw R
  have e3 := lc_run (tp := tp) (f := kl_spread_0 ji jt ⟨callC es gl fuel k, gl⟩ [.val (sq b (qs l)), .val (sq b' (qs l')), .val (fq (dotR l l')), .un]) (e := fq) (g := fun a => fq ((a - dotR l l') * (a - dotR l l'))) (xs := l') (acc := []) (fun a ha => by
    have e4 := hi k tp a (dotR l l') (by omega) ((R.at ha).sm (by omega)) (hB.sm (by omega)) trivial
    have hs := ((R.at ha).sub hB).sm (by omega)
    have e5 := ht k tp _ _ (by omega) hs hs trivial
    simp only [lcf, ec_nil, Out.nox, e4, e5, xs_nil, xs_cons, x_set, x_setL, x_par, x_unp, x_app, x_ext, x_sub, x_aug, x_ret, x_ife, x_ex, x_cont, x_brk, x_pass, x_frz, x_for, v_var, v_lit, v_glo, v_bin, v_neg, v_cmp, v_chain, v_not, v_and, v_or, v_ite, v_call, v_blt, v_ix, v_slc, v_lst, v_tup, v_lc, v_rev, es_nil', es_cons', ea_nil, ea_cons, argB, thn_nx, thn_rt, thn_ct, thn_br, bind_ok, so_ok, opt_some, bT_nm, bT_tp, bTs_nil, bTs_cons, getB_0, getB_s, fi_v, fi_r, fi_t, Q.M.isR, Q.M.op, Q.IK.md, im_seq, im_rng1, im_rng2, im_enum, im_zip, im_rng3, im_items, seq1_sq, zipD_eq, enumD_eq, seqOf_sq, seqOf_l, seqOf_t, seq1_l, seq1_t, len_sq, ix_sq, rev_sq, Option.map_some, Option.bind_some, List.set_cons_zero, List.set_cons_succ, List.map_cons, List.map_nil, unown, List.any_cons, List.any_nil, isOwn, Bool.or_false, Bool.or_true, Bool.false_and, Bool.true_and, Bool.and_false, Bool.and_true, finO, List.length_cons, List.length_nil, List.replicate, List.cons_append, List.nil_append, Nat.reduceSub, Nat.reduceAdd, Nat.sub_self, wipeB, Bool.not_true, Bool.not_false, Option.getD_some, cmpD, ltD, eqD_int, tru_bool, noLst_fq, tru_none, noLst, tup_l, tup_t, tup_sq, list_sq, len_l, len_t, grd_true, bin_addI, bin_subI, ix_l, ix_t, big1, big2])
  have e6 := hm k tp b false l (l'.map fun a => (a - dotR l l') * (a - dotR l l')) d _ _ (by omega) L (R.dev hB) (by rw [List.length_map]; exact hl) (by omega)
  rw [show qs (l'.map fun a => (a - dotR l l') * (a - dotR l l')) = l'.map fun a => fq ((a - dotR l l') * (a - dotR l l')) from List.map_map ..] at e6
  rw [List.nil_append] at e3
  rw [sq_f] at e6
  simp only [k_spread, e1, List.length_map, R.big, e3, e6, xs_nil, xs_cons, x_set, x_setL, x_par, x_unp, x_app, x_ext, x_sub, x_aug, x_ret, x_ife, x_ex, x_cont, x_brk, x_pass, x_frz, x_for, v_var, v_lit, v_glo, v_bin, v_neg, v_cmp, v_chain, v_not, v_and, v_or, v_ite, v_call, v_blt, v_ix, v_slc, v_lst, v_tup, v_lc, v_rev, es_nil', es_cons', ea_nil, ea_cons, argB, thn_nx, thn_rt, thn_ct, thn_br, bind_ok, so_ok, opt_some, bT_nm, bT_tp, bTs_nil, bTs_cons, getB_0, getB_s, fi_v, fi_r, fi_t, Q.M.isR, Q.M.op, Q.IK.md, im_seq, im_rng1, im_rng2, im_enum, im_zip, im_rng3, im_items, seq1_sq, zipD_eq, enumD_eq, seqOf_sq, seqOf_l, seqOf_t, seq1_l, seq1_t, len_sq, ix_sq, rev_sq, Option.map_some, Option.bind_some, List.set_cons_zero, List.set_cons_succ, List.map_cons, List.map_nil, unown, List.any_cons, List.any_nil, isOwn, Bool.or_false, Bool.or_true, Bool.false_and, Bool.true_and, Bool.and_false, Bool.and_true, finO, List.length_cons, List.length_nil, List.replicate, List.cons_append, List.nil_append, Nat.reduceSub, Nat.reduceAdd, Nat.sub_self, wipeB, Bool.not_true, Bool.not_false, Option.getD_some, cmpD, ltD, eqD_int, tru_bool, noLst_fq, tru_none, noLst, tup_l, tup_t, tup_sq, list_sq, len_l, len_t, grd_true, bin_addI, bin_subI, ix_l, ix_t, big1, big2]
end
end Q

set_option Elab.async false
set_option linter.all false
set_option maxRecDepth 100000
set_option exponentiation.threshold 4000
/-! equations: what the code of solved computes -/
namespace Q
open PySem PySem.Spec L2
open PyProof.Rows hiding St
section
variable {tp : Tp}
/-- a loop that may return; the i-th turn -/
theorem for_ix {α β J : Type} {f : D → QE → Tp → SO} {e : β → D} {step : α → β → Option α} {Ok : Nat → α → Prop} {I : α → J → QE} {d0 : D} {L : List β}
    (h : ∀ i a j x, L[i]? = some x → Ok i a → match step a x with
      | some a' => Ok (i + 1) a' ∧ ∃ j', f (e x) (I a j) tp = .nx (I a' j') tp
      | none => f (e x) (I a j) tp = .rt d0 tp) : ∀ (xs pre : List β) (a : α) (j : J), L = pre ++ xs → Ok pre.length a →
    match xs.foldlM step a with
    | some a' => Ok L.length a' ∧ ∃ j', forGo f (xs.map e) (I a j) tp = .nx (I a' j') tp
    | none => forGo f (xs.map e) (I a j) tp = .rt d0 tp
  | [], pre, a, j, hL, h0 => by
    rw [List.append_nil] at hL
    subst hL
    exact ⟨h0, j, rfl⟩
  | x :: xs, pre, a, j, hL, h0 => by
    have hx : L[pre.length]? = some x := by rw [hL]; simp
    have z := h pre.length a j x hx h0
    rw [List.foldlM_cons]
    cases hs : step a x with
    | none =>
      rw [hs] at z
      show forGo f (e x :: xs.map e) (I a j) tp = _
      unfold forGo
      rw [z]
    | some a' =>
      rw [hs] at z
      obtain ⟨z1, j', z2⟩ := z
      have ih := for_ix h xs (pre ++ [x]) a' j' (by rw [hL]; simp) (by rw [List.length_append]; exact z1)
      show match xs.foldlM step a' with | some a' => _ | none => _
      have e1 : forGo f ((x :: xs).map e) (I a j) tp = forGo f (xs.map e) (I a' j') tp := by
        show forGo f (e x :: xs.map e) (I a j) tp = _
        conv => lhs; unfold forGo
        rw [z2]
      rw [e1]
      exact ih
end
/-- what stands at j, k -/
def en (T : List (List Rat)) (j k : Nat) : Rat := (((T[j]?).getD [])[k]?).getD 0
def rw_ (T : List (List Rat)) (j : Nat) : List Rat := (T[j]?).getD []
def tb (T : List (List Rat)) : List D := T.map fun r => .list (qs r)
def plc (n : Nat) (T : List (List Rat)) (k : Nat) : List Nat := (List.range' k (n - k)).filter fun j => decide (en T j k ≠ 0)
def swp (T : List (List Rat)) (k p : Nat) : List (List Rat) := (T.set k (rw_ T p)).set p (rw_ T k)
def scl (T : List (List Rat)) (k : Nat) : List (List Rat) := T.set k ((rw_ T k).map fun a => a / en T k k)
def elm (k : Nat) (T : List (List Rat)) (j : Nat) : List (List Rat) := if j ≠ k ∧ en T j k ≠ 0 then T.set j ((rw_ T j).zipWith (fun a b => a - en T j k * b) (rw_ T k)) else T
def gj (n : Nat) (T : List (List Rat)) (k : Nat) : Option (List (List Rat)) := match plc n T k with
  | [] => none
  | p :: _ => some ((List.range n).foldl (elm k) (scl (swp T k p) k))
def aug (rows : List (List Rat)) (aims : List Rat) : List (List Rat) := rows.zipWith (fun r a => r ++ [a]) aims
def solvedR (rows : List (List Rat)) (aims : List Rat) : Option (List Rat) := ((List.range rows.length).foldlM (gj rows.length) (aug rows aims)).map fun T => T.map fun r => (r[r.length - 1]?).getD 0
structure TOk (n w d m : Nat) (T : List (List Rat)) : Prop where
  len : T.length = n
  row : ∀ r ∈ T, r.length = w ∧ ∀ q ∈ r, Bq d m q
section
variable {n w d m : Nat} {T : List (List Rat)}
theorem TOk.rwk (h : TOk n w d m T) {j : Nat} (hj : j < n) : rw_ T j ∈ T ∧ (rw_ T j).length = w ∧ ∀ q ∈ rw_ T j, Bq d m q := by
  have hl := h.len
  have e : rw_ T j = T[j]'(by omega) := by
    unfold rw_
    rw [List.getElem?_eq_getElem (by omega)]
    rfl
  have hm : rw_ T j ∈ T := by rw [e]; exact List.getElem_mem _
  exact ⟨hm, h.row _ hm⟩
theorem TOk.ent (h : TOk n w d m T) {j k : Nat} (hj : j < n) (hk : k < w) : Bq d m (en T j k) := by
  obtain ⟨h1, h2, h3⟩ := h.rwk hj
  have : en T j k = (rw_ T j)[k]'(by omega) := by
    show ((rw_ T j)[k]?).getD 0 = _
    rw [List.getElem?_eq_getElem (by omega)]
    rfl
  rw [this]
  exact h3 _ (List.getElem_mem _)
theorem TOk.setk (h : TOk n w d m T) {j : Nat} {r : List Rat} (h1 : r.length = w) (h2 : ∀ q ∈ r, Bq d m q) : TOk n w d m (T.set j r) := by
  refine ⟨by rw [List.length_set]; exact h.len, fun x hx => ?_⟩
  rcases List.mem_or_eq_of_mem_set hx with hx | rfl
  · exact h.row x hx
  · exact ⟨h1, h2⟩
theorem TOk.mono (h : TOk n w d m T) {d' m' : Nat} (h1 : d ≤ d') (h2 : m ≤ m') : TOk n w d' m' T := ⟨h.len, fun r hr => ⟨(h.row r hr).1, fun q hq => ((h.row r hr).2 q hq).mono h1 h2⟩⟩
theorem TOk.swpk (h : TOk n w d m T) {k p : Nat} (hk : k < n) (hp : p < n) : TOk n w d m (swp T k p) := (h.setk (h.rwk hp).2.1 (h.rwk hp).2.2).setk (h.rwk hk).2.1 (h.rwk hk).2.2
theorem TOk.sclk (h : TOk n w d m T) {k : Nat} (hk : k < n) (hkw : k < w) (h0 : Q.en T k k ≠ 0) : TOk n w (d + (d + m)) (m + d) (scl T k) := by
  refine (h.mono (by omega) (by omega)).setk (by rw [List.length_map]; exact (h.rwk hk).2.1) fun q hq => ?_
  obtain ⟨a, ha, rfl⟩ := List.mem_map.mp hq
  exact ((h.rwk hk).2.2 a ha).over (h.ent hk hkw) h0
end
/-- row k is of (d, m), the rows told are of (D, M), as the others are -/
structure EOk (n w d m D M k : Nat) (T : List (List Rat)) : Prop where
  all : TOk n w D M T
  piv : ∀ q ∈ rw_ T k, Bq d m q
theorem rw_set {T : List (List Rat)} {j l : Nat} {r : List Rat} (h : l ≠ j) : rw_ (T.set j r) l = rw_ T l := by
  unfold rw_
  rw [List.getElem?_set_ne (Ne.symm h)]
theorem rw_set_same {T : List (List Rat)} {j : Nat} {r : List Rat} (h : j < T.length) : rw_ (T.set j r) j = r := by
  unfold rw_
  rw [List.getElem?_set_self h]
  rfl
section
variable {tp : Tp}
theorem tb_len (T : List (List Rat)) : (tb T).length = T.length := List.length_map ..
theorem atI_tb {T : List (List Rat)} {j : Nat} (h : j < T.length) : atI (tb T) (j : Int) = some (.list (qs (rw_ T j))) := by
  rw [atI_nat]
  show (List.map _ T)[j]? = _
  rw [List.getElem?_map, List.getElem?_eq_getElem h]
  unfold rw_
  rw [List.getElem?_eq_getElem h]
  rfl
theorem atI_row {r : List Rat} {k : Nat} (h : k < r.length) : atI (qs r) (k : Int) = some (fq ((r[k]?).getD 0)) := by
  rw [atI_nat]
  show (List.map _ r)[k]? = _
  rw [List.getElem?_map, List.getElem?_eq_getElem h]
  rfl
theorem set_tb {T : List (List Rat)} {j : Nat} {r : List Rat} : (tb T).set j (.list (qs r)) = tb (T.set j r) := (List.map_set ..).symm
theorem rng2_nat {i n : Nat} (hi : i ≤ 1000) (h : n ≤ 1000) : rng2D [.int (i : Int), .int (n : Int)] = some ((List.range' i (n - i)).map fun j : Nat => PyData.int (j : Int)) := by
  show grd (sm62 (i : Int) && sm62 (n : Int) && big ((n : Int) - (i : Int)).toNat) (rngGo (i : Int) 0 ((n : Int) - (i : Int)).toNat) = _
  have e1 : ∀ n : Nat, n ≤ 1000 → sm62 (n : Int) = true := fun n h => by
    unfold sm62
    rw [Bool.and_eq_true]
    exact ⟨decide_eq_true (by omega), decide_eq_true (by omega)⟩
  have e2 : ((n : Int) - (i : Int)).toNat = n - i := by omega
  have e3 : big (n - i) = true := Nat.ble_eq_true_of_le (by omega)
  rw [e1 i hi, e1 n h, e2, e3, Bool.and_self, Bool.and_self, grd_true, rngGo_map]
  refine congrArg some ?_
  rw [List.range'_eq_map_range, List.range'_eq_map_range, List.map_map, List.map_map]
  refine List.map_congr_left fun j _ => ?_
  simp
theorem x_swp {Γ : Sm} {fu i : Nat} {k1 k2 e1 e2 : C} {env : QE} {ds : List D} {x y : D} {a b : Int} {j l : Nat} (h0 : getB env i = .own ds) (h1 : ev Γ .v e1 env tp = .ok x tp) (h2 : ev Γ .v e2 env tp = .ok y tp) (h3 : ev Γ .r k1 env tp = .ok (.int a) tp) (h4 : ixN ds.length a = some j)
    (h5 : ev Γ .r k2 (env.set i (.own (ds.set j x))) tp = .ok (.int b) tp) (h6 : ixN ds.length b = some l) : exS Γ fu (.swp i k1 k2 e1 e2) env tp = .nx (env.set i (.own ((ds.set j x).set l y))) tp := by
  unfold exS
  have e : ev Γ .v (.tup (.cons e1 (.cons e2 .nil))) env tp = .ok (.tuple [x, y]) tp := by
    simp only [v_tup, es_cons', es_nil', h1, h2, bind_ok, fi_v, List.length_cons, List.length_nil, Nat.reduceAdd, big2, grd_true, opt_some]
  rw [h0, e]
  show ((ev Γ .r k1 env tp).so fun x_1 t => _) = _
  rw [h3]
  show (match ixN ds.length a with | some j => _ | none => _) = _
  rw [h4]
  show ((ev Γ .r k2 (env.set i (.own (ds.set j x))) tp).so fun y t => _) = _
  rw [h5]
  show (match ixN (ds.set j x).length b with | some l => _ | none => _) = _
  rw [List.length_set, h6]
end
end Q

set_option Elab.async false
set_option linter.all false
set_option maxRecDepth 100000
set_option exponentiation.threshold 4000
namespace Q
open PySem PySem.Spec L2
open PyProof.Rows hiding St
/-- how large the entries may be behind some columns -/
def bt (s : Nat × Nat) : Nat → Nat × Nat
  | 0 => s
  | k + 1 => (4 * (bt s k).1 + (bt s k).2, 2 * (bt s k).2 + (bt s k).1 + 1)
theorem foldlM_some {α β : Type} (f : α → β → α) : ∀ (xs : List β) (a : α), xs.foldlM (fun a x => some (f a x)) a = some (xs.foldl f a)
  | [], _ => rfl
  | x :: xs, a => by
    rw [List.foldlM_cons]
    exact foldlM_some f xs (f a x)
theorem range_at {n i x : Nat} (h : (List.range n)[i]? = some x) : x = i ∧ i < n := by
  rw [List.getElem?_eq_some_iff] at h
  obtain ⟨h1, h2⟩ := h
  rw [List.getElem_range] at h2
  exact ⟨h2.symm, by simpa using h1⟩
theorem ne_fq {x y : Rat} : cmpD .ne (fq x) (fq y) = some (decide (x ≠ y)) := by
  show (eqD (fq x) (fq y)).map (!·) = _
  rw [eq_fq]
  simp
theorem tru_l {xs : List D} : truD (.list xs) = some (!xs.isEmpty) := rfl
section
variable (es : List Ent) (gl : Str → Option D) (fuel : Nat)
def optL : Option (List Rat) → D
  | none => .none
  | some x => .tuple (qs x)
def SolvedOk (i k0 : Nat) : Prop := ∀ k tp b b2 b3 rows aims d m, k0 ≤ k → rows.length ≤ 40 → aims.length = rows.length → (∀ r ∈ rows, r.length = rows.length ∧ ∀ q ∈ r, Bq d m q) → (∀ q ∈ aims, Bq d m q) → (∀ k, k < rows.length → 5 * (bt (d, m) k).1 + 3 * (bt (d, m) k).2 + 1 ≤ 998) →
  callC es gl fuel k i [.val (sq b (rows.map fun r => sq b2 (qs r))), .val (sq b3 (qs aims))] tp = .ok (optL (solvedR rows aims)) tp
end
section
variable {es : List Ent} {gl : Str → Option D} {fuel : Nat} {i k0 : Nat}
abbrev kl_solved_0  (Γ : Sm) (env : QE) : D → Tp → Out (Option D) := lcf Γ (.tp (.cons (.nm 7) (.cons (.nm 8) .nil))) .nil (.bin .add (.blt .list (.cons (.var 7) .nil)) (.lst (.cons (.var 8) .nil))) env
abbrev kl_solved_1 (i_minus : Nat) (i_over : Nat) (i_times : Nat) (Γ : Sm) (n : Nat) : D → QE → Tp → SO := forF Γ n (.nm 4) (.cons (.set 5 (.lc (.var 6) (.nm 6) .rng2 (.cons (.var 4) (.cons (.var 2) .nil)) (.cons (.cmp .ne (.ix (.ix (.var 3) (.var 6)) (.var 4)) (.glo "ZERO")) .nil) [6])) (.cons (.ife (.not (.var 5)) (.cons (.ret (.lit .none)) .nil) .nil) (.cons (.swp 3 (.var 4) (.ix (.var 5) (.lit (.int 0))) (.ix (.var 3) (.ix (.var 5) (.lit (.int 0)))) (.ix (.var 3) (.var 4))) (.cons (.sub 3 (.var 4) (.lc (.call i_over (.cons (.var 9) (.cons (.ix (.ix (.var 3) (.var 4)) (.var 4)) .nil))) (.nm 9) .seq (.cons (.ix (.var 3) (.var 4)) .nil) .nil [9])) (.cons (.for_ (.nm 6) .rng1 (.cons (.var 2) .nil) (.cons (.ife (.and (.cmp .ne (.var 6) (.var 4)) (.cmp .ne (.ix (.ix (.var 3) (.var 6)) (.var 4)) (.glo "ZERO"))) (.cons (.set 10 (.ix (.ix (.var 3) (.var 6)) (.var 4))) (.cons (.sub 3 (.var 6) (.lc (.call i_minus (.cons (.var 9) (.cons (.call i_times (.cons (.var 10) (.cons (.var 11) .nil))) .nil))) (.tp (.cons (.nm 9) (.cons (.nm 11) .nil))) .zip (.cons (.ix (.var 3) (.var 6)) (.cons (.ix (.var 3) (.var 4)) .nil)) .nil [9, 11])) .nil)) .nil) .nil)) .nil)))))
abbrev kl_solved_2  (Γ : Sm) (env : QE) : D → Tp → Out (Option D) := lcf Γ (.nm 6) (.cons (.cmp .ne (.ix (.ix (.var 3) (.var 6)) (.var 4)) (.glo "ZERO")) .nil) (.var 6) env
abbrev kl_solved_3 (i_over : Nat) (Γ : Sm) (env : QE) : D → Tp → Out (Option D) := lcf Γ (.nm 9) .nil (.call i_over (.cons (.var 9) (.cons (.ix (.ix (.var 3) (.var 4)) (.var 4)) .nil))) env
abbrev kl_solved_4 (i_minus : Nat) (i_times : Nat) (Γ : Sm) (n : Nat) : D → QE → Tp → SO := forF Γ n (.nm 6) (.cons (.ife (.and (.cmp .ne (.var 6) (.var 4)) (.cmp .ne (.ix (.ix (.var 3) (.var 6)) (.var 4)) (.glo "ZERO"))) (.cons (.set 10 (.ix (.ix (.var 3) (.var 6)) (.var 4))) (.cons (.sub 3 (.var 6) (.lc (.call i_minus (.cons (.var 9) (.cons (.call i_times (.cons (.var 10) (.cons (.var 11) .nil))) .nil))) (.tp (.cons (.nm 9) (.cons (.nm 11) .nil))) .zip (.cons (.ix (.var 3) (.var 6)) (.cons (.ix (.var 3) (.var 4)) .nil)) .nil [9, 11])) .nil)) .nil) .nil)
abbrev kl_solved_5 (i_minus : Nat) (i_times : Nat) (Γ : Sm) (env : QE) : D → Tp → Out (Option D) := lcf Γ (.tp (.cons (.nm 9) (.cons (.nm 11) .nil))) .nil (.call i_minus (.cons (.var 9) (.cons (.call i_times (.cons (.var 10) (.cons (.var 11) .nil))) .nil))) env
abbrev kl_solved_6  (Γ : Sm) (env : QE) : D → Tp → Out (Option D) := lcf Γ (.nm 7) .nil (.ix (.var 7) (.neg (.lit (.int 1)))) env
def k_solved (i_minus : Nat) (i_over : Nat) (i_times : Nat) : Df := ⟨["rows", "aims"], ["rows", "aims", "many", "table", "k", "places", "j", "row", "aim", "a", "factor", "b"], (.cons (.set 2 (.blt .len (.cons (.var 0) .nil))) (.cons (.setL 3 (.lc (.bin .add (.blt .list (.cons (.var 7) .nil)) (.lst (.cons (.var 8) .nil))) (.tp (.cons (.nm 7) (.cons (.nm 8) .nil))) .zip (.cons (.var 0) (.cons (.var 1) .nil)) .nil [7, 8])) (.cons (.for_ (.nm 4) .rng1 (.cons (.var 2) .nil) (.cons (.set 5 (.lc (.var 6) (.nm 6) .rng2 (.cons (.var 4) (.cons (.var 2) .nil)) (.cons (.cmp .ne (.ix (.ix (.var 3) (.var 6)) (.var 4)) (.glo "ZERO")) .nil) [6])) (.cons (.ife (.not (.var 5)) (.cons (.ret (.lit .none)) .nil) .nil) (.cons (.swp 3 (.var 4) (.ix (.var 5) (.lit (.int 0))) (.ix (.var 3) (.ix (.var 5) (.lit (.int 0)))) (.ix (.var 3) (.var 4))) (.cons (.sub 3 (.var 4) (.lc (.call i_over (.cons (.var 9) (.cons (.ix (.ix (.var 3) (.var 4)) (.var 4)) .nil))) (.nm 9) .seq (.cons (.ix (.var 3) (.var 4)) .nil) .nil [9])) (.cons (.for_ (.nm 6) .rng1 (.cons (.var 2) .nil) (.cons (.ife (.and (.cmp .ne (.var 6) (.var 4)) (.cmp .ne (.ix (.ix (.var 3) (.var 6)) (.var 4)) (.glo "ZERO"))) (.cons (.set 10 (.ix (.ix (.var 3) (.var 6)) (.var 4))) (.cons (.sub 3 (.var 6) (.lc (.call i_minus (.cons (.var 9) (.cons (.call i_times (.cons (.var 10) (.cons (.var 11) .nil))) .nil))) (.tp (.cons (.nm 9) (.cons (.nm 11) .nil))) .zip (.cons (.ix (.var 3) (.var 6)) (.cons (.ix (.var 3) (.var 4)) .nil)) .nil [9, 11])) .nil)) .nil) .nil)) .nil)))))) (.cons (.ret (.blt .tuple (.cons (.lc (.ix (.var 7) (.neg (.lit (.int 1)))) (.nm 7) .seq (.cons (.var 3) .nil) .nil [7]) .nil))) .nil))))⟩
/-- the inner loop: the rows but k -/
theorem solved_in {jm jt k : Nat} (hm : MinusOk es gl fuel jm k0) (ht : TimesOk es gl fuel jt k0) (G : GlOk gl) (hk : k0 ≤ k) {tp : Tp} {n d m c : Nat} {T : List (List Rat)} (hn : n ≤ 40) (hc : c < n) (hs : TOk n (n + 1) (4 * d + m) (2 * m + d + 1) T) (hr : ∀ j, j < n → j ≠ c → ∀ q ∈ rw_ T j, Bq d m q)
    (hp : ∀ q ∈ rw_ T c, Bq (d + (d + m)) (m + d) q) (hb : 5 * d + 3 * m + 1 ≤ 998) (v0 v1 v5 v7 v8 v9 : B) (J : B × B × B) :
    TOk n (n + 1) (4 * d + m) (2 * m + d + 1) ((List.range n).foldl (elm c) T) ∧ ∃ J' : B × B × B, forGo (kl_solved_4 jm jt ⟨callC es gl fuel k, gl⟩ fuel) ((List.range n).map fun j : Nat => PyData.int (j : Int)) [v0, v1, .val (.int (n : Nat)), .own (tb T), .val (.int (c : Nat)), v5, J.1, v7, v8, v9, J.2.1, J.2.2] tp
      = .nx [v0, v1, .val (.int (n : Nat)), .own (tb ((List.range n).foldl (elm c) T)), .val (.int (c : Nat)), v5, J'.1, v7, v8, v9, J'.2.1, J'.2.2] tp := by
  have key := for_ix (tp := tp) (f := kl_solved_4 jm jt ⟨callC es gl fuel k, gl⟩ fuel) (e := fun j : Nat => PyData.int (j : Int)) (step := fun T j => some (elm c T j))
    (Ok := fun i T' => TOk n (n + 1) (4 * d + m) (2 * m + d + 1) T' ∧ rw_ T' c = rw_ T c ∧ ∀ j, i ≤ j → j < n → j ≠ c → rw_ T' j = rw_ T j) (I := fun T' (J : B × B × B) => [v0, v1, .val (.int (n : Nat)), .own (tb T'), .val (.int (c : Nat)), v5, J.1, v7, v8, v9, J.2.1, J.2.2]) (d0 := .none) (L := List.range n)
    (fun i T' J x hx ok => ?_) (List.range n) [] T J rfl ⟨hs, rfl, fun _ _ _ _ => rfl⟩
  · rw [foldlM_some] at key
    obtain ⟨h1, J', h2⟩ := key
    exact ⟨h1.1, J', h2⟩
  · obtain ⟨rfl, hi⟩ := range_at hx
    obtain ⟨t1, t2, t3⟩ := ok
    have l1 := t1.len
    have rx := t1.rwk hi
    have rc := t1.rwk hc
    have a1 := atI_tb (T := T') (j := x) (by omega)
    have a2 := atI_row (r := rw_ T' x) (k := c) (by rw [rx.2.1]; omega)
    have a3 := atI_tb (T := T') (j := c) (by omega)
    have en1 : (((rw_ T' x)[c]?).getD 0) = en T' x c := rfl
    dsimp only
    by_cases hxc : x = c
    · subst hxc
      have e1 : decide ((x : Int) = (x : Int)) = true := decide_eq_true rfl
      have e2 : elm x T' x = T' := by unfold elm; rw [if_neg (fun z => z.1 rfl)]
      rw [e2]
      refine ⟨⟨t1, t2, fun j hj => t3 j (by omega)⟩, (.val (.int (x : Nat)), J.2.1, J.2.2), ?_⟩
      simp only [forF, cmpD, eqD_int, beq_self_eq_true, xs_nil, xs_cons, x_set, x_setL, x_par, x_unp, x_app, x_ext, x_sub, x_aug, x_ret, x_ife, x_ex, x_cont, x_brk, x_pass, x_frz, x_for, v_var, v_lit, v_glo, v_bin, v_neg, v_cmp, v_chain, v_not, v_and, v_or, v_ite, v_call, v_blt, v_ix, v_slc, v_lst, v_tup, v_lc, v_rev, es_nil', es_cons', ea_nil, ea_cons, argB, thn_nx, thn_rt, thn_ct, thn_br, bind_ok, so_ok, opt_some, bT_nm, bT_tp, bTs_nil, bTs_cons, getB_0, getB_s, fi_v, fi_r, fi_t, Q.M.isR, Q.M.op, Q.IK.md, im_seq, im_rng1, im_rng2, im_enum, im_zip, im_rng3, im_items, seq1_sq, zipD_eq, enumD_eq, seqOf_sq, seqOf_l, seqOf_t, seq1_l, seq1_t, len_sq, ix_sq, rev_sq, Option.map_some, Option.bind_some, List.set_cons_zero, List.set_cons_succ, List.map_cons, List.map_nil, unown, List.any_cons, List.any_nil, isOwn, Bool.or_false, Bool.or_true, Bool.false_and, Bool.true_and, Bool.and_false, Bool.and_true, finO, List.length_cons, List.length_nil, List.replicate, List.cons_append, List.nil_append, Nat.reduceSub, Nat.reduceAdd, Nat.sub_self, wipeB, Bool.not_true, Bool.not_false, Option.getD_some, cmpD, ltD, eqD_int, tru_bool, noLst_fq, tru_none, noLst, tup_l, tup_t, tup_sq, list_sq, len_l, len_t, grd_true, bin_addI, bin_subI, ix_l, ix_t, big1, big2]
    · have hb1 : ((x : Int) == (c : Int)) = false := by
        rw [beq_eq_false_iff_ne]
        exact fun z => hxc (by exact_mod_cast z)
      by_cases hz : en T' x c = 0
      · have e2 : elm c T' x = T' := by unfold elm; rw [if_neg (fun z => z.2 hz)]
        rw [e2]
        refine ⟨⟨t1, t2, fun j hj => t3 j (by omega)⟩, (.val (.int (x : Nat)), J.2.1, J.2.2), ?_⟩
        have e3 : eqD (fq (en T' x c)) (fq 0) = some true := by rw [eq_fq, hz]; simp
        simp only [forF, hb1, a1, a2, en1, e3, G.zero, xs_nil, xs_cons, x_set, x_setL, x_par, x_unp, x_app, x_ext, x_sub, x_aug, x_ret, x_ife, x_ex, x_cont, x_brk, x_pass, x_frz, x_for, v_var, v_lit, v_glo, v_bin, v_neg, v_cmp, v_chain, v_not, v_and, v_or, v_ite, v_call, v_blt, v_ix, v_slc, v_lst, v_tup, v_lc, v_rev, es_nil', es_cons', ea_nil, ea_cons, argB, thn_nx, thn_rt, thn_ct, thn_br, bind_ok, so_ok, opt_some, bT_nm, bT_tp, bTs_nil, bTs_cons, getB_0, getB_s, fi_v, fi_r, fi_t, Q.M.isR, Q.M.op, Q.IK.md, im_seq, im_rng1, im_rng2, im_enum, im_zip, im_rng3, im_items, seq1_sq, zipD_eq, enumD_eq, seqOf_sq, seqOf_l, seqOf_t, seq1_l, seq1_t, len_sq, ix_sq, rev_sq, Option.map_some, Option.bind_some, List.set_cons_zero, List.set_cons_succ, List.map_cons, List.map_nil, unown, List.any_cons, List.any_nil, isOwn, Bool.or_false, Bool.or_true, Bool.false_and, Bool.true_and, Bool.and_false, Bool.and_true, finO, List.length_cons, List.length_nil, List.replicate, List.cons_append, List.nil_append, Nat.reduceSub, Nat.reduceAdd, Nat.sub_self, wipeB, Bool.not_true, Bool.not_false, Option.getD_some, cmpD, ltD, eqD_int, tru_bool, noLst_fq, tru_none, noLst, tup_l, tup_t, tup_sq, list_sq, len_l, len_t, grd_true, bin_addI, bin_subI, ix_l, ix_t, big1, big2]
      · have hrow : rw_ T' x = rw_ T x := t3 x (Nat.le_refl _) hi hxc
        have hx0 : ∀ q ∈ rw_ T' x, Bq d m q := by rw [hrow]; exact hr x hi hxc
        have hc0 : ∀ q ∈ rw_ T' c, Bq (d + (d + m)) (m + d) q := by rw [t2]; exact hp
        have hf : Bq d m (en T' x c) := by
          have : en T' x c = (rw_ T' x)[c]'(by rw [rx.2.1]; omega) := by
            rw [← en1, List.getElem?_eq_getElem (by rw [rx.2.1]; omega)]
            rfl
          rw [this]
          exact hx0 _ (List.getElem_mem _)
        have e2 : elm c T' x = T'.set x ((rw_ T' x).zipWith (fun a b => a - en T' x c * b) (rw_ T' c)) := by unfold elm; rw [if_pos ⟨hxc, hz⟩]
        have z1 : ∀ p ∈ (rw_ T' x).zip (rw_ T' c), Bq (4 * d + m) (2 * m + d + 1) (p.1 - en T' x c * p.2) := fun p hp => by
          have hm := List.of_mem_zip hp
          have q1 := hf.mul (hc0 _ hm.2)
          have q2 := (hx0 _ hm.1).sub q1
          exact q2.mono (by omega) (by omega)
        have lz : ((rw_ T' x).zip (rw_ T' c)).length = n + 1 := by rw [List.length_zip, rx.2.1, rc.2.1]; omega
        rw [e2]
        refine ⟨⟨t1.setk (by rw [List.length_zipWith, rx.2.1, rc.2.1]; omega) (fun q hq => ?_), by rw [rw_set (Ne.symm hxc)]; exact t2, fun j hj hjn hjc => by rw [rw_set (by omega)]; exact t3 j (by omega) hjn hjc⟩, (.val (.int (x : Nat)), .val (fq (en T' x c)), J.2.2), ?_⟩
        · rw [← zipWith_zip] at hq
          obtain ⟨p, hp, rfl⟩ := List.mem_map.mp hq
          exact z1 p hp
        · have e3 : eqD (fq (en T' x c)) (fq 0) = some false := by rw [eq_fq]; simp [hz]
          have e4 := lc_run (tp := tp) (f := kl_solved_5 jm jt ⟨callC es gl fuel k, gl⟩ [v0, v1, .val (.int (n : Nat)), .own (tb T'), .val (.int (c : Nat)), v5, .val (.int (x : Nat)), v7, v8, .un, .val (fq (en T' x c)), .un]) (e := fun p : Rat × Rat => .tuple [fq p.1, fq p.2]) (g := fun p => fq (p.1 - en T' x c * p.2)) (xs := (rw_ T' x).zip (rw_ T' c)) (acc := []) (fun p hp => by
            have hmz := List.of_mem_zip hp
            have q1 := hf.mul (hc0 _ hmz.2)
            have f1 := ht k tp (en T' x c) p.2 hk (hf.sm (by omega)) ((hc0 _ hmz.2).sm (by omega)) trivial
            have f2 := hm k tp p.1 _ hk ((hx0 _ hmz.1).sm (by omega)) (q1.sm (by omega)) trivial
            simp only [lcf, ec_nil, Out.nox, f1, f2, xs_nil, xs_cons, x_set, x_setL, x_par, x_unp, x_app, x_ext, x_sub, x_aug, x_ret, x_ife, x_ex, x_cont, x_brk, x_pass, x_frz, x_for, v_var, v_lit, v_glo, v_bin, v_neg, v_cmp, v_chain, v_not, v_and, v_or, v_ite, v_call, v_blt, v_ix, v_slc, v_lst, v_tup, v_lc, v_rev, es_nil', es_cons', ea_nil, ea_cons, argB, thn_nx, thn_rt, thn_ct, thn_br, bind_ok, so_ok, opt_some, bT_nm, bT_tp, bTs_nil, bTs_cons, getB_0, getB_s, fi_v, fi_r, fi_t, Q.M.isR, Q.M.op, Q.IK.md, im_seq, im_rng1, im_rng2, im_enum, im_zip, im_rng3, im_items, seq1_sq, zipD_eq, enumD_eq, seqOf_sq, seqOf_l, seqOf_t, seq1_l, seq1_t, len_sq, ix_sq, rev_sq, Option.map_some, Option.bind_some, List.set_cons_zero, List.set_cons_succ, List.map_cons, List.map_nil, unown, List.any_cons, List.any_nil, isOwn, Bool.or_false, Bool.or_true, Bool.false_and, Bool.true_and, Bool.and_false, Bool.and_true, finO, List.length_cons, List.length_nil, List.replicate, List.cons_append, List.nil_append, Nat.reduceSub, Nat.reduceAdd, Nat.sub_self, wipeB, Bool.not_true, Bool.not_false, Option.getD_some, cmpD, ltD, eqD_int, tru_bool, noLst_fq, tru_none, noLst, tup_l, tup_t, tup_sq, list_sq, len_l, len_t, grd_true, bin_addI, bin_subI, ix_l, ix_t, big1, big2])
          have e5 : ((rw_ T' x).zip (rw_ T' c)).map (fun p => fq (p.1 - en T' x c * p.2)) = qs ((rw_ T' x).zipWith (fun a b => a - en T' x c * b) (rw_ T' c)) := by
            rw [← zipWith_zip, qs, List.map_map]
            rfl
          rw [e5, List.nil_append] at e4
          have e6 : big ((rw_ T' x).zip (rw_ T' c)).length = true := Nat.ble_eq_true_of_le (by omega)
          have e7 : ixN (tb T').length (x : Int) = some x := ixN_lt (by rw [tb_len]; omega)
          simp only [forF, hb1, a1, a2, a3, en1, e3, G.zero, e4, e7, zipGo_map, List.length_map, e6, set_tb, xs_nil, xs_cons, x_set, x_setL, x_par, x_unp, x_app, x_ext, x_sub, x_aug, x_ret, x_ife, x_ex, x_cont, x_brk, x_pass, x_frz, x_for, v_var, v_lit, v_glo, v_bin, v_neg, v_cmp, v_chain, v_not, v_and, v_or, v_ite, v_call, v_blt, v_ix, v_slc, v_lst, v_tup, v_lc, v_rev, es_nil', es_cons', ea_nil, ea_cons, argB, thn_nx, thn_rt, thn_ct, thn_br, bind_ok, so_ok, opt_some, bT_nm, bT_tp, bTs_nil, bTs_cons, getB_0, getB_s, fi_v, fi_r, fi_t, Q.M.isR, Q.M.op, Q.IK.md, im_seq, im_rng1, im_rng2, im_enum, im_zip, im_rng3, im_items, seq1_sq, zipD_eq, enumD_eq, seqOf_sq, seqOf_l, seqOf_t, seq1_l, seq1_t, len_sq, ix_sq, rev_sq, Option.map_some, Option.bind_some, List.set_cons_zero, List.set_cons_succ, List.map_cons, List.map_nil, unown, List.any_cons, List.any_nil, isOwn, Bool.or_false, Bool.or_true, Bool.false_and, Bool.true_and, Bool.and_false, Bool.and_true, finO, List.length_cons, List.length_nil, List.replicate, List.cons_append, List.nil_append, Nat.reduceSub, Nat.reduceAdd, Nat.sub_self, wipeB, Bool.not_true, Bool.not_false, Option.getD_some, cmpD, ltD, eqD_int, tru_bool, noLst_fq, tru_none, noLst, tup_l, tup_t, tup_sq, list_sq, len_l, len_t, grd_true, bin_addI, bin_subI, ix_l, ix_t, big1, big2]
theorem plc_mem {n k p : Nat} {T : List (List Rat)} {ps : List Nat} (h : plc n T k = p :: ps) : k ≤ p ∧ p < n ∧ en T p k ≠ 0 := by
  have hm : p ∈ plc n T k := by rw [h]; exact List.mem_cons_self ..
  unfold plc at hm
  obtain ⟨h1, h2⟩ := List.mem_filter.mp hm
  rw [List.mem_range'] at h1
  obtain ⟨i, hi, rfl⟩ := h1
  exact ⟨by omega, by omega, by simpa using h2⟩
theorem solved_ok {jm jo jt : Nat} (h : es[i]? = some (.code (k_solved jm jo jt))) (G : GlOk gl) (hm : MinusOk es gl fuel jm k0) (ho : OverOk es gl fuel jo k0) (ht : TimesOk es gl fuel jt k0) : SolvedOk es gl fuel i (k0 + 1) := by
  intro k tp b b2 b3 rows aims d m hk hn ha hr hq hb
  obtain ⟨k, rfl⟩ : ∃ j, k = j + 1 := ⟨k - 1, by omega⟩
  rw [call_code h rfl]
  generalize hN : rows.length = n at *
  -- the table
  have lz : (rows.zip aims).length = n := by rw [List.length_zip]; omega
  have c1 := lc_run (tp := tp) (f := kl_solved_0 ⟨callC es gl fuel k, gl⟩ [.val (sq b (rows.map fun r => sq b2 (qs r))), .val (sq b3 (qs aims)), .val (.int (n : Nat)), .un, .un, .un, .un, .un, .un, .un, .un, .un]) (e := fun p : List Rat × Rat => .tuple [sq b2 (qs p.1), fq p.2]) (g := fun p => .list (qs (p.1 ++ [p.2]))) (xs := rows.zip aims) (acc := []) (fun p hp => by
    have hmz := List.of_mem_zip hp
    have hl := (hr _ hmz.1).1
    have e1 : addD (.list (qs p.1)) (.list [fq p.2]) = some (.list (qs (p.1 ++ [p.2]))) := by
      show grd (big ((qs p.1).length + 1)) _ = _
      have : big ((qs p.1).length + 1) = true := Nat.ble_eq_true_of_le (by rw [List.length_map]; omega)
      rw [this]
      show some (PyData.list (List.map fq p.1 ++ [fq p.2])) = some (.list (List.map fq (p.1 ++ [p.2])))
      rw [List.map_append]
      rfl
    simp only [lcf, ec_nil, Out.nox, show binD .add (.list (qs p.1)) (.list [fq p.2]) = _ from e1, xs_nil, xs_cons, x_set, x_setL, x_par, x_unp, x_app, x_ext, x_sub, x_aug, x_ret, x_ife, x_ex, x_cont, x_brk, x_pass, x_frz, x_for, v_var, v_lit, v_glo, v_bin, v_neg, v_cmp, v_chain, v_not, v_and, v_or, v_ite, v_call, v_blt, v_ix, v_slc, v_lst, v_tup, v_lc, v_rev, es_nil', es_cons', ea_nil, ea_cons, argB, thn_nx, thn_rt, thn_ct, thn_br, bind_ok, so_ok, opt_some, bT_nm, bT_tp, bTs_nil, bTs_cons, getB_0, getB_s, fi_v, fi_r, fi_t, Q.M.isR, Q.M.op, Q.IK.md, im_seq, im_rng1, im_rng2, im_enum, im_zip, im_rng3, im_items, seq1_sq, zipD_eq, enumD_eq, seqOf_sq, seqOf_l, seqOf_t, seq1_l, seq1_t, len_sq, ix_sq, rev_sq, Option.map_some, Option.bind_some, List.set_cons_zero, List.set_cons_succ, List.map_cons, List.map_nil, unown, List.any_cons, List.any_nil, isOwn, Bool.or_false, Bool.or_true, Bool.false_and, Bool.true_and, Bool.and_false, Bool.and_true, finO, List.length_cons, List.length_nil, List.replicate, List.cons_append, List.nil_append, Nat.reduceSub, Nat.reduceAdd, Nat.sub_self, wipeB, Bool.not_true, Bool.not_false, Option.getD_some, cmpD, ltD, eqD_int, tru_bool, noLst_fq, tru_none, noLst, tup_l, tup_t, tup_sq, list_sq, len_l, len_t, grd_true, bin_addI, bin_subI, ix_l, ix_t, big1, big2])
  have c2 : (rows.zip aims).map (fun p => PyData.list (qs (p.1 ++ [p.2]))) = tb (aug rows aims) := by
    unfold tb aug
    rw [← zipWith_zip, List.map_map]
    rfl
  rw [c2, List.nil_append] at c1
  have t0 : TOk n (n + 1) d m (aug rows aims) := by
    refine ⟨by unfold aug; rw [List.length_zipWith]; omega, fun r hr' => ?_⟩
    unfold aug at hr'
    rw [← zipWith_zip] at hr'
    obtain ⟨p, hp, rfl⟩ := List.mem_map.mp hr'
    have hmz := List.of_mem_zip hp
    refine ⟨by rw [List.length_append, (hr _ hmz.1).1]; rfl, fun q hq' => ?_⟩
    rcases List.mem_append.mp hq' with hq' | hq'
    · exact (hr _ hmz.1).2 q hq'
    · rw [List.mem_singleton.mp hq']
      exact hq _ hmz.2
  -- the loop over the columns
  have key := for_ix (tp := tp) (f := kl_solved_1 jm jo jt ⟨callC es gl fuel k, gl⟩ fuel) (e := fun j : Nat => PyData.int (j : Int)) (step := gj n) (Ok := fun i T => TOk n (n + 1) (bt (d, m) i).1 (bt (d, m) i).2 T)
    (I := fun T (J : B × B × B × B × B × B × B × B) => [.val (sq b (rows.map fun r => sq b2 (qs r))), .val (sq b3 (qs aims)), .val (.int (n : Nat)), .own (tb T), J.1, J.2.1, J.2.2.1, J.2.2.2.1, J.2.2.2.2.1, J.2.2.2.2.2.1, J.2.2.2.2.2.2.1, J.2.2.2.2.2.2.2]) (d0 := .none) (L := List.range n)
    (fun c T J x hx ok => ?_) (List.range n) [] (aug rows aims) (.un, .un, .un, .un, .un, .un, .un, .un) rfl t0
  · have hbn : big (rows.map fun r => sq b2 (qs r)).length = true := Nat.ble_eq_true_of_le (by rw [List.length_map]; omega)
    unfold solvedR
    rw [hN]
    cases hf : (List.range n).foldlM (gj n) (aug rows aims) with
    | none =>
      rw [hf] at key
      dsimp only at key
      have hz : big (rows.zip aims).length = true := Nat.ble_eq_true_of_le (by omega)
      simp only [k_solved, zipGo_map, List.length_map, hN, hz, c1, rng1_nat (show n ≤ 1000 by omega), key, optL, Option.map_none, xs_nil, xs_cons, x_set, x_setL, x_par, x_unp, x_app, x_ext, x_sub, x_aug, x_ret, x_ife, x_ex, x_cont, x_brk, x_pass, x_frz, x_for, v_var, v_lit, v_glo, v_bin, v_neg, v_cmp, v_chain, v_not, v_and, v_or, v_ite, v_call, v_blt, v_ix, v_slc, v_lst, v_tup, v_lc, v_rev, es_nil', es_cons', ea_nil, ea_cons, argB, thn_nx, thn_rt, thn_ct, thn_br, bind_ok, so_ok, opt_some, bT_nm, bT_tp, bTs_nil, bTs_cons, getB_0, getB_s, fi_v, fi_r, fi_t, Q.M.isR, Q.M.op, Q.IK.md, im_seq, im_rng1, im_rng2, im_enum, im_zip, im_rng3, im_items, seq1_sq, zipD_eq, enumD_eq, seqOf_sq, seqOf_l, seqOf_t, seq1_l, seq1_t, len_sq, ix_sq, rev_sq, Option.map_some, Option.bind_some, List.set_cons_zero, List.set_cons_succ, List.map_cons, List.map_nil, unown, List.any_cons, List.any_nil, isOwn, Bool.or_false, Bool.or_true, Bool.false_and, Bool.true_and, Bool.and_false, Bool.and_true, finO, List.length_cons, List.length_nil, List.replicate, List.cons_append, List.nil_append, Nat.reduceSub, Nat.reduceAdd, Nat.sub_self, wipeB, Bool.not_true, Bool.not_false, Option.getD_some, cmpD, ltD, eqD_int, tru_bool, noLst_fq, tru_none, noLst, tup_l, tup_t, tup_sq, list_sq, len_l, len_t, grd_true, bin_addI, bin_subI, ix_l, ix_t, big1, big2]
    | some T =>
      rw [hf] at key
      obtain ⟨tk, J', key⟩ := key
      have hz : big (rows.zip aims).length = true := Nat.ble_eq_true_of_le (by omega)
      have c3 := lc_run (tp := tp) (f := kl_solved_6 ⟨callC es gl fuel k, gl⟩ [.val (sq b (rows.map fun r => sq b2 (qs r))), .val (sq b3 (qs aims)), .val (.int (n : Nat)), .own (tb T), J'.1, J'.2.1, J'.2.2.1, .un, J'.2.2.2.2.1, J'.2.2.2.2.2.1, J'.2.2.2.2.2.2.1, J'.2.2.2.2.2.2.2]) (e := fun r : List Rat => .list (qs r)) (g := fun r => fq ((r[r.length - 1]?).getD 0)) (xs := T) (acc := []) (fun r hr' => by
        have hl := (tk.row r hr').1
        have e1 : atI (qs r) (-1) = some (fq ((r[r.length - 1]?).getD 0)) := by
          have e2 : ixN (qs r).length (-1) = some (r.length - 1) := by
            rw [List.length_map]
            unfold ixN
            simp
            omega
          unfold atI
          rw [e2]
          show (List.map fq r)[r.length - 1]? = _
          rw [List.getElem?_map, List.getElem?_eq_getElem (by omega)]
          rfl
        simp only [lcf, ec_nil, Out.nox, e1, xs_nil, xs_cons, x_set, x_setL, x_par, x_unp, x_app, x_ext, x_sub, x_aug, x_ret, x_ife, x_ex, x_cont, x_brk, x_pass, x_frz, x_for, v_var, v_lit, v_glo, v_bin, v_neg, v_cmp, v_chain, v_not, v_and, v_or, v_ite, v_call, v_blt, v_ix, v_slc, v_lst, v_tup, v_lc, v_rev, es_nil', es_cons', ea_nil, ea_cons, argB, thn_nx, thn_rt, thn_ct, thn_br, bind_ok, so_ok, opt_some, bT_nm, bT_tp, bTs_nil, bTs_cons, getB_0, getB_s, fi_v, fi_r, fi_t, Q.M.isR, Q.M.op, Q.IK.md, im_seq, im_rng1, im_rng2, im_enum, im_zip, im_rng3, im_items, seq1_sq, zipD_eq, enumD_eq, seqOf_sq, seqOf_l, seqOf_t, seq1_l, seq1_t, len_sq, ix_sq, rev_sq, Option.map_some, Option.bind_some, List.set_cons_zero, List.set_cons_succ, List.map_cons, List.map_nil, unown, List.any_cons, List.any_nil, isOwn, Bool.or_false, Bool.or_true, Bool.false_and, Bool.true_and, Bool.and_false, Bool.and_true, finO, List.length_cons, List.length_nil, List.replicate, List.cons_append, List.nil_append, Nat.reduceSub, Nat.reduceAdd, Nat.sub_self, wipeB, Bool.not_true, Bool.not_false, Option.getD_some, cmpD, ltD, eqD_int, tru_bool, noLst_fq, tru_none, noLst, tup_l, tup_t, tup_sq, list_sq, len_l, len_t, grd_true, bin_addI, bin_subI, ix_l, ix_t, big1, big2])
      have e3 : big (tb T).length = true := Nat.ble_eq_true_of_le (by rw [tb_len, tk.len]; omega)
      have e4 : T.map (fun r => fq ((r[r.length - 1]?).getD 0)) = qs (T.map fun r => (r[r.length - 1]?).getD 0) := by
        show _ = List.map fq (List.map _ T)
        rw [List.map_map]
        rfl
      rw [e4, List.nil_append] at c3
      simp only [k_solved, zipGo_map, List.length_map, hN, hz, c1, rng1_nat (show n ≤ 1000 by omega), key, e3, Option.map_some, optL, xs_nil, xs_cons, x_set, x_setL, x_par, x_unp, x_app, x_ext, x_sub, x_aug, x_ret, x_ife, x_ex, x_cont, x_brk, x_pass, x_frz, x_for, v_var, v_lit, v_glo, v_bin, v_neg, v_cmp, v_chain, v_not, v_and, v_or, v_ite, v_call, v_blt, v_ix, v_slc, v_lst, v_tup, v_lc, v_rev, es_nil', es_cons', ea_nil, ea_cons, argB, thn_nx, thn_rt, thn_ct, thn_br, bind_ok, so_ok, opt_some, bT_nm, bT_tp, bTs_nil, bTs_cons, getB_0, getB_s, fi_v, fi_r, fi_t, Q.M.isR, Q.M.op, Q.IK.md, im_seq, im_rng1, im_rng2, im_enum, im_zip, im_rng3, im_items, seq1_sq, zipD_eq, enumD_eq, seqOf_sq, seqOf_l, seqOf_t, seq1_l, seq1_t, len_sq, ix_sq, rev_sq, Option.map_some, Option.bind_some, List.set_cons_zero, List.set_cons_succ, List.map_cons, List.map_nil, unown, List.any_cons, List.any_nil, isOwn, Bool.or_false, Bool.or_true, Bool.false_and, Bool.true_and, Bool.and_false, Bool.and_true, finO, List.length_cons, List.length_nil, List.replicate, List.cons_append, List.nil_append, Nat.reduceSub, Nat.reduceAdd, Nat.sub_self, wipeB, Bool.not_true, Bool.not_false, Option.getD_some, cmpD, ltD, eqD_int, tru_bool, noLst_fq, tru_none, noLst, tup_l, tup_t, tup_sq, list_sq, len_l, len_t, grd_true, bin_addI, bin_subI, ix_l, ix_t, big1, big2]
      rw [show tb T = T.map fun r => PyData.list (qs r) from rfl] at c3 ⊢
      simp only [c3, xs_nil, xs_cons, x_set, x_setL, x_par, x_unp, x_app, x_ext, x_sub, x_aug, x_ret, x_ife, x_ex, x_cont, x_brk, x_pass, x_frz, x_for, v_var, v_lit, v_glo, v_bin, v_neg, v_cmp, v_chain, v_not, v_and, v_or, v_ite, v_call, v_blt, v_ix, v_slc, v_lst, v_tup, v_lc, v_rev, es_nil', es_cons', ea_nil, ea_cons, argB, thn_nx, thn_rt, thn_ct, thn_br, bind_ok, so_ok, opt_some, bT_nm, bT_tp, bTs_nil, bTs_cons, getB_0, getB_s, fi_v, fi_r, fi_t, Q.M.isR, Q.M.op, Q.IK.md, im_seq, im_rng1, im_rng2, im_enum, im_zip, im_rng3, im_items, seq1_sq, zipD_eq, enumD_eq, seqOf_sq, seqOf_l, seqOf_t, seq1_l, seq1_t, len_sq, ix_sq, rev_sq, Option.map_some, Option.bind_some, List.set_cons_zero, List.set_cons_succ, List.map_cons, List.map_nil, unown, List.any_cons, List.any_nil, isOwn, Bool.or_false, Bool.or_true, Bool.false_and, Bool.true_and, Bool.and_false, Bool.and_true, finO, List.length_cons, List.length_nil, List.replicate, List.cons_append, List.nil_append, Nat.reduceSub, Nat.reduceAdd, Nat.sub_self, wipeB, Bool.not_true, Bool.not_false, Option.getD_some, cmpD, ltD, eqD_int, tru_bool, noLst_fq, tru_none, noLst, tup_l, tup_t, tup_sq, list_sq, len_l, len_t, grd_true, bin_addI, bin_subI, ix_l, ix_t, big1, big2]
  · obtain ⟨rfl, hc⟩ := range_at hx
    have hB := hb x hc
    have hS : bt (d, m) (x + 1) = (4 * (bt (d, m) x).1 + (bt (d, m) x).2, 2 * (bt (d, m) x).2 + (bt (d, m) x).1 + 1) := rfl
    rw [hS]
    generalize (bt (d, m) x).1 = d' at *
    generalize (bt (d, m) x).2 = m' at *
    have tl := ok.len
    have pk := ok.rwk hc
    obtain ⟨j0, j1, j2, j3, j4, j5, j6, j7⟩ := J
    have c4 := lc_filter (tp := tp) (f := kl_solved_2 ⟨callC es gl fuel k, gl⟩ [.val (sq b (rows.map fun r => sq b2 (qs r))), .val (sq b3 (qs aims)), .val (.int (n : Nat)), .own (tb T), .val (.int (x : Nat)), j1, .un, j3, j4, j5, j6, j7]) (e := fun j : Nat => PyData.int (j : Int)) (g := fun j : Nat => PyData.int (j : Int)) (p := fun j => decide (en T j x ≠ 0)) (xs := List.range' x (n - x)) (acc := []) (fun j hj => by
      rw [List.mem_range'] at hj
      obtain ⟨i', hi', hje⟩ := hj
      have hjn : j < n := by omega
      have q1 := atI_tb (T := T) (j := j) (by omega)
      have q2 := atI_row (r := rw_ T j) (k := x) (by rw [(ok.rwk hjn).2.1]; omega)
      have q3 : (((rw_ T j)[x]?).getD 0) = en T j x := rfl
      by_cases hz : en T j x = 0
      · have q4 : eqD (fq (en T j x)) (fq 0) = some true := by rw [eq_fq, hz]; simp
        rw [show decide (en T j x ≠ 0) = false by simp [hz]]
        simp only [lcf, ec_one, Out.nox, q1, q2, q3, q4, G.zero, xs_nil, xs_cons, x_set, x_setL, x_par, x_unp, x_app, x_ext, x_sub, x_aug, x_ret, x_ife, x_ex, x_cont, x_brk, x_pass, x_frz, x_for, v_var, v_lit, v_glo, v_bin, v_neg, v_cmp, v_chain, v_not, v_and, v_or, v_ite, v_call, v_blt, v_ix, v_slc, v_lst, v_tup, v_lc, v_rev, es_nil', es_cons', ea_nil, ea_cons, argB, thn_nx, thn_rt, thn_ct, thn_br, bind_ok, so_ok, opt_some, bT_nm, bT_tp, bTs_nil, bTs_cons, getB_0, getB_s, fi_v, fi_r, fi_t, Q.M.isR, Q.M.op, Q.IK.md, im_seq, im_rng1, im_rng2, im_enum, im_zip, im_rng3, im_items, seq1_sq, zipD_eq, enumD_eq, seqOf_sq, seqOf_l, seqOf_t, seq1_l, seq1_t, len_sq, ix_sq, rev_sq, Option.map_some, Option.bind_some, List.set_cons_zero, List.set_cons_succ, List.map_cons, List.map_nil, unown, List.any_cons, List.any_nil, isOwn, Bool.or_false, Bool.or_true, Bool.false_and, Bool.true_and, Bool.and_false, Bool.and_true, finO, List.length_cons, List.length_nil, List.replicate, List.cons_append, List.nil_append, Nat.reduceSub, Nat.reduceAdd, Nat.sub_self, wipeB, Bool.not_true, Bool.not_false, Option.getD_some, cmpD, ltD, eqD_int, tru_bool, noLst_fq, tru_none, noLst, tup_l, tup_t, tup_sq, list_sq, len_l, len_t, grd_true, bin_addI, bin_subI, ix_l, ix_t, big1, big2]
        rfl
      · have q4 : eqD (fq (en T j x)) (fq 0) = some false := by rw [eq_fq]; simp [hz]
        rw [show decide (en T j x ≠ 0) = true by simp [hz]]
        simp only [lcf, ec_one, Out.nox, q1, q2, q3, q4, G.zero, xs_nil, xs_cons, x_set, x_setL, x_par, x_unp, x_app, x_ext, x_sub, x_aug, x_ret, x_ife, x_ex, x_cont, x_brk, x_pass, x_frz, x_for, v_var, v_lit, v_glo, v_bin, v_neg, v_cmp, v_chain, v_not, v_and, v_or, v_ite, v_call, v_blt, v_ix, v_slc, v_lst, v_tup, v_lc, v_rev, es_nil', es_cons', ea_nil, ea_cons, argB, thn_nx, thn_rt, thn_ct, thn_br, bind_ok, so_ok, opt_some, bT_nm, bT_tp, bTs_nil, bTs_cons, getB_0, getB_s, fi_v, fi_r, fi_t, Q.M.isR, Q.M.op, Q.IK.md, im_seq, im_rng1, im_rng2, im_enum, im_zip, im_rng3, im_items, seq1_sq, zipD_eq, enumD_eq, seqOf_sq, seqOf_l, seqOf_t, seq1_l, seq1_t, len_sq, ix_sq, rev_sq, Option.map_some, Option.bind_some, List.set_cons_zero, List.set_cons_succ, List.map_cons, List.map_nil, unown, List.any_cons, List.any_nil, isOwn, Bool.or_false, Bool.or_true, Bool.false_and, Bool.true_and, Bool.and_false, Bool.and_true, finO, List.length_cons, List.length_nil, List.replicate, List.cons_append, List.nil_append, Nat.reduceSub, Nat.reduceAdd, Nat.sub_self, wipeB, Bool.not_true, Bool.not_false, Option.getD_some, cmpD, ltD, eqD_int, tru_bool, noLst_fq, tru_none, noLst, tup_l, tup_t, tup_sq, list_sq, len_l, len_t, grd_true, bin_addI, bin_subI, ix_l, ix_t, big1, big2]
        rfl)
    rw [List.nil_append, show (List.range' x (n - x)).filter (fun j => decide (en T j x ≠ 0)) = plc n T x from rfl] at c4
    have e1 : big (List.range' x (n - x)).length = true := Nat.ble_eq_true_of_le (by rw [List.length_range']; omega)
    unfold gj
    cases hpl : plc n T x with
    | nil =>
      rw [hpl] at c4
      dsimp only
      simp only [forF, rng2_nat (show x ≤ 1000 by omega) (show n ≤ 1000 by omega), List.length_map, e1, c4, tru_l, List.isEmpty_nil, xs_nil, xs_cons, x_set, x_setL, x_par, x_unp, x_app, x_ext, x_sub, x_aug, x_ret, x_ife, x_ex, x_cont, x_brk, x_pass, x_frz, x_for, v_var, v_lit, v_glo, v_bin, v_neg, v_cmp, v_chain, v_not, v_and, v_or, v_ite, v_call, v_blt, v_ix, v_slc, v_lst, v_tup, v_lc, v_rev, es_nil', es_cons', ea_nil, ea_cons, argB, thn_nx, thn_rt, thn_ct, thn_br, bind_ok, so_ok, opt_some, bT_nm, bT_tp, bTs_nil, bTs_cons, getB_0, getB_s, fi_v, fi_r, fi_t, Q.M.isR, Q.M.op, Q.IK.md, im_seq, im_rng1, im_rng2, im_enum, im_zip, im_rng3, im_items, seq1_sq, zipD_eq, enumD_eq, seqOf_sq, seqOf_l, seqOf_t, seq1_l, seq1_t, len_sq, ix_sq, rev_sq, Option.map_some, Option.bind_some, List.set_cons_zero, List.set_cons_succ, List.map_cons, List.map_nil, unown, List.any_cons, List.any_nil, isOwn, Bool.or_false, Bool.or_true, Bool.false_and, Bool.true_and, Bool.and_false, Bool.and_true, finO, List.length_cons, List.length_nil, List.replicate, List.cons_append, List.nil_append, Nat.reduceSub, Nat.reduceAdd, Nat.sub_self, wipeB, Bool.not_true, Bool.not_false, Option.getD_some, cmpD, ltD, eqD_int, tru_bool, noLst_fq, tru_none, noLst, tup_l, tup_t, tup_sq, list_sq, len_l, len_t, grd_true, bin_addI, bin_subI, ix_l, ix_t, big1, big2]
    | cons p ps =>
      rw [hpl] at c4
      dsimp only
      obtain ⟨p1, p2, p3⟩ := plc_mem hpl
      have s1 := ok.swpk hc p2
      have piv : en (swp T x p) x x ≠ 0 := by
        have : rw_ (swp T x p) x = rw_ T p := by
          unfold swp
          by_cases hxp : x = p
          · subst hxp
            rw [rw_set_same (by rw [List.length_set]; omega)]
          · rw [rw_set hxp, rw_set_same (by omega)]
        show (((rw_ (swp T x p) x)[x]?).getD 0) ≠ 0
        rw [this]
        exact p3
      have s2 := s1.sclk hc (by omega) piv
      have s1l := s1.len
      have s2l := s2.len
      have psB : x < (swp T x p).length := by omega
      have pr := s1.rwk hc
      have row2 : rw_ (scl (swp T x p) x) x = (rw_ (swp T x p) x).map fun a => a / en (swp T x p) x x := by
        unfold scl
        rw [rw_set_same psB]
      have row2' : ∀ j, j ≠ x → rw_ (scl (swp T x p) x) j = rw_ (swp T x p) j := fun j hj => by
        unfold scl
        rw [rw_set hj]
      -- the swap
      let env0 : QE := [.val (sq b (rows.map fun r => sq b2 (qs r))), .val (sq b3 (qs aims)), .val (.int (n : Nat)), .own (tb T), .val (.int (x : Nat)), .val (.list (PyData.int (p : Nat) :: ps.map fun j : Nat => PyData.int (j : Int))), j2, j3, j4, j5, j6, j7]
      have ix0 : atI (PyData.int (p : Nat) :: ps.map fun j : Nat => PyData.int (j : Int)) 0 = some (.int (p : Nat)) := by
        rw [show (0 : Int) = ((0 : Nat) : Int) from rfl, atI_nat]
        rfl
      have a1 := atI_tb (T := T) (j := x) (by omega)
      have a2 := atI_tb (T := T) (j := p) (by omega)
      have w1 : exS ⟨callC es gl fuel k, gl⟩ fuel (.swp 3 (.var 4) (.ix (.var 5) (.lit (.int 0))) (.ix (.var 3) (.ix (.var 5) (.lit (.int 0)))) (.ix (.var 3) (.var 4))) env0 tp = .nx (env0.set 3 (.own (tb (swp T x p)))) tp := by
        have z := x_swp (tp := tp) (Γ := ⟨callC es gl fuel k, gl⟩) (fu := fuel) (i := 3) (k1 := .var 4) (k2 := .ix (.var 5) (.lit (.int 0))) (e1 := .ix (.var 3) (.ix (.var 5) (.lit (.int 0)))) (e2 := .ix (.var 3) (.var 4)) (env := env0) (ds := tb T) (x := .list (qs (rw_ T p))) (y := .list (qs (rw_ T x))) (a := (x : Int)) (b := (p : Int)) (j := x) (l := p) rfl
          (by simp only [env0, ix0, a2, xs_nil, xs_cons, x_set, x_setL, x_par, x_unp, x_app, x_ext, x_sub, x_aug, x_ret, x_ife, x_ex, x_cont, x_brk, x_pass, x_frz, x_for, v_var, v_lit, v_glo, v_bin, v_neg, v_cmp, v_chain, v_not, v_and, v_or, v_ite, v_call, v_blt, v_ix, v_slc, v_lst, v_tup, v_lc, v_rev, es_nil', es_cons', ea_nil, ea_cons, argB, thn_nx, thn_rt, thn_ct, thn_br, bind_ok, so_ok, opt_some, bT_nm, bT_tp, bTs_nil, bTs_cons, getB_0, getB_s, fi_v, fi_r, fi_t, Q.M.isR, Q.M.op, Q.IK.md, im_seq, im_rng1, im_rng2, im_enum, im_zip, im_rng3, im_items, seq1_sq, zipD_eq, enumD_eq, seqOf_sq, seqOf_l, seqOf_t, seq1_l, seq1_t, len_sq, ix_sq, rev_sq, Option.map_some, Option.bind_some, List.set_cons_zero, List.set_cons_succ, List.map_cons, List.map_nil, unown, List.any_cons, List.any_nil, isOwn, Bool.or_false, Bool.or_true, Bool.false_and, Bool.true_and, Bool.and_false, Bool.and_true, finO, List.length_cons, List.length_nil, List.replicate, List.cons_append, List.nil_append, Nat.reduceSub, Nat.reduceAdd, Nat.sub_self, wipeB, Bool.not_true, Bool.not_false, Option.getD_some, cmpD, ltD, eqD_int, tru_bool, noLst_fq, tru_none, noLst, tup_l, tup_t, tup_sq, list_sq, len_l, len_t, grd_true, bin_addI, bin_subI, ix_l, ix_t, big1, big2]) (by simp only [env0, a1, xs_nil, xs_cons, x_set, x_setL, x_par, x_unp, x_app, x_ext, x_sub, x_aug, x_ret, x_ife, x_ex, x_cont, x_brk, x_pass, x_frz, x_for, v_var, v_lit, v_glo, v_bin, v_neg, v_cmp, v_chain, v_not, v_and, v_or, v_ite, v_call, v_blt, v_ix, v_slc, v_lst, v_tup, v_lc, v_rev, es_nil', es_cons', ea_nil, ea_cons, argB, thn_nx, thn_rt, thn_ct, thn_br, bind_ok, so_ok, opt_some, bT_nm, bT_tp, bTs_nil, bTs_cons, getB_0, getB_s, fi_v, fi_r, fi_t, Q.M.isR, Q.M.op, Q.IK.md, im_seq, im_rng1, im_rng2, im_enum, im_zip, im_rng3, im_items, seq1_sq, zipD_eq, enumD_eq, seqOf_sq, seqOf_l, seqOf_t, seq1_l, seq1_t, len_sq, ix_sq, rev_sq, Option.map_some, Option.bind_some, List.set_cons_zero, List.set_cons_succ, List.map_cons, List.map_nil, unown, List.any_cons, List.any_nil, isOwn, Bool.or_false, Bool.or_true, Bool.false_and, Bool.true_and, Bool.and_false, Bool.and_true, finO, List.length_cons, List.length_nil, List.replicate, List.cons_append, List.nil_append, Nat.reduceSub, Nat.reduceAdd, Nat.sub_self, wipeB, Bool.not_true, Bool.not_false, Option.getD_some, cmpD, ltD, eqD_int, tru_bool, noLst_fq, tru_none, noLst, tup_l, tup_t, tup_sq, list_sq, len_l, len_t, grd_true, bin_addI, bin_subI, ix_l, ix_t, big1, big2]) (by simp only [env0, xs_nil, xs_cons, x_set, x_setL, x_par, x_unp, x_app, x_ext, x_sub, x_aug, x_ret, x_ife, x_ex, x_cont, x_brk, x_pass, x_frz, x_for, v_var, v_lit, v_glo, v_bin, v_neg, v_cmp, v_chain, v_not, v_and, v_or, v_ite, v_call, v_blt, v_ix, v_slc, v_lst, v_tup, v_lc, v_rev, es_nil', es_cons', ea_nil, ea_cons, argB, thn_nx, thn_rt, thn_ct, thn_br, bind_ok, so_ok, opt_some, bT_nm, bT_tp, bTs_nil, bTs_cons, getB_0, getB_s, fi_v, fi_r, fi_t, Q.M.isR, Q.M.op, Q.IK.md, im_seq, im_rng1, im_rng2, im_enum, im_zip, im_rng3, im_items, seq1_sq, zipD_eq, enumD_eq, seqOf_sq, seqOf_l, seqOf_t, seq1_l, seq1_t, len_sq, ix_sq, rev_sq, Option.map_some, Option.bind_some, List.set_cons_zero, List.set_cons_succ, List.map_cons, List.map_nil, unown, List.any_cons, List.any_nil, isOwn, Bool.or_false, Bool.or_true, Bool.false_and, Bool.true_and, Bool.and_false, Bool.and_true, finO, List.length_cons, List.length_nil, List.replicate, List.cons_append, List.nil_append, Nat.reduceSub, Nat.reduceAdd, Nat.sub_self, wipeB, Bool.not_true, Bool.not_false, Option.getD_some, cmpD, ltD, eqD_int, tru_bool, noLst_fq, tru_none, noLst, tup_l, tup_t, tup_sq, list_sq, len_l, len_t, grd_true, bin_addI, bin_subI, ix_l, ix_t, big1, big2]) (ixN_lt (by rw [tb_len]; omega)) (by simp only [env0, ix0, xs_nil, xs_cons, x_set, x_setL, x_par, x_unp, x_app, x_ext, x_sub, x_aug, x_ret, x_ife, x_ex, x_cont, x_brk, x_pass, x_frz, x_for, v_var, v_lit, v_glo, v_bin, v_neg, v_cmp, v_chain, v_not, v_and, v_or, v_ite, v_call, v_blt, v_ix, v_slc, v_lst, v_tup, v_lc, v_rev, es_nil', es_cons', ea_nil, ea_cons, argB, thn_nx, thn_rt, thn_ct, thn_br, bind_ok, so_ok, opt_some, bT_nm, bT_tp, bTs_nil, bTs_cons, getB_0, getB_s, fi_v, fi_r, fi_t, Q.M.isR, Q.M.op, Q.IK.md, im_seq, im_rng1, im_rng2, im_enum, im_zip, im_rng3, im_items, seq1_sq, zipD_eq, enumD_eq, seqOf_sq, seqOf_l, seqOf_t, seq1_l, seq1_t, len_sq, ix_sq, rev_sq, Option.map_some, Option.bind_some, List.set_cons_zero, List.set_cons_succ, List.map_cons, List.map_nil, unown, List.any_cons, List.any_nil, isOwn, Bool.or_false, Bool.or_true, Bool.false_and, Bool.true_and, Bool.and_false, Bool.and_true, finO, List.length_cons, List.length_nil, List.replicate, List.cons_append, List.nil_append, Nat.reduceSub, Nat.reduceAdd, Nat.sub_self, wipeB, Bool.not_true, Bool.not_false, Option.getD_some, cmpD, ltD, eqD_int, tru_bool, noLst_fq, tru_none, noLst, tup_l, tup_t, tup_sq, list_sq, len_l, len_t, grd_true, bin_addI, bin_subI, ix_l, ix_t, big1, big2]) (ixN_lt (by rw [tb_len]; omega))
        rw [z, set_tb, set_tb]
        rfl
      have b1 := atI_tb (T := swp T x p) (j := x) psB
      have b2' := atI_row (r := rw_ (swp T x p) x) (k := x) (by rw [pr.2.1]; omega)
      have b3' : (((rw_ (swp T x p) x)[x]?).getD 0) = en (swp T x p) x x := rfl
      have c5 := lc_run (tp := tp) (f := kl_solved_3 jo ⟨callC es gl fuel k, gl⟩ [.val (sq b (rows.map fun r => sq b2 (qs r))), .val (sq b3 (qs aims)), .val (.int (n : Nat)), .own (tb (swp T x p)), .val (.int (x : Nat)), .val (.list (PyData.int (p : Nat) :: ps.map fun j : Nat => PyData.int (j : Int))), j2, j3, j4, .un, j6, j7]) (e := fq) (g := fun a => fq (a / en (swp T x p) x x)) (xs := rw_ (swp T x p) x) (acc := []) (fun a ha => by
        have q1 := ho k tp a (en (swp T x p) x x) (by omega) ((pr.2.2 a ha).sm (by omega)) ((s1.ent hc (by omega)).sm (by omega)) piv
        simp only [lcf, ec_nil, Out.nox, b1, b2', b3', q1, xs_nil, xs_cons, x_set, x_setL, x_par, x_unp, x_app, x_ext, x_sub, x_aug, x_ret, x_ife, x_ex, x_cont, x_brk, x_pass, x_frz, x_for, v_var, v_lit, v_glo, v_bin, v_neg, v_cmp, v_chain, v_not, v_and, v_or, v_ite, v_call, v_blt, v_ix, v_slc, v_lst, v_tup, v_lc, v_rev, es_nil', es_cons', ea_nil, ea_cons, argB, thn_nx, thn_rt, thn_ct, thn_br, bind_ok, so_ok, opt_some, bT_nm, bT_tp, bTs_nil, bTs_cons, getB_0, getB_s, fi_v, fi_r, fi_t, Q.M.isR, Q.M.op, Q.IK.md, im_seq, im_rng1, im_rng2, im_enum, im_zip, im_rng3, im_items, seq1_sq, zipD_eq, enumD_eq, seqOf_sq, seqOf_l, seqOf_t, seq1_l, seq1_t, len_sq, ix_sq, rev_sq, Option.map_some, Option.bind_some, List.set_cons_zero, List.set_cons_succ, List.map_cons, List.map_nil, unown, List.any_cons, List.any_nil, isOwn, Bool.or_false, Bool.or_true, Bool.false_and, Bool.true_and, Bool.and_false, Bool.and_true, finO, List.length_cons, List.length_nil, List.replicate, List.cons_append, List.nil_append, Nat.reduceSub, Nat.reduceAdd, Nat.sub_self, wipeB, Bool.not_true, Bool.not_false, Option.getD_some, cmpD, ltD, eqD_int, tru_bool, noLst_fq, tru_none, noLst, tup_l, tup_t, tup_sq, list_sq, len_l, len_t, grd_true, bin_addI, bin_subI, ix_l, ix_t, big1, big2])
      have e5 : (rw_ (swp T x p) x).map (fun a => fq (a / en (swp T x p) x x)) = qs ((rw_ (swp T x p) x).map fun a => a / en (swp T x p) x x) := by
        show _ = List.map fq (List.map _ _)
        rw [List.map_map]
        rfl
      rw [e5, List.nil_append] at c5
      have e6 : big (rw_ (swp T x p) x).length = true := Nat.ble_eq_true_of_le (by rw [pr.2.1]; omega)
      have e7 : ixN (swp T x p).length (x : Int) = some x := ixN_lt psB
      have e8 : (tb (swp T x p)).set x (.list (qs ((rw_ (swp T x p) x).map fun a => a / en (swp T x p) x x))) = tb (scl (swp T x p) x) := set_tb
      obtain ⟨f1, J', f2⟩ := solved_in (tp := tp) (k := k) (n := n) (d := d') (m := m') (c := x) (T := scl (swp T x p) x) hm ht G (by omega) hn hc (s2.mono (by omega) (by omega)) (fun j hj hjx q hq' => by
          rw [row2' j hjx] at hq'
          exact (s1.rwk hj).2.2 q hq') (fun q hq' => by
          rw [row2] at hq'
          obtain ⟨a, ha, rfl⟩ := List.mem_map.mp hq'
          exact (pr.2.2 a ha).over (s1.ent hc (by omega)) piv) hB (.val (sq b (rows.map fun r => sq b2 (qs r)))) (.val (sq b3 (qs aims))) (.val (.list (PyData.int (p : Nat) :: ps.map fun j : Nat => PyData.int (j : Int)))) j3 j4 j5 (j2, j6, j7)
      refine ⟨f1, (.val (.int (x : Nat)), .val (.list (PyData.int (p : Nat) :: ps.map fun j : Nat => PyData.int (j : Int))), J'.1, j3, j4, j5, J'.2.1, J'.2.2), ?_⟩
      have tl2 : truD (.list (PyData.int (p : Nat) :: ps.map fun j : Nat => PyData.int (j : Int))) = some true := rfl
      simp only [env0] at w1
      simp only [forF, rng2_nat (show x ≤ 1000 by omega) (show n ≤ 1000 by omega), List.length_map, e1, c4, tl2, w1, b1, b2', b3', c5, e6, e7, tb_len, e8, f2, rng1_nat (show n ≤ 1000 by omega), xs_nil, xs_cons, x_set, x_setL, x_par, x_unp, x_app, x_ext, x_sub, x_aug, x_ret, x_ife, x_ex, x_cont, x_brk, x_pass, x_frz, x_for, v_var, v_lit, v_glo, v_bin, v_neg, v_cmp, v_chain, v_not, v_and, v_or, v_ite, v_call, v_blt, v_ix, v_slc, v_lst, v_tup, v_lc, v_rev, es_nil', es_cons', ea_nil, ea_cons, argB, thn_nx, thn_rt, thn_ct, thn_br, bind_ok, so_ok, opt_some, bT_nm, bT_tp, bTs_nil, bTs_cons, getB_0, getB_s, fi_v, fi_r, fi_t, Q.M.isR, Q.M.op, Q.IK.md, im_seq, im_rng1, im_rng2, im_enum, im_zip, im_rng3, im_items, seq1_sq, zipD_eq, enumD_eq, seqOf_sq, seqOf_l, seqOf_t, seq1_l, seq1_t, len_sq, ix_sq, rev_sq, Option.map_some, Option.bind_some, List.set_cons_zero, List.set_cons_succ, List.map_cons, List.map_nil, unown, List.any_cons, List.any_nil, isOwn, Bool.or_false, Bool.or_true, Bool.false_and, Bool.true_and, Bool.and_false, Bool.and_true, finO, List.length_cons, List.length_nil, List.replicate, List.cons_append, List.nil_append, Nat.reduceSub, Nat.reduceAdd, Nat.sub_self, wipeB, Bool.not_true, Bool.not_false, Option.getD_some, cmpD, ltD, eqD_int, tru_bool, noLst_fq, tru_none, noLst, tup_l, tup_t, tup_sq, list_sq, len_l, len_t, grd_true, bin_addI, bin_subI, ix_l, ix_t, big1, big2]
end
end Q

set_option Elab.async false
set_option linter.all false
set_option maxRecDepth 100000
set_option exponentiation.threshold 4000
/-! determinant: what its code computes -/
namespace Q
open PySem PySem.Spec L2
open PyProof.Rows hiding St
def elD (k : Nat) (T : List (List Rat)) (j : Nat) : List (List Rat) := T.set j ((rw_ T j).zipWith (fun a b => a - (en T j k / en T k k) * b) (rw_ T k))
def dsw (T : List (List Rat)) (k p : Nat) : List (List Rat) := if p = k then T else swp T k p
def dst (n : Nat) (s : List (List Rat) × Rat) (k : Nat) : Option (List (List Rat) × Rat) := match plc n s.1 k with
  | [] => none
  | p :: _ => some ((List.range' (k + 1) (n - (k + 1))).foldl (elD k) (dsw s.1 k p), (if p = k then s.2 else 0 - s.2) * en (dsw s.1 k p) k k)
def detR (rows : List (List Rat)) : Rat := match (List.range rows.length).foldlM (dst rows.length) (rows, 1) with
  | some s => s.2
  | none => 0
/-- how large: the table's entries, the product so far -/
def bd (s : Nat × Nat) : Nat → (Nat × Nat) × (Nat × Nat)
  | 0 => (s, (1, 0))
  | k + 1 => ((4 * (bd s k).1.1 + (bd s k).1.2, 2 * (bd s k).1.2 + (bd s k).1.1 + 1), ((bd s k).2.1 + 1 + (bd s k).1.1, (bd s k).2.2 + 1 + (bd s k).1.2))
section
variable (es : List Ent) (gl : Str → Option D) (fuel : Nat)
def DetOk (i k0 : Nat) : Prop := ∀ k tp b b2 rows d m, k0 ≤ k → rows.length ≤ 40 → (∀ r ∈ rows, r.length = rows.length ∧ ∀ q ∈ r, Bq d m q) →
  (∀ k, k < rows.length → 5 * (bd (d, m) k).1.1 + 3 * (bd (d, m) k).1.2 + 1 ≤ 998 ∧ (bd (d, m) k).2.1 + (bd (d, m) k).2.2 + 2 ≤ 998 ∧ (bd (d, m) (k + 1)).2.1 + (bd (d, m) (k + 1)).2.2 + 2 ≤ 998) →
  callC es gl fuel k i [.val (sq b (rows.map fun r => sq b2 (qs r)))] tp = .ok (fq (detR rows)) tp
end
section
variable {es : List Ent} {gl : Str → Option D} {fuel : Nat} {i k0 : Nat}
abbrev kl_determinant_0  (Γ : Sm) (env : QE) : D → Tp → Out (Option D) := lcf Γ (.nm 6) .nil (.blt .list (.cons (.var 6) .nil)) env
abbrev kl_determinant_1 (i_minus : Nat) (i_over : Nat) (i_times : Nat) (Γ : Sm) (n : Nat) : D → QE → Tp → SO := forF Γ n (.nm 3) (.cons (.set 4 (.lc (.var 5) (.nm 5) .rng2 (.cons (.var 3) (.cons (.blt .len (.cons (.var 1) .nil)) .nil)) (.cons (.cmp .ne (.ix (.ix (.var 1) (.var 5)) (.var 3)) (.glo "ZERO")) .nil) [5])) (.cons (.ife (.not (.var 4)) (.cons (.ret (.glo "ZERO")) .nil) .nil) (.cons (.ife (.cmp .ne (.ix (.var 4) (.lit (.int 0))) (.var 3)) (.cons (.swp 1 (.var 3) (.ix (.var 4) (.lit (.int 0))) (.ix (.var 1) (.ix (.var 4) (.lit (.int 0)))) (.ix (.var 1) (.var 3))) (.cons (.set 2 (.call i_minus (.cons (.glo "ZERO") (.cons (.var 2) .nil)))) .nil)) .nil) (.cons (.set 2 (.call i_times (.cons (.var 2) (.cons (.ix (.ix (.var 1) (.var 3)) (.var 3)) .nil)))) (.cons (.for_ (.nm 5) .rng2 (.cons (.bin .add (.var 3) (.lit (.int 1))) (.cons (.blt .len (.cons (.var 1) .nil)) .nil)) (.cons (.set 7 (.call i_over (.cons (.ix (.ix (.var 1) (.var 5)) (.var 3)) (.cons (.ix (.ix (.var 1) (.var 3)) (.var 3)) .nil)))) (.cons (.sub 1 (.var 5) (.lc (.call i_minus (.cons (.var 8) (.cons (.call i_times (.cons (.var 7) (.cons (.var 9) .nil))) .nil))) (.tp (.cons (.nm 8) (.cons (.nm 9) .nil))) .zip (.cons (.ix (.var 1) (.var 5)) (.cons (.ix (.var 1) (.var 3)) .nil)) .nil [8, 9])) .nil))) .nil)))))
abbrev kl_determinant_2  (Γ : Sm) (env : QE) : D → Tp → Out (Option D) := lcf Γ (.nm 5) (.cons (.cmp .ne (.ix (.ix (.var 1) (.var 5)) (.var 3)) (.glo "ZERO")) .nil) (.var 5) env
abbrev kl_determinant_3 (i_minus : Nat) (i_over : Nat) (i_times : Nat) (Γ : Sm) (n : Nat) : D → QE → Tp → SO := forF Γ n (.nm 5) (.cons (.set 7 (.call i_over (.cons (.ix (.ix (.var 1) (.var 5)) (.var 3)) (.cons (.ix (.ix (.var 1) (.var 3)) (.var 3)) .nil)))) (.cons (.sub 1 (.var 5) (.lc (.call i_minus (.cons (.var 8) (.cons (.call i_times (.cons (.var 7) (.cons (.var 9) .nil))) .nil))) (.tp (.cons (.nm 8) (.cons (.nm 9) .nil))) .zip (.cons (.ix (.var 1) (.var 5)) (.cons (.ix (.var 1) (.var 3)) .nil)) .nil [8, 9])) .nil))
abbrev kl_determinant_4 (i_minus : Nat) (i_times : Nat) (Γ : Sm) (env : QE) : D → Tp → Out (Option D) := lcf Γ (.tp (.cons (.nm 8) (.cons (.nm 9) .nil))) .nil (.call i_minus (.cons (.var 8) (.cons (.call i_times (.cons (.var 7) (.cons (.var 9) .nil))) .nil))) env
def k_determinant (i_minus : Nat) (i_over : Nat) (i_times : Nat) : Df := ⟨["rows"], ["rows", "table", "found", "k", "places", "j", "row", "factor", "a", "b"], (.cons (.setL 1 (.lc (.blt .list (.cons (.var 6) .nil)) (.nm 6) .seq (.cons (.var 0) .nil) .nil [6])) (.cons (.set 2 (.glo "ONE")) (.cons (.for_ (.nm 3) .rng1 (.cons (.blt .len (.cons (.var 1) .nil)) .nil) (.cons (.set 4 (.lc (.var 5) (.nm 5) .rng2 (.cons (.var 3) (.cons (.blt .len (.cons (.var 1) .nil)) .nil)) (.cons (.cmp .ne (.ix (.ix (.var 1) (.var 5)) (.var 3)) (.glo "ZERO")) .nil) [5])) (.cons (.ife (.not (.var 4)) (.cons (.ret (.glo "ZERO")) .nil) .nil) (.cons (.ife (.cmp .ne (.ix (.var 4) (.lit (.int 0))) (.var 3)) (.cons (.swp 1 (.var 3) (.ix (.var 4) (.lit (.int 0))) (.ix (.var 1) (.ix (.var 4) (.lit (.int 0)))) (.ix (.var 1) (.var 3))) (.cons (.set 2 (.call i_minus (.cons (.glo "ZERO") (.cons (.var 2) .nil)))) .nil)) .nil) (.cons (.set 2 (.call i_times (.cons (.var 2) (.cons (.ix (.ix (.var 1) (.var 3)) (.var 3)) .nil)))) (.cons (.for_ (.nm 5) .rng2 (.cons (.bin .add (.var 3) (.lit (.int 1))) (.cons (.blt .len (.cons (.var 1) .nil)) .nil)) (.cons (.set 7 (.call i_over (.cons (.ix (.ix (.var 1) (.var 5)) (.var 3)) (.cons (.ix (.ix (.var 1) (.var 3)) (.var 3)) .nil)))) (.cons (.sub 1 (.var 5) (.lc (.call i_minus (.cons (.var 8) (.cons (.call i_times (.cons (.var 7) (.cons (.var 9) .nil))) .nil))) (.tp (.cons (.nm 8) (.cons (.nm 9) .nil))) .zip (.cons (.ix (.var 1) (.var 5)) (.cons (.ix (.var 1) (.var 3)) .nil)) .nil [8, 9])) .nil))) .nil)))))) (.cons (.ret (.var 2)) .nil))))⟩
theorem det_in {jm jo jt k : Nat} (hm : MinusOk es gl fuel jm k0) (ho : OverOk es gl fuel jo k0) (ht : TimesOk es gl fuel jt k0) (hk : k0 ≤ k) {tp : Tp} {n d m c : Nat} {T : List (List Rat)} (hn : n ≤ 40) (hc : c < n) (hs : TOk n n d m T) (h0 : en T c c ≠ 0) (hb : 5 * d + 3 * m + 1 ≤ 998) (v0 v2 v4 v6 : B) (J : B × B × B × B) :
    TOk n n (4 * d + m) (2 * m + d + 1) ((List.range' (c + 1) (n - (c + 1))).foldl (elD c) T) ∧ ∃ J' : B × B × B × B, forGo (kl_determinant_3 jm jo jt ⟨callC es gl fuel k, gl⟩ fuel) ((List.range' (c + 1) (n - (c + 1))).map fun j : Nat => PyData.int (j : Int)) [v0, .own (tb T), v2, .val (.int (c : Nat)), v4, J.1, v6, J.2.1, J.2.2.1, J.2.2.2] tp
      = .nx [v0, .own (tb ((List.range' (c + 1) (n - (c + 1))).foldl (elD c) T)), v2, .val (.int (c : Nat)), v4, J'.1, v6, J'.2.1, J'.2.2.1, J'.2.2.2] tp := by
  have key := for_ix (tp := tp) (f := kl_determinant_3 jm jo jt ⟨callC es gl fuel k, gl⟩ fuel) (e := fun j : Nat => PyData.int (j : Int)) (step := fun T j => some (elD c T j))
    (Ok := fun i T' => TOk n n (4 * d + m) (2 * m + d + 1) T' ∧ (∀ j, j ≤ c → rw_ T' j = rw_ T j) ∧ ∀ j, c + 1 + i ≤ j → j < n → rw_ T' j = rw_ T j) (I := fun T' (J : B × B × B × B) => [v0, .own (tb T'), v2, .val (.int (c : Nat)), v4, J.1, v6, J.2.1, J.2.2.1, J.2.2.2]) (d0 := .none) (L := List.range' (c + 1) (n - (c + 1)))
    (fun i T' J x hx ok => ?_) (List.range' (c + 1) (n - (c + 1))) [] T J rfl ⟨hs.mono (by omega) (by omega), fun _ _ => rfl, fun _ _ _ => rfl⟩
  · rw [foldlM_some] at key
    obtain ⟨h1, J', h2⟩ := key
    exact ⟨h1.1, J', h2⟩
  · rw [List.getElem?_eq_some_iff] at hx
    obtain ⟨hl, hx⟩ := hx
    rw [List.getElem_range', List.length_range'] at *
    obtain ⟨t1, t2, t3⟩ := ok
    have hxn : x < n := by omega
    have hxc : x ≠ c := by omega
    have l1 := t1.len
    have rx := t1.rwk hxn
    have rc := t1.rwk hc
    have a1 := atI_tb (T := T') (j := x) (by omega)
    have a2 := atI_row (r := rw_ T' x) (k := c) (by rw [rx.2.1]; omega)
    have a3 := atI_tb (T := T') (j := c) (by omega)
    have a4 := atI_row (r := rw_ T' c) (k := c) (by rw [rc.2.1]; omega)
    have en1 : (((rw_ T' x)[c]?).getD 0) = en T' x c := rfl
    have en2 : (((rw_ T' c)[c]?).getD 0) = en T' c c := rfl
    have hrow : rw_ T' x = rw_ T x := t3 x (by omega) hxn
    have hrc : rw_ T' c = rw_ T c := t2 c (Nat.le_refl _)
    have hcc : en T' c c = en T c c := by show (((rw_ T' c)[c]?).getD 0) = _; rw [hrc]; rfl
    have hxc' : en T' x c = en T x c := by show (((rw_ T' x)[c]?).getD 0) = _; rw [hrow]; rfl
    have hx0 : ∀ q ∈ rw_ T' x, Bq d m q := by rw [hrow]; exact (hs.rwk hxn).2.2
    have hc0 : ∀ q ∈ rw_ T' c, Bq d m q := by rw [hrc]; exact (hs.rwk hc).2.2
    have hp0 : en T' c c ≠ 0 := by rw [hcc]; exact h0
    have hp : Bq d m (en T' c c) := by rw [hcc]; exact hs.ent hc hc
    have hx1 : Bq d m (en T' x c) := by rw [hxc']; exact hs.ent hxn hc
    have hf := hx1.over hp hp0
    have z1 : ∀ p ∈ (rw_ T' x).zip (rw_ T' c), Bq (4 * d + m) (2 * m + d + 1) (p.1 - (en T' x c / en T' c c) * p.2) := fun p hp => by
      have hmz := List.of_mem_zip hp
      have q1 := hf.mul (hc0 _ hmz.2)
      have q2 := (hx0 _ hmz.1).sub q1
      exact q2.mono (by omega) (by omega)
    have lz : ((rw_ T' x).zip (rw_ T' c)).length = n := by rw [List.length_zip, rx.2.1, rc.2.1]; omega
    refine ⟨⟨t1.setk (by rw [List.length_zipWith, rx.2.1, rc.2.1]; omega) (fun q hq => ?_), fun j hj => by unfold elD; rw [rw_set (by omega)]; exact t2 j hj, fun j hj hjn => by unfold elD; rw [rw_set (by omega)]; exact t3 j (by omega) hjn⟩, (.val (.int (x : Nat)), .val (fq (en T' x c / en T' c c)), J.2.2), ?_⟩
    · rw [← zipWith_zip] at hq
      obtain ⟨p, hp, rfl⟩ := List.mem_map.mp hq
      exact z1 p hp
    · have f0 := ho k tp (en T' x c) (en T' c c) hk (hx1.sm (by omega)) (hp.sm (by omega)) hp0
      have e4 := lc_run (tp := tp) (f := kl_determinant_4 jm jt ⟨callC es gl fuel k, gl⟩ [v0, .own (tb T'), v2, .val (.int (c : Nat)), v4, .val (.int (x : Nat)), v6, .val (fq (en T' x c / en T' c c)), .un, .un]) (e := fun p : Rat × Rat => .tuple [fq p.1, fq p.2]) (g := fun p => fq (p.1 - (en T' x c / en T' c c) * p.2)) (xs := (rw_ T' x).zip (rw_ T' c)) (acc := []) (fun p hpz => by
        have hmz := List.of_mem_zip hpz
        have q1 := hf.mul (hc0 _ hmz.2)
        have f1 := ht k tp (en T' x c / en T' c c) p.2 hk (hf.sm (by omega)) ((hc0 _ hmz.2).sm (by omega)) trivial
        have f2 := hm k tp p.1 _ hk ((hx0 _ hmz.1).sm (by omega)) (q1.sm (by omega)) trivial
        simp only [lcf, ec_nil, Out.nox, f1, f2, xs_nil, xs_cons, x_set, x_setL, x_par, x_unp, x_app, x_ext, x_sub, x_aug, x_ret, x_ife, x_ex, x_cont, x_brk, x_pass, x_frz, x_for, v_var, v_lit, v_glo, v_bin, v_neg, v_cmp, v_chain, v_not, v_and, v_or, v_ite, v_call, v_blt, v_ix, v_slc, v_lst, v_tup, v_lc, v_rev, es_nil', es_cons', ea_nil, ea_cons, argB, thn_nx, thn_rt, thn_ct, thn_br, bind_ok, so_ok, opt_some, bT_nm, bT_tp, bTs_nil, bTs_cons, getB_0, getB_s, fi_v, fi_r, fi_t, Q.M.isR, Q.M.op, Q.IK.md, im_seq, im_rng1, im_rng2, im_enum, im_zip, im_rng3, im_items, seq1_sq, zipD_eq, enumD_eq, seqOf_sq, seqOf_l, seqOf_t, seq1_l, seq1_t, len_sq, ix_sq, rev_sq, Option.map_some, Option.bind_some, List.set_cons_zero, List.set_cons_succ, List.map_cons, List.map_nil, unown, List.any_cons, List.any_nil, isOwn, Bool.or_false, Bool.or_true, Bool.false_and, Bool.true_and, Bool.and_false, Bool.and_true, finO, List.length_cons, List.length_nil, List.replicate, List.cons_append, List.nil_append, Nat.reduceSub, Nat.reduceAdd, Nat.sub_self, wipeB, Bool.not_true, Bool.not_false, Option.getD_some, cmpD, ltD, eqD_int, tru_bool, noLst_fq, tru_none, noLst, tup_l, tup_t, tup_sq, list_sq, len_l, len_t, grd_true, bin_addI, bin_subI, ix_l, ix_t, big1, big2])
      have e5 : ((rw_ T' x).zip (rw_ T' c)).map (fun p => fq (p.1 - (en T' x c / en T' c c) * p.2)) = qs ((rw_ T' x).zipWith (fun a b => a - (en T' x c / en T' c c) * b) (rw_ T' c)) := by
        rw [← zipWith_zip, qs, List.map_map]
        rfl
      rw [e5, List.nil_append] at e4
      have e6 : big ((rw_ T' x).zip (rw_ T' c)).length = true := Nat.ble_eq_true_of_le (by omega)
      have e7 : ixN T'.length (x : Int) = some x := ixN_lt (by omega)
      simp only [forF, a1, a2, a3, a4, en1, en2, f0, e4, e7, zipGo_map, List.length_map, tb_len, e6, set_tb, xs_nil, xs_cons, x_set, x_setL, x_par, x_unp, x_app, x_ext, x_sub, x_aug, x_ret, x_ife, x_ex, x_cont, x_brk, x_pass, x_frz, x_for, v_var, v_lit, v_glo, v_bin, v_neg, v_cmp, v_chain, v_not, v_and, v_or, v_ite, v_call, v_blt, v_ix, v_slc, v_lst, v_tup, v_lc, v_rev, es_nil', es_cons', ea_nil, ea_cons, argB, thn_nx, thn_rt, thn_ct, thn_br, bind_ok, so_ok, opt_some, bT_nm, bT_tp, bTs_nil, bTs_cons, getB_0, getB_s, fi_v, fi_r, fi_t, Q.M.isR, Q.M.op, Q.IK.md, im_seq, im_rng1, im_rng2, im_enum, im_zip, im_rng3, im_items, seq1_sq, zipD_eq, enumD_eq, seqOf_sq, seqOf_l, seqOf_t, seq1_l, seq1_t, len_sq, ix_sq, rev_sq, Option.map_some, Option.bind_some, List.set_cons_zero, List.set_cons_succ, List.map_cons, List.map_nil, unown, List.any_cons, List.any_nil, isOwn, Bool.or_false, Bool.or_true, Bool.false_and, Bool.true_and, Bool.and_false, Bool.and_true, finO, List.length_cons, List.length_nil, List.replicate, List.cons_append, List.nil_append, Nat.reduceSub, Nat.reduceAdd, Nat.sub_self, wipeB, Bool.not_true, Bool.not_false, Option.getD_some, cmpD, ltD, eqD_int, tru_bool, noLst_fq, tru_none, noLst, tup_l, tup_t, tup_sq, list_sq, len_l, len_t, grd_true, bin_addI, bin_subI, ix_l, ix_t, big1, big2]
      rfl
theorem determinant_ok {jm jo jt : Nat} (h : es[i]? = some (.code (k_determinant jm jo jt))) (G : GlOk gl) (hm : MinusOk es gl fuel jm k0) (ho : OverOk es gl fuel jo k0) (ht : TimesOk es gl fuel jt k0) : DetOk es gl fuel i (k0 + 1) := by
  intro k tp b b2 rows d m hk hn hr hb
  obtain ⟨k, rfl⟩ : ∃ j, k = j + 1 := ⟨k - 1, by omega⟩
  rw [call_code h rfl]
  generalize hN : rows.length = n at *
  have c1 := lc_run (tp := tp) (f := kl_determinant_0 ⟨callC es gl fuel k, gl⟩ [.val (sq b (rows.map fun r => sq b2 (qs r))), .un, .un, .un, .un, .un, .un, .un, .un, .un]) (e := fun r : List Rat => sq b2 (qs r)) (g := fun r => .list (qs r)) (xs := rows) (acc := []) (fun r hr' => by
    simp only [lcf, ec_nil, Out.nox, xs_nil, xs_cons, x_set, x_setL, x_par, x_unp, x_app, x_ext, x_sub, x_aug, x_ret, x_ife, x_ex, x_cont, x_brk, x_pass, x_frz, x_for, v_var, v_lit, v_glo, v_bin, v_neg, v_cmp, v_chain, v_not, v_and, v_or, v_ite, v_call, v_blt, v_ix, v_slc, v_lst, v_tup, v_lc, v_rev, es_nil', es_cons', ea_nil, ea_cons, argB, thn_nx, thn_rt, thn_ct, thn_br, bind_ok, so_ok, opt_some, bT_nm, bT_tp, bTs_nil, bTs_cons, getB_0, getB_s, fi_v, fi_r, fi_t, Q.M.isR, Q.M.op, Q.IK.md, im_seq, im_rng1, im_rng2, im_enum, im_zip, im_rng3, im_items, seq1_sq, zipD_eq, enumD_eq, seqOf_sq, seqOf_l, seqOf_t, seq1_l, seq1_t, len_sq, ix_sq, rev_sq, Option.map_some, Option.bind_some, List.set_cons_zero, List.set_cons_succ, List.map_cons, List.map_nil, unown, List.any_cons, List.any_nil, isOwn, Bool.or_false, Bool.or_true, Bool.false_and, Bool.true_and, Bool.and_false, Bool.and_true, finO, List.length_cons, List.length_nil, List.replicate, List.cons_append, List.nil_append, Nat.reduceSub, Nat.reduceAdd, Nat.sub_self, wipeB, Bool.not_true, Bool.not_false, Option.getD_some, cmpD, ltD, eqD_int, tru_bool, noLst_fq, tru_none, noLst, tup_l, tup_t, tup_sq, list_sq, len_l, len_t, grd_true, bin_addI, bin_subI, ix_l, ix_t, big1, big2])
  rw [List.nil_append, show rows.map (fun r => PyData.list (qs r)) = tb rows from rfl] at c1
  have t0 : TOk n n d m rows := ⟨hN, hr⟩
  have key := for_ix (tp := tp) (f := kl_determinant_1 jm jo jt ⟨callC es gl fuel k, gl⟩ fuel) (e := fun j : Nat => PyData.int (j : Int)) (step := dst n) (Ok := fun i s => i ≤ n → TOk n n (bd (d, m) i).1.1 (bd (d, m) i).1.2 s.1 ∧ Bq (bd (d, m) i).2.1 (bd (d, m) i).2.2 s.2)
    (I := fun s (J : B × B × B × B × B × B × B) => [.val (sq b (rows.map fun r => sq b2 (qs r))), .own (tb s.1), .val (fq s.2), J.1, J.2.1, J.2.2.1, J.2.2.2.1, J.2.2.2.2.1, J.2.2.2.2.2.1, J.2.2.2.2.2.2]) (d0 := fq 0) (L := List.range n)
    (fun c s J x hx ok => ?_) (List.range n) [] (rows, 1) (.un, .un, .un, .un, .un, .un, .un) rfl (fun _ => ⟨t0, Bq.one⟩)
  · have hbn : big rows.length = true := Nat.ble_eq_true_of_le (by omega)
    rw [hN] at hbn
    unfold detR
    rw [hN]
    cases hf : (List.range n).foldlM (dst n) (rows, 1) with
    | none =>
      rw [hf] at key
      dsimp only at key
      simp only [k_determinant, List.length_map, hN, hbn, c1, G.one, tb_len, rng1_nat (show n ≤ 1000 by omega), key, xs_nil, xs_cons, x_set, x_setL, x_par, x_unp, x_app, x_ext, x_sub, x_aug, x_ret, x_ife, x_ex, x_cont, x_brk, x_pass, x_frz, x_for, v_var, v_lit, v_glo, v_bin, v_neg, v_cmp, v_chain, v_not, v_and, v_or, v_ite, v_call, v_blt, v_ix, v_slc, v_lst, v_tup, v_lc, v_rev, es_nil', es_cons', ea_nil, ea_cons, argB, thn_nx, thn_rt, thn_ct, thn_br, bind_ok, so_ok, opt_some, bT_nm, bT_tp, bTs_nil, bTs_cons, getB_0, getB_s, fi_v, fi_r, fi_t, Q.M.isR, Q.M.op, Q.IK.md, im_seq, im_rng1, im_rng2, im_enum, im_zip, im_rng3, im_items, seq1_sq, zipD_eq, enumD_eq, seqOf_sq, seqOf_l, seqOf_t, seq1_l, seq1_t, len_sq, ix_sq, rev_sq, Option.map_some, Option.bind_some, List.set_cons_zero, List.set_cons_succ, List.map_cons, List.map_nil, unown, List.any_cons, List.any_nil, isOwn, Bool.or_false, Bool.or_true, Bool.false_and, Bool.true_and, Bool.and_false, Bool.and_true, finO, List.length_cons, List.length_nil, List.replicate, List.cons_append, List.nil_append, Nat.reduceSub, Nat.reduceAdd, Nat.sub_self, wipeB, Bool.not_true, Bool.not_false, Option.getD_some, cmpD, ltD, eqD_int, tru_bool, noLst_fq, tru_none, noLst, tup_l, tup_t, tup_sq, list_sq, len_l, len_t, grd_true, bin_addI, bin_subI, ix_l, ix_t, big1, big2]
    | some s =>
      rw [hf] at key
      obtain ⟨tk, J', key⟩ := key
      simp only [k_determinant, List.length_map, hN, hbn, c1, G.one, tb_len, rng1_nat (show n ≤ 1000 by omega), key, xs_nil, xs_cons, x_set, x_setL, x_par, x_unp, x_app, x_ext, x_sub, x_aug, x_ret, x_ife, x_ex, x_cont, x_brk, x_pass, x_frz, x_for, v_var, v_lit, v_glo, v_bin, v_neg, v_cmp, v_chain, v_not, v_and, v_or, v_ite, v_call, v_blt, v_ix, v_slc, v_lst, v_tup, v_lc, v_rev, es_nil', es_cons', ea_nil, ea_cons, argB, thn_nx, thn_rt, thn_ct, thn_br, bind_ok, so_ok, opt_some, bT_nm, bT_tp, bTs_nil, bTs_cons, getB_0, getB_s, fi_v, fi_r, fi_t, Q.M.isR, Q.M.op, Q.IK.md, im_seq, im_rng1, im_rng2, im_enum, im_zip, im_rng3, im_items, seq1_sq, zipD_eq, enumD_eq, seqOf_sq, seqOf_l, seqOf_t, seq1_l, seq1_t, len_sq, ix_sq, rev_sq, Option.map_some, Option.bind_some, List.set_cons_zero, List.set_cons_succ, List.map_cons, List.map_nil, unown, List.any_cons, List.any_nil, isOwn, Bool.or_false, Bool.or_true, Bool.false_and, Bool.true_and, Bool.and_false, Bool.and_true, finO, List.length_cons, List.length_nil, List.replicate, List.cons_append, List.nil_append, Nat.reduceSub, Nat.reduceAdd, Nat.sub_self, wipeB, Bool.not_true, Bool.not_false, Option.getD_some, cmpD, ltD, eqD_int, tru_bool, noLst_fq, tru_none, noLst, tup_l, tup_t, tup_sq, list_sq, len_l, len_t, grd_true, bin_addI, bin_subI, ix_l, ix_t, big1, big2]
  · obtain ⟨rfl, hc⟩ := range_at hx
    obtain ⟨ok1, ok2⟩ := ok (by omega)
    have hB := hb x (by omega)
    have hB1 := hB.2.2
    obtain ⟨T, f⟩ := s
    dsimp only at ok1 ok2
    have hS : bd (d, m) (x + 1) = ((4 * (bd (d, m) x).1.1 + (bd (d, m) x).1.2, 2 * (bd (d, m) x).1.2 + (bd (d, m) x).1.1 + 1), ((bd (d, m) x).2.1 + 1 + (bd (d, m) x).1.1, (bd (d, m) x).2.2 + 1 + (bd (d, m) x).1.2)) := rfl
    rw [hS] at hB1 ⊢
    generalize (bd (d, m) x).1.1 = d' at *
    generalize (bd (d, m) x).1.2 = m' at *
    generalize (bd (d, m) x).2.1 = d2 at *
    generalize (bd (d, m) x).2.2 = m2 at *
    have tl := ok1.len
    have pk := ok1.rwk hc
    obtain ⟨j0, j1, j2, j3, j4, j5, j6⟩ := J
    have c4 := lc_filter (tp := tp) (f := kl_determinant_2 ⟨callC es gl fuel k, gl⟩ [.val (sq b (rows.map fun r => sq b2 (qs r))), .own (tb T), .val (fq f), .val (.int (x : Nat)), j1, .un, j3, j4, j5, j6]) (e := fun j : Nat => PyData.int (j : Int)) (g := fun j : Nat => PyData.int (j : Int)) (p := fun j => decide (en T j x ≠ 0)) (xs := List.range' x (n - x)) (acc := []) (fun j hj => by
      rw [List.mem_range'] at hj
      obtain ⟨i', hi', hje⟩ := hj
      have hjn : j < n := by omega
      have q1 := atI_tb (T := T) (j := j) (by omega)
      have q2 := atI_row (r := rw_ T j) (k := x) (by rw [(ok1.rwk hjn).2.1]; omega)
      have q3 : (((rw_ T j)[x]?).getD 0) = en T j x := rfl
      by_cases hz : en T j x = 0
      · have q4 : eqD (fq (en T j x)) (fq 0) = some true := by rw [eq_fq, hz]; simp
        rw [show decide (en T j x ≠ 0) = false by simp [hz]]
        simp only [lcf, ec_one, Out.nox, q1, q2, q3, q4, G.zero, xs_nil, xs_cons, x_set, x_setL, x_par, x_unp, x_app, x_ext, x_sub, x_aug, x_ret, x_ife, x_ex, x_cont, x_brk, x_pass, x_frz, x_for, v_var, v_lit, v_glo, v_bin, v_neg, v_cmp, v_chain, v_not, v_and, v_or, v_ite, v_call, v_blt, v_ix, v_slc, v_lst, v_tup, v_lc, v_rev, es_nil', es_cons', ea_nil, ea_cons, argB, thn_nx, thn_rt, thn_ct, thn_br, bind_ok, so_ok, opt_some, bT_nm, bT_tp, bTs_nil, bTs_cons, getB_0, getB_s, fi_v, fi_r, fi_t, Q.M.isR, Q.M.op, Q.IK.md, im_seq, im_rng1, im_rng2, im_enum, im_zip, im_rng3, im_items, seq1_sq, zipD_eq, enumD_eq, seqOf_sq, seqOf_l, seqOf_t, seq1_l, seq1_t, len_sq, ix_sq, rev_sq, Option.map_some, Option.bind_some, List.set_cons_zero, List.set_cons_succ, List.map_cons, List.map_nil, unown, List.any_cons, List.any_nil, isOwn, Bool.or_false, Bool.or_true, Bool.false_and, Bool.true_and, Bool.and_false, Bool.and_true, finO, List.length_cons, List.length_nil, List.replicate, List.cons_append, List.nil_append, Nat.reduceSub, Nat.reduceAdd, Nat.sub_self, wipeB, Bool.not_true, Bool.not_false, Option.getD_some, cmpD, ltD, eqD_int, tru_bool, noLst_fq, tru_none, noLst, tup_l, tup_t, tup_sq, list_sq, len_l, len_t, grd_true, bin_addI, bin_subI, ix_l, ix_t, big1, big2]
        rfl
      · have q4 : eqD (fq (en T j x)) (fq 0) = some false := by rw [eq_fq]; simp [hz]
        rw [show decide (en T j x ≠ 0) = true by simp [hz]]
        simp only [lcf, ec_one, Out.nox, q1, q2, q3, q4, G.zero, xs_nil, xs_cons, x_set, x_setL, x_par, x_unp, x_app, x_ext, x_sub, x_aug, x_ret, x_ife, x_ex, x_cont, x_brk, x_pass, x_frz, x_for, v_var, v_lit, v_glo, v_bin, v_neg, v_cmp, v_chain, v_not, v_and, v_or, v_ite, v_call, v_blt, v_ix, v_slc, v_lst, v_tup, v_lc, v_rev, es_nil', es_cons', ea_nil, ea_cons, argB, thn_nx, thn_rt, thn_ct, thn_br, bind_ok, so_ok, opt_some, bT_nm, bT_tp, bTs_nil, bTs_cons, getB_0, getB_s, fi_v, fi_r, fi_t, Q.M.isR, Q.M.op, Q.IK.md, im_seq, im_rng1, im_rng2, im_enum, im_zip, im_rng3, im_items, seq1_sq, zipD_eq, enumD_eq, seqOf_sq, seqOf_l, seqOf_t, seq1_l, seq1_t, len_sq, ix_sq, rev_sq, Option.map_some, Option.bind_some, List.set_cons_zero, List.set_cons_succ, List.map_cons, List.map_nil, unown, List.any_cons, List.any_nil, isOwn, Bool.or_false, Bool.or_true, Bool.false_and, Bool.true_and, Bool.and_false, Bool.and_true, finO, List.length_cons, List.length_nil, List.replicate, List.cons_append, List.nil_append, Nat.reduceSub, Nat.reduceAdd, Nat.sub_self, wipeB, Bool.not_true, Bool.not_false, Option.getD_some, cmpD, ltD, eqD_int, tru_bool, noLst_fq, tru_none, noLst, tup_l, tup_t, tup_sq, list_sq, len_l, len_t, grd_true, bin_addI, bin_subI, ix_l, ix_t, big1, big2]
        rfl)
    rw [List.nil_append, show (List.range' x (n - x)).filter (fun j => decide (en T j x ≠ 0)) = plc n T x from rfl] at c4
    have e1 : big (List.range' x (n - x)).length = true := Nat.ble_eq_true_of_le (by rw [List.length_range']; omega)
    unfold dst
    cases hpl : plc n T x with
    | nil =>
      rw [hpl] at c4
      dsimp only
      simp only [forF, tb_len, tl, rng2_nat (show x ≤ 1000 by omega) (show n ≤ 1000 by omega), List.length_map, e1, c4, tru_l, List.isEmpty_nil, G.zero, xs_nil, xs_cons, x_set, x_setL, x_par, x_unp, x_app, x_ext, x_sub, x_aug, x_ret, x_ife, x_ex, x_cont, x_brk, x_pass, x_frz, x_for, v_var, v_lit, v_glo, v_bin, v_neg, v_cmp, v_chain, v_not, v_and, v_or, v_ite, v_call, v_blt, v_ix, v_slc, v_lst, v_tup, v_lc, v_rev, es_nil', es_cons', ea_nil, ea_cons, argB, thn_nx, thn_rt, thn_ct, thn_br, bind_ok, so_ok, opt_some, bT_nm, bT_tp, bTs_nil, bTs_cons, getB_0, getB_s, fi_v, fi_r, fi_t, Q.M.isR, Q.M.op, Q.IK.md, im_seq, im_rng1, im_rng2, im_enum, im_zip, im_rng3, im_items, seq1_sq, zipD_eq, enumD_eq, seqOf_sq, seqOf_l, seqOf_t, seq1_l, seq1_t, len_sq, ix_sq, rev_sq, Option.map_some, Option.bind_some, List.set_cons_zero, List.set_cons_succ, List.map_cons, List.map_nil, unown, List.any_cons, List.any_nil, isOwn, Bool.or_false, Bool.or_true, Bool.false_and, Bool.true_and, Bool.and_false, Bool.and_true, finO, List.length_cons, List.length_nil, List.replicate, List.cons_append, List.nil_append, Nat.reduceSub, Nat.reduceAdd, Nat.sub_self, wipeB, Bool.not_true, Bool.not_false, Option.getD_some, cmpD, ltD, eqD_int, tru_bool, noLst_fq, tru_none, noLst, tup_l, tup_t, tup_sq, list_sq, len_l, len_t, grd_true, bin_addI, bin_subI, ix_l, ix_t, big1, big2]
    | cons p ps =>
      rw [hpl] at c4
      dsimp only
      obtain ⟨p1, p2, p3⟩ := plc_mem hpl
      have s1 : TOk n n d' m' (dsw T x p) := by
        unfold dsw
        split
        · exact ok1
        · exact ok1.swpk hc p2
      have piv : en (dsw T x p) x x ≠ 0 := by
        unfold dsw
        split
        · rename_i hpx
          subst hpx
          exact p3
        · rename_i hpx
          have : rw_ (swp T x p) x = rw_ T p := by
            unfold swp
            rw [rw_set (Ne.symm hpx), rw_set_same (by omega)]
          show (((rw_ (swp T x p) x)[x]?).getD 0) ≠ 0
          rw [this]
          exact p3
      have s1l := s1.len
      have tl2 : truD (.list (PyData.int (p : Nat) :: ps.map fun j : Nat => PyData.int (j : Int))) = some true := rfl
      have ix0 : atI (PyData.int (p : Nat) :: ps.map fun j : Nat => PyData.int (j : Int)) 0 = some (.int (p : Nat)) := by
        rw [show (0 : Int) = ((0 : Nat) : Int) from rfl, atI_nat]
        rfl
      have pr := s1.rwk hc
      have b1 := atI_tb (T := dsw T x p) (j := x) (by omega)
      have b2' := atI_row (r := rw_ (dsw T x p) x) (k := x) (by rw [pr.2.1]; omega)
      have b3' : (((rw_ (dsw T x p) x)[x]?).getD 0) = en (dsw T x p) x x := rfl
      have hsm0 : SmQ 0 := Bq.zero.sm
      have bf : Bq (1 + d2) (max 0 m2 + 1) (if p = x then f else 0 - f) := by
        split
        · exact ok2.mono (by omega) (by omega)
        · exact Bq.zero.sub ok2
      have g1 := ht k tp (if p = x then f else 0 - f) (en (dsw T x p) x x) (by omega) (bf.sm (by omega)) ((s1.ent hc hc).sm (by omega)) trivial
      have hr2 : rng2D [.int ((x : Int) + 1), .int (n : Int)] = _ := rng2_nat (i := x + 1) (n := n) (by omega) (by omega)
      obtain ⟨f1, J', f2⟩ := det_in (tp := tp) (k := k) (n := n) (d := d') (m := m') (c := x) (T := dsw T x p) hm ho ht (by omega) hn hc s1 piv (by omega) (.val (sq b (rows.map fun r => sq b2 (qs r)))) (.val (fq ((if p = x then f else 0 - f) * en (dsw T x p) x x))) (.val (.list (PyData.int (p : Nat) :: ps.map fun j : Nat => PyData.int (j : Int)))) j3 (j2, j4, j5, j6)
      refine ⟨fun _ => ⟨f1, ?_⟩, (.val (.int (x : Nat)), .val (.list (PyData.int (p : Nat) :: ps.map fun j : Nat => PyData.int (j : Int))), J'.1, j3, J'.2.1, J'.2.2.1, J'.2.2.2), ?_⟩
      · exact (bf.mul (s1.ent hc hc)).mono (by omega) (by omega)
      · have tl3 : (dsw T x p).length = n := s1l
        by_cases hpx : p = x
        · have q : ((p : Int) == (x : Int)) = true := by rw [hpx]; exact beq_self_eq_true _
          have hd : dsw T x p = T := if_pos hpx
          simp only [hd, if_pos hpx] at b1 b2' b3' g1 tl3 f2 ⊢
          simp only [forF, tb_len, tl, rng2_nat (show x ≤ 1000 by omega) (show n ≤ 1000 by omega), List.length_map, e1, c4, tl2, ix0, q, b1, b2', b3', g1, tl3, hr2, f2, xs_nil, xs_cons, x_set, x_setL, x_par, x_unp, x_app, x_ext, x_sub, x_aug, x_ret, x_ife, x_ex, x_cont, x_brk, x_pass, x_frz, x_for, v_var, v_lit, v_glo, v_bin, v_neg, v_cmp, v_chain, v_not, v_and, v_or, v_ite, v_call, v_blt, v_ix, v_slc, v_lst, v_tup, v_lc, v_rev, es_nil', es_cons', ea_nil, ea_cons, argB, thn_nx, thn_rt, thn_ct, thn_br, bind_ok, so_ok, opt_some, bT_nm, bT_tp, bTs_nil, bTs_cons, getB_0, getB_s, fi_v, fi_r, fi_t, Q.M.isR, Q.M.op, Q.IK.md, im_seq, im_rng1, im_rng2, im_enum, im_zip, im_rng3, im_items, seq1_sq, zipD_eq, enumD_eq, seqOf_sq, seqOf_l, seqOf_t, seq1_l, seq1_t, len_sq, ix_sq, rev_sq, Option.map_some, Option.bind_some, List.set_cons_zero, List.set_cons_succ, List.map_cons, List.map_nil, unown, List.any_cons, List.any_nil, isOwn, Bool.or_false, Bool.or_true, Bool.false_and, Bool.true_and, Bool.and_false, Bool.and_true, finO, List.length_cons, List.length_nil, List.replicate, List.cons_append, List.nil_append, Nat.reduceSub, Nat.reduceAdd, Nat.sub_self, wipeB, Bool.not_true, Bool.not_false, Option.getD_some, cmpD, ltD, eqD_int, tru_bool, noLst_fq, tru_none, noLst, tup_l, tup_t, tup_sq, list_sq, len_l, len_t, grd_true, bin_addI, bin_subI, ix_l, ix_t, big1, big2]
        · have q : ((p : Int) == (x : Int)) = false := by
            rw [beq_eq_false_iff_ne]
            exact fun z => hpx (by exact_mod_cast z)
          have hd : dsw T x p = swp T x p := if_neg hpx
          have a1 := atI_tb (T := T) (j := x) (by omega)
          have a2 := atI_tb (T := T) (j := p) (by omega)
          have w1 := x_swp (tp := tp) (Γ := ⟨callC es gl fuel k, gl⟩) (fu := fuel) (i := 1) (k1 := .var 3) (k2 := .ix (.var 4) (.lit (.int 0))) (e1 := .ix (.var 1) (.ix (.var 4) (.lit (.int 0)))) (e2 := .ix (.var 1) (.var 3)) (env := [.val (sq b (rows.map fun r => sq b2 (qs r))), .own (tb T), .val (fq f), .val (.int (x : Nat)), .val (.list (PyData.int (p : Nat) :: ps.map fun j : Nat => PyData.int (j : Int))), j2, j3, j4, j5, j6]) (ds := tb T) (x := .list (qs (rw_ T p))) (y := .list (qs (rw_ T x))) (a := (x : Int)) (b := (p : Int)) (j := x) (l := p) rfl
              (by simp only [ix0, a2, xs_nil, xs_cons, x_set, x_setL, x_par, x_unp, x_app, x_ext, x_sub, x_aug, x_ret, x_ife, x_ex, x_cont, x_brk, x_pass, x_frz, x_for, v_var, v_lit, v_glo, v_bin, v_neg, v_cmp, v_chain, v_not, v_and, v_or, v_ite, v_call, v_blt, v_ix, v_slc, v_lst, v_tup, v_lc, v_rev, es_nil', es_cons', ea_nil, ea_cons, argB, thn_nx, thn_rt, thn_ct, thn_br, bind_ok, so_ok, opt_some, bT_nm, bT_tp, bTs_nil, bTs_cons, getB_0, getB_s, fi_v, fi_r, fi_t, Q.M.isR, Q.M.op, Q.IK.md, im_seq, im_rng1, im_rng2, im_enum, im_zip, im_rng3, im_items, seq1_sq, zipD_eq, enumD_eq, seqOf_sq, seqOf_l, seqOf_t, seq1_l, seq1_t, len_sq, ix_sq, rev_sq, Option.map_some, Option.bind_some, List.set_cons_zero, List.set_cons_succ, List.map_cons, List.map_nil, unown, List.any_cons, List.any_nil, isOwn, Bool.or_false, Bool.or_true, Bool.false_and, Bool.true_and, Bool.and_false, Bool.and_true, finO, List.length_cons, List.length_nil, List.replicate, List.cons_append, List.nil_append, Nat.reduceSub, Nat.reduceAdd, Nat.sub_self, wipeB, Bool.not_true, Bool.not_false, Option.getD_some, cmpD, ltD, eqD_int, tru_bool, noLst_fq, tru_none, noLst, tup_l, tup_t, tup_sq, list_sq, len_l, len_t, grd_true, bin_addI, bin_subI, ix_l, ix_t, big1, big2]) (by simp only [a1, xs_nil, xs_cons, x_set, x_setL, x_par, x_unp, x_app, x_ext, x_sub, x_aug, x_ret, x_ife, x_ex, x_cont, x_brk, x_pass, x_frz, x_for, v_var, v_lit, v_glo, v_bin, v_neg, v_cmp, v_chain, v_not, v_and, v_or, v_ite, v_call, v_blt, v_ix, v_slc, v_lst, v_tup, v_lc, v_rev, es_nil', es_cons', ea_nil, ea_cons, argB, thn_nx, thn_rt, thn_ct, thn_br, bind_ok, so_ok, opt_some, bT_nm, bT_tp, bTs_nil, bTs_cons, getB_0, getB_s, fi_v, fi_r, fi_t, Q.M.isR, Q.M.op, Q.IK.md, im_seq, im_rng1, im_rng2, im_enum, im_zip, im_rng3, im_items, seq1_sq, zipD_eq, enumD_eq, seqOf_sq, seqOf_l, seqOf_t, seq1_l, seq1_t, len_sq, ix_sq, rev_sq, Option.map_some, Option.bind_some, List.set_cons_zero, List.set_cons_succ, List.map_cons, List.map_nil, unown, List.any_cons, List.any_nil, isOwn, Bool.or_false, Bool.or_true, Bool.false_and, Bool.true_and, Bool.and_false, Bool.and_true, finO, List.length_cons, List.length_nil, List.replicate, List.cons_append, List.nil_append, Nat.reduceSub, Nat.reduceAdd, Nat.sub_self, wipeB, Bool.not_true, Bool.not_false, Option.getD_some, cmpD, ltD, eqD_int, tru_bool, noLst_fq, tru_none, noLst, tup_l, tup_t, tup_sq, list_sq, len_l, len_t, grd_true, bin_addI, bin_subI, ix_l, ix_t, big1, big2]) (by simp only [xs_nil, xs_cons, x_set, x_setL, x_par, x_unp, x_app, x_ext, x_sub, x_aug, x_ret, x_ife, x_ex, x_cont, x_brk, x_pass, x_frz, x_for, v_var, v_lit, v_glo, v_bin, v_neg, v_cmp, v_chain, v_not, v_and, v_or, v_ite, v_call, v_blt, v_ix, v_slc, v_lst, v_tup, v_lc, v_rev, es_nil', es_cons', ea_nil, ea_cons, argB, thn_nx, thn_rt, thn_ct, thn_br, bind_ok, so_ok, opt_some, bT_nm, bT_tp, bTs_nil, bTs_cons, getB_0, getB_s, fi_v, fi_r, fi_t, Q.M.isR, Q.M.op, Q.IK.md, im_seq, im_rng1, im_rng2, im_enum, im_zip, im_rng3, im_items, seq1_sq, zipD_eq, enumD_eq, seqOf_sq, seqOf_l, seqOf_t, seq1_l, seq1_t, len_sq, ix_sq, rev_sq, Option.map_some, Option.bind_some, List.set_cons_zero, List.set_cons_succ, List.map_cons, List.map_nil, unown, List.any_cons, List.any_nil, isOwn, Bool.or_false, Bool.or_true, Bool.false_and, Bool.true_and, Bool.and_false, Bool.and_true, finO, List.length_cons, List.length_nil, List.replicate, List.cons_append, List.nil_append, Nat.reduceSub, Nat.reduceAdd, Nat.sub_self, wipeB, Bool.not_true, Bool.not_false, Option.getD_some, cmpD, ltD, eqD_int, tru_bool, noLst_fq, tru_none, noLst, tup_l, tup_t, tup_sq, list_sq, len_l, len_t, grd_true, bin_addI, bin_subI, ix_l, ix_t, big1, big2]) (ixN_lt (by rw [tb_len]; omega)) (by simp only [ix0, xs_nil, xs_cons, x_set, x_setL, x_par, x_unp, x_app, x_ext, x_sub, x_aug, x_ret, x_ife, x_ex, x_cont, x_brk, x_pass, x_frz, x_for, v_var, v_lit, v_glo, v_bin, v_neg, v_cmp, v_chain, v_not, v_and, v_or, v_ite, v_call, v_blt, v_ix, v_slc, v_lst, v_tup, v_lc, v_rev, es_nil', es_cons', ea_nil, ea_cons, argB, thn_nx, thn_rt, thn_ct, thn_br, bind_ok, so_ok, opt_some, bT_nm, bT_tp, bTs_nil, bTs_cons, getB_0, getB_s, fi_v, fi_r, fi_t, Q.M.isR, Q.M.op, Q.IK.md, im_seq, im_rng1, im_rng2, im_enum, im_zip, im_rng3, im_items, seq1_sq, zipD_eq, enumD_eq, seqOf_sq, seqOf_l, seqOf_t, seq1_l, seq1_t, len_sq, ix_sq, rev_sq, Option.map_some, Option.bind_some, List.set_cons_zero, List.set_cons_succ, List.map_cons, List.map_nil, unown, List.any_cons, List.any_nil, isOwn, Bool.or_false, Bool.or_true, Bool.false_and, Bool.true_and, Bool.and_false, Bool.and_true, finO, List.length_cons, List.length_nil, List.replicate, List.cons_append, List.nil_append, Nat.reduceSub, Nat.reduceAdd, Nat.sub_self, wipeB, Bool.not_true, Bool.not_false, Option.getD_some, cmpD, ltD, eqD_int, tru_bool, noLst_fq, tru_none, noLst, tup_l, tup_t, tup_sq, list_sq, len_l, len_t, grd_true, bin_addI, bin_subI, ix_l, ix_t, big1, big2]) (ixN_lt (by rw [tb_len]; omega))
          rw [set_tb, set_tb, show ((T.set x (rw_ T p)).set p (rw_ T x)) = swp T x p from rfl] at w1
          have g2 := hm k tp 0 f (by omega) hsm0 (ok2.sm (by omega)) trivial
          simp only [hd, if_neg hpx] at b1 b2' b3' g1 tl3 f2 ⊢
          simp only [forF, tb_len, tl, rng2_nat (show x ≤ 1000 by omega) (show n ≤ 1000 by omega), List.length_map, e1, c4, tl2, ix0, q, w1, G.zero, g2, b1, b2', b3', g1, tl3, hr2, f2, xs_nil, xs_cons, x_set, x_setL, x_par, x_unp, x_app, x_ext, x_sub, x_aug, x_ret, x_ife, x_ex, x_cont, x_brk, x_pass, x_frz, x_for, v_var, v_lit, v_glo, v_bin, v_neg, v_cmp, v_chain, v_not, v_and, v_or, v_ite, v_call, v_blt, v_ix, v_slc, v_lst, v_tup, v_lc, v_rev, es_nil', es_cons', ea_nil, ea_cons, argB, thn_nx, thn_rt, thn_ct, thn_br, bind_ok, so_ok, opt_some, bT_nm, bT_tp, bTs_nil, bTs_cons, getB_0, getB_s, fi_v, fi_r, fi_t, Q.M.isR, Q.M.op, Q.IK.md, im_seq, im_rng1, im_rng2, im_enum, im_zip, im_rng3, im_items, seq1_sq, zipD_eq, enumD_eq, seqOf_sq, seqOf_l, seqOf_t, seq1_l, seq1_t, len_sq, ix_sq, rev_sq, Option.map_some, Option.bind_some, List.set_cons_zero, List.set_cons_succ, List.map_cons, List.map_nil, unown, List.any_cons, List.any_nil, isOwn, Bool.or_false, Bool.or_true, Bool.false_and, Bool.true_and, Bool.and_false, Bool.and_true, finO, List.length_cons, List.length_nil, List.replicate, List.cons_append, List.nil_append, Nat.reduceSub, Nat.reduceAdd, Nat.sub_self, wipeB, Bool.not_true, Bool.not_false, Option.getD_some, cmpD, ltD, eqD_int, tru_bool, noLst_fq, tru_none, noLst, tup_l, tup_t, tup_sq, list_sq, len_l, len_t, grd_true, bin_addI, bin_subI, ix_l, ix_t, big1, big2]
end
end Q

set_option Elab.async false
set_option linter.all false
set_option maxRecDepth 100000
set_option exponentiation.threshold 4000
/-! small functions; the law's own fractions -/
namespace Q
open PySem PySem.Spec L2
open PyProof.Rows hiding St
theorem mul_smI {a b : Int} (h : smI a = true) (h' : smI b = true) : binD .mul (.int a) (.int b) = some (.int (a * b)) := smI_mul h h'
theorem bindT_fq {i j : Nat} {x : Rat} {env : QE} : bindT (.tp (.cons (.nm i) (.cons (.nm j) .nil))) (fq x) env = some ((env.set i (.val (.int x.num))).set j (.val (.int (x.den : Int)))) := Eq.trans rfl rfl
theorem den0 (q : Rat) : (q.den : Int) ≠ 0 := by have := q.den_nz; omega
theorem den_sm {x y : Rat} (hx : SmQ x) (hy : SmQ y) : ((x.den : Int) * (y.den : Int)).natAbs < 2 ^ 2999 := by
  rw [Int.natAbs_mul, Int.natAbs_natCast, Int.natAbs_natCast]
  have : x.den * y.den < 2 ^ 999 * 2 ^ 999 := Nat.mul_lt_mul'' hx.d hy.d
  rw [← Nat.pow_add] at this
  exact Nat.lt_of_lt_of_le this (pow_le (by decide))
theorem dn_sm {x y : Rat} (hx : SmQ x) (hy : SmQ y) : ((x.den : Int) * y.num).natAbs < 2 ^ 2999 := by
  rw [Int.natAbs_mul, Int.natAbs_natCast]
  have : x.den * y.num.natAbs < 2 ^ 999 * 2 ^ 999 := Nat.mul_lt_mul'' hx.d hy.n
  rw [← Nat.pow_add] at this
  exact Nat.lt_of_lt_of_le this (pow_le (by decide))
theorem div_add (x y : Rat) : Rat.divInt (x.num * (y.den : Int) + y.num * (x.den : Int)) ((x.den : Int) * (y.den : Int)) = x + y := by
  have := Rat.divInt_add_divInt x.num y.num (den0 x) (den0 y)
  rw [Rat.num_divInt_den, Rat.num_divInt_den] at this
  exact this.symm
theorem div_div (x y : Rat) : Rat.divInt (x.num * (y.den : Int)) ((x.den : Int) * y.num) = x / y := by
  have := Rat.divInt_mul_divInt x.num (y.den : Int) (d₁ := (x.den : Int)) (d₂ := y.num)
  rw [← this, Rat.num_divInt_den, Rat.div_def, Rat.inv_def]
def powR (q : Rat) (n : Nat) : Rat := (List.range n).foldl (fun s _ => s * q) 1
section
variable (es : List Ent) (gl : Str → Option D) (fuel : Nat)
def RatioOk (i k0 : Nat) : Prop := ∀ k tp n d, k0 ≤ k → d ≠ 0 → d.natAbs < 2 ^ 2999 → callC es gl fuel k i [.val (.int n), .val (.int d)] tp = .ok (fq (Rat.divInt n d)) tp
def PowerOk (i k0 : Nat) : Prop := ∀ k tp q n d m, k0 ≤ k → n ≤ 10 → Bq d m q → 11 * (d + m) + 1 ≤ 990 → callC es gl fuel k i [.val (fq q), .val (.int (n : Nat))] tp = .ok (fq (powR q n)) tp
def PickOk (i k0 : Nat) (f : Rat → Rat → Rat) : Prop := ∀ k tp x y, k0 ≤ k → SmQ x → SmQ y → callC es gl fuel k i [.val (fq x), .val (fq y)] tp = .ok (fq (f x y)) tp
abbrev LeastOk (i k0 : Nat) : Prop := PickOk es gl fuel i k0 fun x y => if y < x then y else x
abbrev GreatestOk (i k0 : Nat) : Prop := PickOk es gl fuel i k0 fun x y => if x < y then y else x
def SizeOk (i k0 : Nat) : Prop := ∀ k tp q, k0 ≤ k → callC es gl fuel k i [.val (fq q)] tp = .ok (.tuple [.int (if q.num < 0 then -q.num else q.num), .int (q.den : Int)]) tp
def textD (q : Rat) : Option D := match decide (q.den = 1) with
  | true => bltD .str1 [.int q.num]
  | false => (bltD .str1 [.int q.num]).bind fun a => (addD a (.str "/")).bind fun b => (bltD .str1 [.int (q.den : Int)]).bind fun c => addD b c
def TextOk (i k0 : Nat) : Prop := ∀ k tp q d, k0 ≤ k → textD q = some d → callC es gl fuel k i [.val (fq q)] tp = .ok d tp
def FracOk (i k0 : Nat) : Prop := ∀ k tp n, k0 ≤ k → TpN n tp → n ≤ 100000 → ∃ q tp', Bd 60 9 q ∧ TpN (n + 2) tp' ∧ callC es gl fuel k i [.tape] tp = .ok (fq q) tp'
def TakeOk (i k0 : Nat) : Prop := ∀ k tp n m, k0 ≤ k → TpN n tp → n ≤ 200000 → 1 ≤ m → m ≤ 1000 → ∃ d tp', d < m ∧ TpN (n + 1) tp' ∧ callC es gl fuel k i [.tape, .val (.int (m : Nat))] tp = .ok (.int (d : Nat)) tp'
end
section
variable {es : List Ent} {gl : Str → Option D} {fuel : Nat} {i k0 : Nat}
abbrev kl_power_0 (i_times : Nat) (Γ : Sm) (n : Nat) : D → QE → Tp → SO := forF Γ n (.nm 3) (.cons (.set 2 (.call i_times (.cons (.var 2) (.cons (.var 0) .nil)))) .nil)
def k_power (i_times : Nat) : Df := ⟨["a", "many"], ["a", "many", "found", "_"], (.cons (.set 2 (.glo "ONE")) (.cons (.for_ (.nm 3) .rng1 (.cons (.var 1) .nil) (.cons (.set 2 (.call i_times (.cons (.var 2) (.cons (.var 0) .nil)))) .nil)) (.cons (.ret (.var 2)) .nil)))⟩
def k_least (i_less : Nat) : Df := ⟨["a", "b"], ["a", "b"], (.cons (.ret (.ite (.call i_less (.cons (.var 1) (.cons (.var 0) .nil))) (.var 1) (.var 0))) .nil)⟩
def k_greatest (i_less : Nat) : Df := ⟨["a", "b"], ["a", "b"], (.cons (.ret (.ite (.call i_less (.cons (.var 0) (.cons (.var 1) .nil))) (.var 1) (.var 0))) .nil)⟩
def k_size_of : Df := ⟨["a"], ["a"], (.cons (.ret (.tup (.cons (.blt .abs (.cons (.ix (.var 0) (.lit (.int 0))) .nil)) (.cons (.ix (.var 0) (.lit (.int 1))) .nil)))) .nil)⟩
def k_share_text : Df := ⟨["a"], ["a"], (.cons (.ret (.ite (.cmp .eq (.ix (.var 0) (.lit (.int 1))) (.lit (.int 1))) (.blt .str1 (.cons (.ix (.var 0) (.lit (.int 0))) .nil)) (.bin .add (.bin .add (.blt .str1 (.cons (.ix (.var 0) (.lit (.int 0))) .nil)) (.lit (.str "/"))) (.blt .str1 (.cons (.ix (.var 0) (.lit (.int 1))) .nil))))) .nil)⟩
def k_law_fraction (i_law_ratio : Nat) (i_law_take : Nat) : Df := ⟨["tape"], ["tape"], (.cons (.ret (.call i_law_ratio (.cons (.bin .sub (.call i_law_take (.cons (.var 0) (.cons (.lit (.int 19)) .nil))) (.lit (.int 9))) (.cons (.bin .add (.lit (.int 1)) (.call i_law_take (.cons (.var 0) (.cons (.lit (.int 6)) .nil)))) .nil)))) .nil)⟩
abbrev kl_law_sum_0 (i_law_ratio : Nat) (Γ : Sm) (n : Nat) : D → QE → Tp → SO := forF Γ n (.tp (.cons (.nm 3) (.cons (.nm 4) .nil))) (.cons (.unp (.tp (.cons (.nm 1) (.cons (.nm 2) .nil))) (.call i_law_ratio (.cons (.bin .add (.bin .mul (.var 1) (.var 4)) (.bin .mul (.var 3) (.var 2))) (.cons (.bin .mul (.var 2) (.var 4)) .nil)))) .nil)
def k_law_sum (i_law_ratio : Nat) : Df := ⟨["row"], ["row", "n", "d", "a", "b"], (.cons (.unp (.tp (.cons (.nm 1) (.cons (.nm 2) .nil))) (.tup (.cons (.lit (.int 0)) (.cons (.lit (.int 1)) .nil)))) (.cons (.for_ (.tp (.cons (.nm 3) (.cons (.nm 4) .nil))) .seq (.cons (.var 0) .nil) (.cons (.unp (.tp (.cons (.nm 1) (.cons (.nm 2) .nil))) (.call i_law_ratio (.cons (.bin .add (.bin .mul (.var 1) (.var 4)) (.bin .mul (.var 3) (.var 2))) (.cons (.bin .mul (.var 2) (.var 4)) .nil)))) .nil)) (.cons (.ret (.tup (.cons (.var 1) (.cons (.var 2) .nil)))) .nil)))⟩
abbrev kl_law_dot_0 (i_law_times : Nat) (Γ : Sm) (env : QE) : D → Tp → Out (Option D) := lcf Γ (.nm 2) .nil (.call i_law_times (.cons (.ix (.var 0) (.var 2)) (.cons (.ix (.var 1) (.var 2)) .nil))) env
def k_law_dot (i_law_sum : Nat) (i_law_times : Nat) : Df := ⟨["one", "other"], ["one", "other", "k"], (.cons (.ret (.call i_law_sum (.cons (.lc (.call i_law_times (.cons (.ix (.var 0) (.var 2)) (.cons (.ix (.var 1) (.var 2)) .nil))) (.nm 2) .rng1 (.cons (.blt .len (.cons (.var 0) .nil)) .nil) .nil [2]) .nil))) .nil)⟩
theorem power_ok {jt : Nat} (h : es[i]? = some (.code (k_power jt))) (G : GlOk gl) (ht : TimesOk es gl fuel jt k0) : PowerOk es gl fuel i (k0 + 1) := by
  intro k tp q n d m hk hn hq hb
  obtain ⟨k, rfl⟩ : ∃ j, k = j + 1 := ⟨k - 1, by omega⟩
  rw [call_code h rfl]
  have loop := for_run (tp := tp) (f := kl_power_0 jt ⟨callC es gl fuel k, gl⟩ fuel) (e := fun j : Nat => PyData.int (j : Int)) (step := fun s _ => s * q) (Ok := fun n a => Bq (1 + n * d) (n * m) a) (I := fun a j => [.val (fq q), .val (.int (n : Nat)), .val (fq a), j]) (xs := List.range n) (n := 0) (a := 1) (j := B.un) (N := n) (by simp) (fun c a j x hc hx ha => ?_) (by simpa using Bq.one)
  · obtain ⟨-, j', e⟩ := loop
    simp only [k_power, G.one, rng1_nat (show n ≤ 1000 by omega), e, powR, xs_nil, xs_cons, x_set, x_setL, x_par, x_unp, x_app, x_ext, x_sub, x_aug, x_ret, x_ife, x_ex, x_cont, x_brk, x_pass, x_frz, x_for, v_var, v_lit, v_glo, v_bin, v_neg, v_cmp, v_chain, v_not, v_and, v_or, v_ite, v_call, v_blt, v_ix, v_slc, v_lst, v_tup, v_lc, v_rev, es_nil', es_cons', ea_nil, ea_cons, argB, thn_nx, thn_rt, thn_ct, thn_br, bind_ok, so_ok, opt_some, bT_nm, bT_tp, bTs_nil, bTs_cons, getB_0, getB_s, fi_v, fi_r, fi_t, Q.M.isR, Q.M.op, Q.IK.md, im_seq, im_rng1, im_rng2, im_enum, im_zip, im_rng3, im_items, seq1_sq, zipD_eq, enumD_eq, seqOf_sq, seqOf_l, seqOf_t, seq1_l, seq1_t, len_sq, ix_sq, rev_sq, Option.map_some, Option.bind_some, List.set_cons_zero, List.set_cons_succ, List.map_cons, List.map_nil, unown, List.any_cons, List.any_nil, isOwn, Bool.or_false, Bool.or_true, Bool.false_and, Bool.true_and, Bool.and_false, Bool.and_true, finO, List.length_cons, List.length_nil, List.replicate, List.cons_append, List.nil_append, Nat.reduceSub, Nat.reduceAdd, Nat.sub_self, wipeB, Bool.not_true, Bool.not_false, Option.getD_some, cmpD, ltD, eqD_int, tru_bool, noLst_fq, tru_none, noLst, tup_l, tup_t, tup_sq, list_sq, len_l, len_t, grd_true, bin_addI, bin_subI, ix_l, ix_t, big1, big2]
  · have c1 : (c + 1) * d = c * d + d := Nat.succ_mul c d
    have c2 : (c + 1) * m = c * m + m := Nat.succ_mul c m
    have c3 : (c + 1) * d ≤ 11 * d := Nat.mul_le_mul_right _ (by omega)
    have c4 : (c + 1) * m ≤ 11 * m := Nat.mul_le_mul_right _ (by omega)
    refine ⟨?_, .val (.int (x : Nat)), ?_⟩
    · exact (ha.mul hq).mono (by omega) (by omega)
    · have := ht k tp a q (by omega) (ha.sm (by omega)) (hq.sm (by omega)) trivial
      simp only [forF, this, xs_nil, xs_cons, x_set, x_setL, x_par, x_unp, x_app, x_ext, x_sub, x_aug, x_ret, x_ife, x_ex, x_cont, x_brk, x_pass, x_frz, x_for, v_var, v_lit, v_glo, v_bin, v_neg, v_cmp, v_chain, v_not, v_and, v_or, v_ite, v_call, v_blt, v_ix, v_slc, v_lst, v_tup, v_lc, v_rev, es_nil', es_cons', ea_nil, ea_cons, argB, thn_nx, thn_rt, thn_ct, thn_br, bind_ok, so_ok, opt_some, bT_nm, bT_tp, bTs_nil, bTs_cons, getB_0, getB_s, fi_v, fi_r, fi_t, Q.M.isR, Q.M.op, Q.IK.md, im_seq, im_rng1, im_rng2, im_enum, im_zip, im_rng3, im_items, seq1_sq, zipD_eq, enumD_eq, seqOf_sq, seqOf_l, seqOf_t, seq1_l, seq1_t, len_sq, ix_sq, rev_sq, Option.map_some, Option.bind_some, List.set_cons_zero, List.set_cons_succ, List.map_cons, List.map_nil, unown, List.any_cons, List.any_nil, isOwn, Bool.or_false, Bool.or_true, Bool.false_and, Bool.true_and, Bool.and_false, Bool.and_true, finO, List.length_cons, List.length_nil, List.replicate, List.cons_append, List.nil_append, Nat.reduceSub, Nat.reduceAdd, Nat.sub_self, wipeB, Bool.not_true, Bool.not_false, Option.getD_some, cmpD, ltD, eqD_int, tru_bool, noLst_fq, tru_none, noLst, tup_l, tup_t, tup_sq, list_sq, len_l, len_t, grd_true, bin_addI, bin_subI, ix_l, ix_t, big1, big2]
theorem least_ok {jl : Nat} (h : es[i]? = some (.code (k_least jl))) (hl : LessOk es gl fuel jl k0) : LeastOk es gl fuel i (k0 + 1) := by
  intro k tp x y hk hx hy
  obtain ⟨k, rfl⟩ : ∃ j, k = j + 1 := ⟨k - 1, by omega⟩
  rw [call_code h rfl]
  have e := hl k tp y x (by omega) hy hx
  by_cases hc : y < x
  · rw [decide_eq_true hc] at e
    simp only [k_least, e, if_pos hc, xs_nil, xs_cons, x_set, x_setL, x_par, x_unp, x_app, x_ext, x_sub, x_aug, x_ret, x_ife, x_ex, x_cont, x_brk, x_pass, x_frz, x_for, v_var, v_lit, v_glo, v_bin, v_neg, v_cmp, v_chain, v_not, v_and, v_or, v_ite, v_call, v_blt, v_ix, v_slc, v_lst, v_tup, v_lc, v_rev, es_nil', es_cons', ea_nil, ea_cons, argB, thn_nx, thn_rt, thn_ct, thn_br, bind_ok, so_ok, opt_some, bT_nm, bT_tp, bTs_nil, bTs_cons, getB_0, getB_s, fi_v, fi_r, fi_t, Q.M.isR, Q.M.op, Q.IK.md, im_seq, im_rng1, im_rng2, im_enum, im_zip, im_rng3, im_items, seq1_sq, zipD_eq, enumD_eq, seqOf_sq, seqOf_l, seqOf_t, seq1_l, seq1_t, len_sq, ix_sq, rev_sq, Option.map_some, Option.bind_some, List.set_cons_zero, List.set_cons_succ, List.map_cons, List.map_nil, unown, List.any_cons, List.any_nil, isOwn, Bool.or_false, Bool.or_true, Bool.false_and, Bool.true_and, Bool.and_false, Bool.and_true, finO, List.length_cons, List.length_nil, List.replicate, List.cons_append, List.nil_append, Nat.reduceSub, Nat.reduceAdd, Nat.sub_self, wipeB, Bool.not_true, Bool.not_false, Option.getD_some, cmpD, ltD, eqD_int, tru_bool, noLst_fq, tru_none, noLst, tup_l, tup_t, tup_sq, list_sq, len_l, len_t, grd_true, bin_addI, bin_subI, ix_l, ix_t, big1, big2]
  · rw [decide_eq_false hc] at e
    simp only [k_least, e, if_neg hc, xs_nil, xs_cons, x_set, x_setL, x_par, x_unp, x_app, x_ext, x_sub, x_aug, x_ret, x_ife, x_ex, x_cont, x_brk, x_pass, x_frz, x_for, v_var, v_lit, v_glo, v_bin, v_neg, v_cmp, v_chain, v_not, v_and, v_or, v_ite, v_call, v_blt, v_ix, v_slc, v_lst, v_tup, v_lc, v_rev, es_nil', es_cons', ea_nil, ea_cons, argB, thn_nx, thn_rt, thn_ct, thn_br, bind_ok, so_ok, opt_some, bT_nm, bT_tp, bTs_nil, bTs_cons, getB_0, getB_s, fi_v, fi_r, fi_t, Q.M.isR, Q.M.op, Q.IK.md, im_seq, im_rng1, im_rng2, im_enum, im_zip, im_rng3, im_items, seq1_sq, zipD_eq, enumD_eq, seqOf_sq, seqOf_l, seqOf_t, seq1_l, seq1_t, len_sq, ix_sq, rev_sq, Option.map_some, Option.bind_some, List.set_cons_zero, List.set_cons_succ, List.map_cons, List.map_nil, unown, List.any_cons, List.any_nil, isOwn, Bool.or_false, Bool.or_true, Bool.false_and, Bool.true_and, Bool.and_false, Bool.and_true, finO, List.length_cons, List.length_nil, List.replicate, List.cons_append, List.nil_append, Nat.reduceSub, Nat.reduceAdd, Nat.sub_self, wipeB, Bool.not_true, Bool.not_false, Option.getD_some, cmpD, ltD, eqD_int, tru_bool, noLst_fq, tru_none, noLst, tup_l, tup_t, tup_sq, list_sq, len_l, len_t, grd_true, bin_addI, bin_subI, ix_l, ix_t, big1, big2]
theorem greatest_ok {jl : Nat} (h : es[i]? = some (.code (k_greatest jl))) (hl : LessOk es gl fuel jl k0) : GreatestOk es gl fuel i (k0 + 1) := by
  intro k tp x y hk hx hy
  obtain ⟨k, rfl⟩ : ∃ j, k = j + 1 := ⟨k - 1, by omega⟩
  rw [call_code h rfl]
  have e := hl k tp x y (by omega) hx hy
  by_cases hc : x < y
  · rw [decide_eq_true hc] at e
    simp only [k_greatest, e, if_pos hc, xs_nil, xs_cons, x_set, x_setL, x_par, x_unp, x_app, x_ext, x_sub, x_aug, x_ret, x_ife, x_ex, x_cont, x_brk, x_pass, x_frz, x_for, v_var, v_lit, v_glo, v_bin, v_neg, v_cmp, v_chain, v_not, v_and, v_or, v_ite, v_call, v_blt, v_ix, v_slc, v_lst, v_tup, v_lc, v_rev, es_nil', es_cons', ea_nil, ea_cons, argB, thn_nx, thn_rt, thn_ct, thn_br, bind_ok, so_ok, opt_some, bT_nm, bT_tp, bTs_nil, bTs_cons, getB_0, getB_s, fi_v, fi_r, fi_t, Q.M.isR, Q.M.op, Q.IK.md, im_seq, im_rng1, im_rng2, im_enum, im_zip, im_rng3, im_items, seq1_sq, zipD_eq, enumD_eq, seqOf_sq, seqOf_l, seqOf_t, seq1_l, seq1_t, len_sq, ix_sq, rev_sq, Option.map_some, Option.bind_some, List.set_cons_zero, List.set_cons_succ, List.map_cons, List.map_nil, unown, List.any_cons, List.any_nil, isOwn, Bool.or_false, Bool.or_true, Bool.false_and, Bool.true_and, Bool.and_false, Bool.and_true, finO, List.length_cons, List.length_nil, List.replicate, List.cons_append, List.nil_append, Nat.reduceSub, Nat.reduceAdd, Nat.sub_self, wipeB, Bool.not_true, Bool.not_false, Option.getD_some, cmpD, ltD, eqD_int, tru_bool, noLst_fq, tru_none, noLst, tup_l, tup_t, tup_sq, list_sq, len_l, len_t, grd_true, bin_addI, bin_subI, ix_l, ix_t, big1, big2]
  · rw [decide_eq_false hc] at e
    simp only [k_greatest, e, if_neg hc, xs_nil, xs_cons, x_set, x_setL, x_par, x_unp, x_app, x_ext, x_sub, x_aug, x_ret, x_ife, x_ex, x_cont, x_brk, x_pass, x_frz, x_for, v_var, v_lit, v_glo, v_bin, v_neg, v_cmp, v_chain, v_not, v_and, v_or, v_ite, v_call, v_blt, v_ix, v_slc, v_lst, v_tup, v_lc, v_rev, es_nil', es_cons', ea_nil, ea_cons, argB, thn_nx, thn_rt, thn_ct, thn_br, bind_ok, so_ok, opt_some, bT_nm, bT_tp, bTs_nil, bTs_cons, getB_0, getB_s, fi_v, fi_r, fi_t, Q.M.isR, Q.M.op, Q.IK.md, im_seq, im_rng1, im_rng2, im_enum, im_zip, im_rng3, im_items, seq1_sq, zipD_eq, enumD_eq, seqOf_sq, seqOf_l, seqOf_t, seq1_l, seq1_t, len_sq, ix_sq, rev_sq, Option.map_some, Option.bind_some, List.set_cons_zero, List.set_cons_succ, List.map_cons, List.map_nil, unown, List.any_cons, List.any_nil, isOwn, Bool.or_false, Bool.or_true, Bool.false_and, Bool.true_and, Bool.and_false, Bool.and_true, finO, List.length_cons, List.length_nil, List.replicate, List.cons_append, List.nil_append, Nat.reduceSub, Nat.reduceAdd, Nat.sub_self, wipeB, Bool.not_true, Bool.not_false, Option.getD_some, cmpD, ltD, eqD_int, tru_bool, noLst_fq, tru_none, noLst, tup_l, tup_t, tup_sq, list_sq, len_l, len_t, grd_true, bin_addI, bin_subI, ix_l, ix_t, big1, big2]
theorem abs_i {n : Int} : bltD .abs [.int n] = some (.int (if n < 0 then -n else n)) := rfl
theorem size_of_ok (h : es[i]? = some (.code k_size_of)) : SizeOk es gl fuel i 1 := by
  intro k tp q hk
  obtain ⟨k, rfl⟩ : ∃ j, k = j + 1 := ⟨k - 1, by omega⟩
  rw [call_code h rfl]
  simp only [k_size_of, ix0_fq, ix1_fq, abs_i, xs_nil, xs_cons, x_set, x_setL, x_par, x_unp, x_app, x_ext, x_sub, x_aug, x_ret, x_ife, x_ex, x_cont, x_brk, x_pass, x_frz, x_for, v_var, v_lit, v_glo, v_bin, v_neg, v_cmp, v_chain, v_not, v_and, v_or, v_ite, v_call, v_blt, v_ix, v_slc, v_lst, v_tup, v_lc, v_rev, es_nil', es_cons', ea_nil, ea_cons, argB, thn_nx, thn_rt, thn_ct, thn_br, bind_ok, so_ok, opt_some, bT_nm, bT_tp, bTs_nil, bTs_cons, getB_0, getB_s, fi_v, fi_r, fi_t, Q.M.isR, Q.M.op, Q.IK.md, im_seq, im_rng1, im_rng2, im_enum, im_zip, im_rng3, im_items, seq1_sq, zipD_eq, enumD_eq, seqOf_sq, seqOf_l, seqOf_t, seq1_l, seq1_t, len_sq, ix_sq, rev_sq, Option.map_some, Option.bind_some, List.set_cons_zero, List.set_cons_succ, List.map_cons, List.map_nil, unown, List.any_cons, List.any_nil, isOwn, Bool.or_false, Bool.or_true, Bool.false_and, Bool.true_and, Bool.and_false, Bool.and_true, finO, List.length_cons, List.length_nil, List.replicate, List.cons_append, List.nil_append, Nat.reduceSub, Nat.reduceAdd, Nat.sub_self, wipeB, Bool.not_true, Bool.not_false, Option.getD_some, cmpD, ltD, eqD_int, tru_bool, noLst_fq, tru_none, noLst, tup_l, tup_t, tup_sq, list_sq, len_l, len_t, grd_true, bin_addI, bin_subI, ix_l, ix_t, big1, big2]
theorem textD_some {q : Rat} {d : D} (h : textD q = some d) : (q.den = 1 ∧ bltD .str1 [.int q.num] = some d) ∨ (q.den ≠ 1 ∧ ∃ a b c, bltD .str1 [.int q.num] = some a ∧ addD a (.str "/") = some b ∧ bltD .str1 [.int (q.den : Int)] = some c ∧ addD b c = some d) := by
  unfold textD at h
  by_cases hq : q.den = 1
  · rw [decide_eq_true hq] at h
    exact .inl ⟨hq, h⟩
  · rw [decide_eq_false hq] at h
    obtain ⟨a, h1, h⟩ := Option.bind_eq_some_iff.mp h
    obtain ⟨b, h2, h⟩ := Option.bind_eq_some_iff.mp h
    obtain ⟨c, h3, h⟩ := Option.bind_eq_some_iff.mp h
    exact .inr ⟨hq, a, b, c, h1, h2, h3, h⟩
theorem bin_addD {a b : D} : binD .add a b = addD a b := rfl
theorem share_text_ok (h : es[i]? = some (.code k_share_text)) : TextOk es gl fuel i 1 := by
  intro k tp q d hk ht
  obtain ⟨k, rfl⟩ : ∃ j, k = j + 1 := ⟨k - 1, by omega⟩
  rw [call_code h rfl]
  rcases textD_some ht with ⟨hq, h1⟩ | ⟨hq, a, b, c, h1, h2, h3, h4⟩
  · have e : ((q.den : Int) == 1) = true := by rw [hq]; rfl
    simp only [k_share_text, ix0_fq, ix1_fq, e, h1, xs_nil, xs_cons, x_set, x_setL, x_par, x_unp, x_app, x_ext, x_sub, x_aug, x_ret, x_ife, x_ex, x_cont, x_brk, x_pass, x_frz, x_for, v_var, v_lit, v_glo, v_bin, v_neg, v_cmp, v_chain, v_not, v_and, v_or, v_ite, v_call, v_blt, v_ix, v_slc, v_lst, v_tup, v_lc, v_rev, es_nil', es_cons', ea_nil, ea_cons, argB, thn_nx, thn_rt, thn_ct, thn_br, bind_ok, so_ok, opt_some, bT_nm, bT_tp, bTs_nil, bTs_cons, getB_0, getB_s, fi_v, fi_r, fi_t, Q.M.isR, Q.M.op, Q.IK.md, im_seq, im_rng1, im_rng2, im_enum, im_zip, im_rng3, im_items, seq1_sq, zipD_eq, enumD_eq, seqOf_sq, seqOf_l, seqOf_t, seq1_l, seq1_t, len_sq, ix_sq, rev_sq, Option.map_some, Option.bind_some, List.set_cons_zero, List.set_cons_succ, List.map_cons, List.map_nil, unown, List.any_cons, List.any_nil, isOwn, Bool.or_false, Bool.or_true, Bool.false_and, Bool.true_and, Bool.and_false, Bool.and_true, finO, List.length_cons, List.length_nil, List.replicate, List.cons_append, List.nil_append, Nat.reduceSub, Nat.reduceAdd, Nat.sub_self, wipeB, Bool.not_true, Bool.not_false, Option.getD_some, cmpD, ltD, eqD_int, tru_bool, noLst_fq, tru_none, noLst, tup_l, tup_t, tup_sq, list_sq, len_l, len_t, grd_true, bin_addI, bin_subI, ix_l, ix_t, big1, big2]
  · have e : ((q.den : Int) == 1) = false := by
      rw [beq_eq_false_iff_ne]
      exact fun z => hq (by exact_mod_cast z)
    simp only [k_share_text, ix0_fq, ix1_fq, e, h1, bin_addD, h2, h3, h4, xs_nil, xs_cons, x_set, x_setL, x_par, x_unp, x_app, x_ext, x_sub, x_aug, x_ret, x_ife, x_ex, x_cont, x_brk, x_pass, x_frz, x_for, v_var, v_lit, v_glo, v_bin, v_neg, v_cmp, v_chain, v_not, v_and, v_or, v_ite, v_call, v_blt, v_ix, v_slc, v_lst, v_tup, v_lc, v_rev, es_nil', es_cons', ea_nil, ea_cons, argB, thn_nx, thn_rt, thn_ct, thn_br, bind_ok, so_ok, opt_some, bT_nm, bT_tp, bTs_nil, bTs_cons, getB_0, getB_s, fi_v, fi_r, fi_t, Q.M.isR, Q.M.op, Q.IK.md, im_seq, im_rng1, im_rng2, im_enum, im_zip, im_rng3, im_items, seq1_sq, zipD_eq, enumD_eq, seqOf_sq, seqOf_l, seqOf_t, seq1_l, seq1_t, len_sq, ix_sq, rev_sq, Option.map_some, Option.bind_some, List.set_cons_zero, List.set_cons_succ, List.map_cons, List.map_nil, unown, List.any_cons, List.any_nil, isOwn, Bool.or_false, Bool.or_true, Bool.false_and, Bool.true_and, Bool.and_false, Bool.and_true, finO, List.length_cons, List.length_nil, List.replicate, List.cons_append, List.nil_append, Nat.reduceSub, Nat.reduceAdd, Nat.sub_self, wipeB, Bool.not_true, Bool.not_false, Option.getD_some, cmpD, ltD, eqD_int, tru_bool, noLst_fq, tru_none, noLst, tup_l, tup_t, tup_sq, list_sq, len_l, len_t, grd_true, bin_addI, bin_subI, ix_l, ix_t, big1, big2]
theorem law_sum_ok {jr : Nat} (h : es[i]? = some (.code (k_law_sum jr))) (hr : RatioOk es gl fuel jr k0) : SumOk es gl fuel i (k0 + 1) := by
  intro k tp b l d m hk R hdm
  obtain ⟨k, rfl⟩ : ∃ j, k = j + 1 := ⟨k - 1, by omega⟩
  rw [call_code h rfl]
  obtain ⟨hle, D, hD, hd, hl⟩ := R
  have loop := for_run (tp := tp) (f := kl_law_sum_0 jr ⟨callC es gl fuel k, gl⟩ fuel) (e := fq) (step := fun s x => s + x) (Ok := fun n a => Bd D (n * 2 ^ m) a) (I := fun a (j : B × B) => [.val (sq b (qs l)), .val (.int a.num), .val (.int (a.den : Int)), j.1, j.2]) (xs := l) (n := 0) (a := 0) (j := (B.un, B.un)) (N := l.length) (by omega) (fun n a j x hn hx ha => ?_) (by rw [Nat.zero_mul]; exact Bd.zero hD)
  · obtain ⟨-, j', e⟩ := loop
    rw [foldl_add, Rat.zero_add] at e
    have z1 : (0 : Rat).num = 0 := rfl
    have z2 : ((0 : Rat).den : Int) = 1 := rfl
    rw [z1, z2] at e
    have f : PyData.tuple [.int l.sum.num, .int (l.sum.den : Int)] = fq l.sum := rfl
    simp only [k_law_sum, e, f, xs_nil, xs_cons, x_set, x_setL, x_par, x_unp, x_app, x_ext, x_sub, x_aug, x_ret, x_ife, x_ex, x_cont, x_brk, x_pass, x_frz, x_for, v_var, v_lit, v_glo, v_bin, v_neg, v_cmp, v_chain, v_not, v_and, v_or, v_ite, v_call, v_blt, v_ix, v_slc, v_lst, v_tup, v_lc, v_rev, es_nil', es_cons', ea_nil, ea_cons, argB, thn_nx, thn_rt, thn_ct, thn_br, bind_ok, so_ok, opt_some, bT_nm, bT_tp, bTs_nil, bTs_cons, getB_0, getB_s, fi_v, fi_r, fi_t, Q.M.isR, Q.M.op, Q.IK.md, im_seq, im_rng1, im_rng2, im_enum, im_zip, im_rng3, im_items, seq1_sq, zipD_eq, enumD_eq, seqOf_sq, seqOf_l, seqOf_t, seq1_l, seq1_t, len_sq, ix_sq, rev_sq, Option.map_some, Option.bind_some, List.set_cons_zero, List.set_cons_succ, List.map_cons, List.map_nil, unown, List.any_cons, List.any_nil, isOwn, Bool.or_false, Bool.or_true, Bool.false_and, Bool.true_and, Bool.and_false, Bool.and_true, finO, List.length_cons, List.length_nil, List.replicate, List.cons_append, List.nil_append, Nat.reduceSub, Nat.reduceAdd, Nat.sub_self, wipeB, Bool.not_true, Bool.not_false, Option.getD_some, cmpD, ltD, eqD_int, tru_bool, noLst_fq, tru_none, noLst, tup_l, tup_t, tup_sq, list_sq, len_l, len_t, grd_true, bin_addI, bin_subI, ix_l, ix_t, big1, big2]
  · have sx : SmQ x := Bq.sm (d := d) (m := m) ⟨D, hd, hl x hx⟩ (by omega)
    have sa : SmQ a := Bq.sm (d := d) (m := m + 10) ⟨D, hd, ha.le (by rw [Nat.pow_add, Nat.mul_comm]; exact Nat.mul_le_mul_left _ (by omega))⟩ (by omega)
    refine ⟨?_, (.val (.int x.num), .val (.int (x.den : Int))), ?_⟩
    · show Bd D ((n + 1) * 2 ^ m) (a + x)
      rw [Nat.succ_mul]
      exact ha.add (hl x hx)
    · have r := hr k tp (a.num * (x.den : Int) + x.num * (a.den : Int)) ((a.den : Int) * (x.den : Int)) (by omega) (Int.mul_ne_zero (den0 a) (den0 x)) (den_sm sa sx)
      rw [div_add] at r
      simp only [forF, ↓bindT_fq, mul_smI sa.i1 sx.i2, mul_smI sx.i1 sa.i2, mul_smI sa.i2 sx.i2, r, xs_nil, xs_cons, x_set, x_setL, x_par, x_unp, x_app, x_ext, x_sub, x_aug, x_ret, x_ife, x_ex, x_cont, x_brk, x_pass, x_frz, x_for, v_var, v_lit, v_glo, v_bin, v_neg, v_cmp, v_chain, v_not, v_and, v_or, v_ite, v_call, v_blt, v_ix, v_slc, v_lst, v_tup, v_lc, v_rev, es_nil', es_cons', ea_nil, ea_cons, argB, thn_nx, thn_rt, thn_ct, thn_br, bind_ok, so_ok, opt_some, bT_nm, bT_tp, bTs_nil, bTs_cons, getB_0, getB_s, fi_v, fi_r, fi_t, Q.M.isR, Q.M.op, Q.IK.md, im_seq, im_rng1, im_rng2, im_enum, im_zip, im_rng3, im_items, seq1_sq, zipD_eq, enumD_eq, seqOf_sq, seqOf_l, seqOf_t, seq1_l, seq1_t, len_sq, ix_sq, rev_sq, Option.map_some, Option.bind_some, List.set_cons_zero, List.set_cons_succ, List.map_cons, List.map_nil, unown, List.any_cons, List.any_nil, isOwn, Bool.or_false, Bool.or_true, Bool.false_and, Bool.true_and, Bool.and_false, Bool.and_true, finO, List.length_cons, List.length_nil, List.replicate, List.cons_append, List.nil_append, Nat.reduceSub, Nat.reduceAdd, Nat.sub_self, wipeB, Bool.not_true, Bool.not_false, Option.getD_some, cmpD, ltD, eqD_int, tru_bool, noLst_fq, tru_none, noLst, tup_l, tup_t, tup_sq, list_sq, len_l, len_t, grd_true, bin_addI, bin_subI, ix_l, ix_t, big1, big2]
theorem law_dot_ok {js jt : Nat} (h : es[i]? = some (.code (k_law_dot js jt))) (hs : SumOk es gl fuel js k0) (ht : TimesOk es gl fuel jt k0) : ∀ k tp b b' l l' d m d' m', k0 + 1 ≤ k → Rw d m l → Rw d' m' l' → l'.length = l.length → d + m + (d' + m') ≤ 900 → callC es gl fuel k i [.val (sq b (qs l)), .val (sq b' (qs l'))] tp = .ok (fq (dotR l l')) tp := by
  intro k tp b b' l l' d m d' m' hk L L' hl hb
  obtain ⟨k, rfl⟩ : ∃ j, k = j + 1 := ⟨k - 1, by omega⟩
  rw [call_code h rfl]
  have hz : big (List.range l.length).length = true := Nat.ble_eq_true_of_le (by have := L.le; rw [List.length_range]; omega)
  have e3 := lc_run (tp := tp) (f := kl_law_dot_0 jt ⟨callC es gl fuel k, gl⟩ [.val (sq b (qs l)), .val (sq b' (qs l')), .un]) (e := fun j : Nat => PyData.int (j : Int)) (g := fun j => fq (((l[j]?).getD 0) * ((l'[j]?).getD 0))) (xs := List.range l.length) (acc := []) (fun j hj => by
    have hj : j < l.length := by simpa using hj
    have hj' : j < l'.length := by omega
    have m1 : (l[j]?).getD 0 ∈ l := by rw [List.getElem?_eq_getElem hj]; exact List.getElem_mem _
    have m2 : (l'[j]?).getD 0 ∈ l' := by rw [List.getElem?_eq_getElem hj']; exact List.getElem_mem _
    have := ht k tp _ _ (by omega) ((L.at m1).sm (by omega)) ((L'.at m2).sm (by omega)) trivial
    simp only [lcf, ec_nil, Out.nox, atI_row hj, atI_row hj', this, xs_nil, xs_cons, x_set, x_setL, x_par, x_unp, x_app, x_ext, x_sub, x_aug, x_ret, x_ife, x_ex, x_cont, x_brk, x_pass, x_frz, x_for, v_var, v_lit, v_glo, v_bin, v_neg, v_cmp, v_chain, v_not, v_and, v_or, v_ite, v_call, v_blt, v_ix, v_slc, v_lst, v_tup, v_lc, v_rev, es_nil', es_cons', ea_nil, ea_cons, argB, thn_nx, thn_rt, thn_ct, thn_br, bind_ok, so_ok, opt_some, bT_nm, bT_tp, bTs_nil, bTs_cons, getB_0, getB_s, fi_v, fi_r, fi_t, Q.M.isR, Q.M.op, Q.IK.md, im_seq, im_rng1, im_rng2, im_enum, im_zip, im_rng3, im_items, seq1_sq, zipD_eq, enumD_eq, seqOf_sq, seqOf_l, seqOf_t, seq1_l, seq1_t, len_sq, ix_sq, rev_sq, Option.map_some, Option.bind_some, List.set_cons_zero, List.set_cons_succ, List.map_cons, List.map_nil, unown, List.any_cons, List.any_nil, isOwn, Bool.or_false, Bool.or_true, Bool.false_and, Bool.true_and, Bool.and_false, Bool.and_true, finO, List.length_cons, List.length_nil, List.replicate, List.cons_append, List.nil_append, Nat.reduceSub, Nat.reduceAdd, Nat.sub_self, wipeB, Bool.not_true, Bool.not_false, Option.getD_some, cmpD, ltD, eqD_int, tru_bool, noLst_fq, tru_none, noLst, tup_l, tup_t, tup_sq, list_sq, len_l, len_t, grd_true, bin_addI, bin_subI, ix_l, ix_t, big1, big2])
  have e5 : (List.range l.length).map (fun j => fq (((l[j]?).getD 0) * ((l'[j]?).getD 0))) = qs (l.zipWith (· * ·) l') := by
    refine List.ext_getElem (by simp; omega) fun j h1 h2 => ?_
    have h3 : j < l.length := by simpa using h1
    have h4 : j < l'.length := by omega
    simp only [List.getElem_map, List.getElem_range, List.getElem_zipWith, List.getElem?_eq_getElem h3, List.getElem?_eq_getElem h4, Option.getD_some]
  have e4 := hs k tp false (l.zipWith (· * ·) l') (d + d') (m + m') (by omega) (L.zip L') (by omega)
  rw [show sq false (qs (l.zipWith (· * ·) l')) = .list (qs (l.zipWith (· * ·) l')) from rfl] at e4
  rw [e5, List.nil_append] at e3
  simp only [k_law_dot, List.length_map, rng1_nat L.le, hz, e3, e4, dotR, xs_nil, xs_cons, x_set, x_setL, x_par, x_unp, x_app, x_ext, x_sub, x_aug, x_ret, x_ife, x_ex, x_cont, x_brk, x_pass, x_frz, x_for, v_var, v_lit, v_glo, v_bin, v_neg, v_cmp, v_chain, v_not, v_and, v_or, v_ite, v_call, v_blt, v_ix, v_slc, v_lst, v_tup, v_lc, v_rev, es_nil', es_cons', ea_nil, ea_cons, argB, thn_nx, thn_rt, thn_ct, thn_br, bind_ok, so_ok, opt_some, bT_nm, bT_tp, bTs_nil, bTs_cons, getB_0, getB_s, fi_v, fi_r, fi_t, Q.M.isR, Q.M.op, Q.IK.md, im_seq, im_rng1, im_rng2, im_enum, im_zip, im_rng3, im_items, seq1_sq, zipD_eq, enumD_eq, seqOf_sq, seqOf_l, seqOf_t, seq1_l, seq1_t, len_sq, ix_sq, rev_sq, Option.map_some, Option.bind_some, List.set_cons_zero, List.set_cons_succ, List.map_cons, List.map_nil, unown, List.any_cons, List.any_nil, isOwn, Bool.or_false, Bool.or_true, Bool.false_and, Bool.true_and, Bool.and_false, Bool.and_true, finO, List.length_cons, List.length_nil, List.replicate, List.cons_append, List.nil_append, Nat.reduceSub, Nat.reduceAdd, Nat.sub_self, wipeB, Bool.not_true, Bool.not_false, Option.getD_some, cmpD, ltD, eqD_int, tru_bool, noLst_fq, tru_none, noLst, tup_l, tup_t, tup_sq, list_sq, len_l, len_t, grd_true, bin_addI, bin_subI, ix_l, ix_t, big1, big2]
theorem take_ok (h : es[i]? = some (.code kTake)) : TakeOk es gl fuel i 1 := by
  intro k tp n m hk hT hn h1 h2
  obtain ⟨k, rfl⟩ : ∃ j, k = j + 1 := ⟨k - 1, by omega⟩
  have hl : ((m : Nat) : Int).natAbs.log2 < 9000 := by
    rw [Int.natAbs_natCast]
    exact Nat.lt_of_le_of_lt (Nat.log2_le_self m) (by omega)
  obtain ⟨d, tp', a1, a2, a3, a4⟩ := take_call (gl := gl) (fuel := fuel) (k := k) (n := n) (m := (m : Nat)) (tp := tp) h (by omega) hl hT (Nat.lt_of_le_of_lt hn (by decide +kernel))
  refine ⟨d.toNat, tp', by omega, a3, ?_⟩
  rw [a4, Int.toNat_of_nonneg a1]
theorem bd60 (n : Int) (d : Nat) (hn : n.natAbs ≤ 9) (h1 : 1 ≤ d) (h2 : d ≤ 6) : Bd 60 9 (Rat.divInt n (d : Int)) := by
  rw [Rat.divInt_ofNat]
  have hb : Bd d 9 (mkRat n d) := ⟨h1, n, Nat.le_trans hn (Nat.le_mul_of_pos_right _ h1), rfl⟩
  refine hb.mono ?_ (by decide) (Nat.le_refl _)
  have : d = 1 ∨ d = 2 ∨ d = 3 ∨ d = 4 ∨ d = 5 ∨ d = 6 := by omega
  rcases this with rfl | rfl | rfl | rfl | rfl | rfl <;> decide
theorem law_fraction_ok {jr jt : Nat} (h : es[i]? = some (.code (k_law_fraction jr jt))) (hr : RatioOk es gl fuel jr k0) (ht : TakeOk es gl fuel jt 1) (h1 : 1 ≤ k0) : FracOk es gl fuel i (k0 + 1) := by
  intro k tp n hk hT hn
  obtain ⟨k, rfl⟩ : ∃ j, k = j + 1 := ⟨k - 1, by omega⟩
  obtain ⟨a, t1, a1, a2, a3⟩ := ht k tp n 19 (by omega) hT (by omega) (by decide) (by decide)
  obtain ⟨c, t2, c1, c2, c3⟩ := ht k t1 (n + 1) 6 (by omega) a2 (by omega) (by decide) (by decide)
  have r := hr k t2 ((a : Int) - 9) (1 + (c : Int)) (by omega) (by omega) (Nat.lt_of_lt_of_le (show (1 + (c : Int)).natAbs < 2 ^ 3 by omega) (pow_le (by decide)))
  refine ⟨_, t2, bd60 ((a : Int) - 9) (1 + c) (by omega) (by omega) (by omega), c2, ?_⟩
  rw [call_code h rfl]
  have r' : (((1 + c : Nat)) : Int) = 1 + (c : Int) := by omega
  rw [r']
  rw [show (((19 : Nat)) : Int) = 19 from rfl] at a3
  rw [show (((6 : Nat)) : Int) = 6 from rfl] at c3
  simp only [k_law_fraction, a3, c3, r, xs_nil, xs_cons, x_set, x_setL, x_par, x_unp, x_app, x_ext, x_sub, x_aug, x_ret, x_ife, x_ex, x_cont, x_brk, x_pass, x_frz, x_for, v_var, v_lit, v_glo, v_bin, v_neg, v_cmp, v_chain, v_not, v_and, v_or, v_ite, v_call, v_blt, v_ix, v_slc, v_lst, v_tup, v_lc, v_rev, es_nil', es_cons', ea_nil, ea_cons, argB, thn_nx, thn_rt, thn_ct, thn_br, bind_ok, so_ok, opt_some, bT_nm, bT_tp, bTs_nil, bTs_cons, getB_0, getB_s, fi_v, fi_r, fi_t, Q.M.isR, Q.M.op, Q.IK.md, im_seq, im_rng1, im_rng2, im_enum, im_zip, im_rng3, im_items, seq1_sq, zipD_eq, enumD_eq, seqOf_sq, seqOf_l, seqOf_t, seq1_l, seq1_t, len_sq, ix_sq, rev_sq, Option.map_some, Option.bind_some, List.set_cons_zero, List.set_cons_succ, List.map_cons, List.map_nil, unown, List.any_cons, List.any_nil, isOwn, Bool.or_false, Bool.or_true, Bool.false_and, Bool.true_and, Bool.and_false, Bool.and_true, finO, List.length_cons, List.length_nil, List.replicate, List.cons_append, List.nil_append, Nat.reduceSub, Nat.reduceAdd, Nat.sub_self, wipeB, Bool.not_true, Bool.not_false, Option.getD_some, cmpD, ltD, eqD_int, tru_bool, noLst_fq, tru_none, noLst, tup_l, tup_t, tup_sq, list_sq, len_l, len_t, grd_true, bin_addI, bin_subI, ix_l, ix_t, big1, big2]
end
end Q

set_option Elab.async false
set_option linter.all false
set_option maxRecDepth 100000
set_option exponentiation.threshold 4000
/-! equations of up to three rows: the determinant by all orders, the solution -/
namespace Q
open PySem PySem.Spec L2
open PyProof.Rows hiding St
theorem range2_ (k n : Nat) : List.range' k n = match n with
  | 0 => []
  | n + 1 => k :: List.range' (k + 1) n := by cases n <;> rfl
section
variable {a b c d e f g h i w p q r : Rat}
theorem dst1 : dst 1 ([[a]], w) 0 = if a ≠ 0 then some ([[a]], w * a) else none := by
  by_cases ha : a = 0 <;> simp [dst, plc, en, rw_, dsw, swp, List.range', elD, ha]
theorem dst2_0 : dst 2 ([[a, b], [c, d]], w) 0 = if a ≠ 0 then some ([[a, b], [c - c / a * a, d - c / a * b]], w * a) else if c ≠ 0 then some ([[c, d], [a - a / c * c, b - a / c * d]], (0 - w) * c) else none := by
  by_cases ha : a = 0
  · by_cases hc : c = 0 <;> simp [dst, plc, en, rw_, dsw, swp, List.range', elD, ha, hc]
  · simp [dst, plc, en, rw_, dsw, swp, List.range', elD, ha]
theorem dst2_1 : dst 2 ([[a, b], [c, d]], w) 1 = if d ≠ 0 then some ([[a, b], [c, d]], w * d) else none := by
  by_cases hd : d = 0 <;> simp [dst, plc, en, rw_, dsw, swp, List.range', elD, hd]
theorem dst3_0 : dst 3 ([[a, b, c], [d, e, f], [g, h, i]], w) 0 = if a ≠ 0 then some ([[a, b, c], [d - d / a * a, e - d / a * b, f - d / a * c], [g - g / a * a, h - g / a * b, i - g / a * c]], w * a)
    else if d ≠ 0 then some ([[d, e, f], [a - a / d * d, b - a / d * e, c - a / d * f], [g - g / d * d, h - g / d * e, i - g / d * f]], (0 - w) * d)
    else if g ≠ 0 then some ([[g, h, i], [d - d / g * g, e - d / g * h, f - d / g * i], [a - a / g * g, b - a / g * h, c - a / g * i]], (0 - w) * g) else none := by
  by_cases ha : a = 0
  · by_cases hd : d = 0
    · by_cases hg : g = 0 <;> simp [dst, plc, en, rw_, dsw, swp, List.range', elD, ha, hd, hg]
    · simp [dst, plc, en, rw_, dsw, swp, List.range', elD, ha, hd]
  · simp [dst, plc, en, rw_, dsw, swp, List.range', elD, ha]
theorem dst3_1 : dst 3 ([[a, b, c], [d, e, f], [g, h, i]], w) 1 = if e ≠ 0 then some ([[a, b, c], [d, e, f], [g - h / e * d, h - h / e * e, i - h / e * f]], w * e)
    else if h ≠ 0 then some ([[a, b, c], [g, h, i], [d - e / h * g, e - e / h * h, f - e / h * i]], (0 - w) * h) else none := by
  by_cases he : e = 0
  · by_cases hh : h = 0 <;> simp [dst, plc, en, rw_, dsw, swp, List.range', elD, he, hh]
  · simp [dst, plc, en, rw_, dsw, swp, List.range', elD, he]
theorem dst3_2 : dst 3 ([[a, b, c], [d, e, f], [g, h, i]], w) 2 = if i ≠ 0 then some ([[a, b, c], [d, e, f], [g, h, i]], w * i) else none := by
  by_cases hi : i = 0 <;> simp [dst, plc, en, rw_, dsw, swp, List.range', elD, hi]
theorem det1 : detR [[a]] = a := by
  have e : (List.range 1) = [0] := rfl
  show (match (List.range 1).foldlM (dst 1) ([[a]], 1) with | some s => s.2 | none => 0) = a
  rw [e, List.foldlM_cons, dst1]
  by_cases ha : a = 0
  · simp [ha]
  · simp [ha]
theorem det2 : detR [[a, b], [c, d]] = a * d - b * c := by
  have e : (List.range 2) = [0, 1] := rfl
  show (match (List.range 2).foldlM (dst 2) ([[a, b], [c, d]], 1) with | some s => s.2 | none => 0) = _
  rw [e, List.foldlM_cons, dst2_0]
  by_cases ha : a = 0
  · by_cases hc : c = 0
    · simp [ha, hc]
      grind
    · simp only [ha, hc, ne_eq, not_true, not_false_iff, if_true, if_false, Option.bind_eq_bind, Option.bind_some, List.foldlM_cons, List.foldlM_nil, dst2_1]
      split <;> rename_i hx <;> split at hx <;> simp at hx <;> grind
  · simp only [ha, ne_eq, not_false_iff, if_true, Option.bind_eq_bind, Option.bind_some, List.foldlM_cons, List.foldlM_nil, dst2_1]
    split <;> rename_i hx <;> split at hx <;> simp at hx <;> grind
def fin2 : Option (List (List Rat) × Rat) → Rat
  | some s => s.2
  | none => 0
theorem det3_t : fin2 ([1, 2].foldlM (dst 3) ([[a, b, c], [d, e, f], [g, h, i]], w)) = w * (e * i - f * h) := by
  rw [List.foldlM_cons, dst3_1]
  by_cases he : e = 0
  · by_cases hh : h = 0
    · simp [he, hh, fin2]
      grind
    · simp only [he, hh, ne_eq, not_true, not_false_iff, if_true, if_false, Option.bind_eq_bind, Option.bind_some, List.foldlM_cons, List.foldlM_nil, dst3_2]
      by_cases hx : f - 0 / h * i = 0
      · rw [if_neg (fun z => z hx)]
        show (0 : Rat) = _
        grind
      · rw [if_pos hx]
        show (0 - w) * h * _ = _
        grind
  · simp only [he, ne_eq, not_false_iff, if_true, Option.bind_eq_bind, Option.bind_some, List.foldlM_cons, List.foldlM_nil, dst3_2]
    by_cases hx : i - h / e * f = 0
    · rw [if_neg (fun z => z hx)]
      show (0 : Rat) = _
      grind
    · rw [if_pos hx]
      show w * e * _ = _
      grind
theorem det3 : detR [[a, b, c], [d, e, f], [g, h, i]] = a * e * i + b * f * g + c * d * h - c * e * g - b * d * i - a * f * h := by
  have e0 : (List.range 3) = [0, 1, 2] := rfl
  have e1 : detR [[a, b, c], [d, e, f], [g, h, i]] = fin2 ([0, 1, 2].foldlM (dst 3) ([[a, b, c], [d, e, f], [g, h, i]], 1)) := by
    unfold detR fin2
    rw [show (List.range [[a, b, c], [d, e, f], [g, h, i]].length) = [0, 1, 2] from rfl]
    rfl
  rw [e1, List.foldlM_cons, dst3_0]
  by_cases ha : a = 0
  · by_cases hd : d = 0
    · by_cases hg : g = 0
      · simp [ha, hd, hg, fin2]
        grind
      · simp only [ha, hd, hg, ne_eq, not_true, not_false_iff, if_true, if_false, Option.bind_eq_bind, Option.bind_some, det3_t]
        grind
    · simp only [ha, hd, ne_eq, not_true, not_false_iff, if_true, if_false, Option.bind_eq_bind, Option.bind_some, det3_t]
      grind
  · simp only [ha, ne_eq, not_false_iff, if_true, Option.bind_eq_bind, Option.bind_some, det3_t]
    grind
end
end Q

set_option Elab.async false
set_option linter.all false
set_option maxRecDepth 100000
set_option exponentiation.threshold 4000
/-! equations of up to three rows: the solution -/
namespace Q
open PySem PySem.Spec L2
open PyProof.Rows hiding St
section
variable {a b c d e f g h i w p q r : Rat}
theorem sub0' {x : Rat} : x - 0 = x := by grind
theorem subs' {x : Rat} : x - x = 0 := by grind
theorem zdiv' {x : Rat} : 0 / x = 0 := by rw [Rat.div_def, Rat.zero_mul]
theorem div_self' (h : a ≠ 0) : a / a = 1 := by grind
theorem gj1 : gj 1 [[a, p]] 0 = if a ≠ 0 then some [[1, p / a]] else none := by
  by_cases ha : a = 0
  · simp [sub0', subs', zdiv', gj, plc, en, rw_, swp, scl, elm, List.range', List.range_succ, ha]
  · simp [sub0', subs', zdiv', gj, plc, en, rw_, swp, scl, elm, List.range', List.range_succ, ha, div_self' ha]
theorem gj2_0 : gj 2 [[a, b, p], [c, d, q]] 0 = if a ≠ 0 then some [[1, b / a, p / a], [0, d - c * (b / a), q - c * (p / a)]] else if c ≠ 0 then some [[1, d / c, q / c], [0, b, p]] else none := by
  by_cases ha : a = 0
  · by_cases hc : c = 0
    · simp [sub0', subs', zdiv', gj, plc, en, rw_, swp, scl, elm, List.range', List.range_succ, ha, hc]
    · simp [sub0', subs', zdiv', gj, plc, en, rw_, swp, scl, elm, List.range', List.range_succ, ha, hc, div_self' hc]
  · by_cases hc : c = 0
    · simp [sub0', subs', zdiv', gj, plc, en, rw_, swp, scl, elm, List.range', List.range_succ, ha, hc, div_self' ha]
    · simp [sub0', subs', zdiv', gj, plc, en, rw_, swp, scl, elm, List.range', List.range_succ, ha, hc, div_self' ha]
theorem gj2_1 : gj 2 [[1, b, p], [0, d, q]] 1 = if d ≠ 0 then some [[1, 0, p - b * (q / d)], [0, 1, q / d]] else none := by
  by_cases hd : d = 0
  · simp [sub0', subs', zdiv', gj, plc, en, rw_, swp, scl, elm, List.range', List.range_succ, hd]
  · by_cases hb : b = 0
    · simp [sub0', subs', zdiv', gj, plc, en, rw_, swp, scl, elm, List.range', List.range_succ, hd, hb, div_self' hd]
    · simp [sub0', subs', zdiv', gj, plc, en, rw_, swp, scl, elm, List.range', List.range_succ, hd, hb, div_self' hd]
theorem gj3_0 : gj 3 [[a, b, c, p], [d, e, f, q], [g, h, i, r]] 0 = if a ≠ 0 then some [[1, b / a, c / a, p / a], [0, e - d * (b / a), f - d * (c / a), q - d * (p / a)], [0, h - g * (b / a), i - g * (c / a), r - g * (p / a)]]
    else if d ≠ 0 then some [[1, e / d, f / d, q / d], [0, b, c, p], [0, h - g * (e / d), i - g * (f / d), r - g * (q / d)]]
    else if g ≠ 0 then some [[1, h / g, i / g, r / g], [0, e, f, q], [0, b, c, p]] else none := by
  by_cases ha : a = 0
  · by_cases hd : d = 0
    · by_cases hg : g = 0
      · simp [sub0', subs', zdiv', gj, plc, en, rw_, swp, scl, elm, List.range', List.range_succ, ha, hd, hg]
      · simp [sub0', subs', zdiv', gj, plc, en, rw_, swp, scl, elm, List.range', List.range_succ, ha, hd, hg, div_self' hg]
    · by_cases hg : g = 0
      · simp [sub0', subs', zdiv', gj, plc, en, rw_, swp, scl, elm, List.range', List.range_succ, ha, hd, hg, div_self' hd]
      · simp [sub0', subs', zdiv', gj, plc, en, rw_, swp, scl, elm, List.range', List.range_succ, ha, hd, hg, div_self' hd]
  · by_cases hd : d = 0
    · by_cases hg : g = 0
      · simp [sub0', subs', zdiv', gj, plc, en, rw_, swp, scl, elm, List.range', List.range_succ, ha, hd, hg, div_self' ha]
      · simp [sub0', subs', zdiv', gj, plc, en, rw_, swp, scl, elm, List.range', List.range_succ, ha, hd, hg, div_self' ha]
    · by_cases hg : g = 0
      · simp [sub0', subs', zdiv', gj, plc, en, rw_, swp, scl, elm, List.range', List.range_succ, ha, hd, hg, div_self' ha]
      · simp [sub0', subs', zdiv', gj, plc, en, rw_, swp, scl, elm, List.range', List.range_succ, ha, hd, hg, div_self' ha]
theorem gj3_1 : gj 3 [[1, b, c, p], [0, e, f, q], [0, h, i, r]] 1 = if e ≠ 0 then some [[1, 0, c - b * (f / e), p - b * (q / e)], [0, 1, f / e, q / e], [0, 0, i - h * (f / e), r - h * (q / e)]]
    else if h ≠ 0 then some [[1, 0, c - b * (i / h), p - b * (r / h)], [0, 1, i / h, r / h], [0, 0, f, q]] else none := by
  by_cases he : e = 0
  · by_cases hh : h = 0
    · simp [sub0', subs', zdiv', gj, plc, en, rw_, swp, scl, elm, List.range', List.range_succ, he, hh]
    · by_cases hb : b = 0
      · simp [sub0', subs', zdiv', gj, plc, en, rw_, swp, scl, elm, List.range', List.range_succ, he, hh, hb, div_self' hh]
      · simp [sub0', subs', zdiv', gj, plc, en, rw_, swp, scl, elm, List.range', List.range_succ, he, hh, hb, div_self' hh]
  · by_cases hh : h = 0
    · by_cases hb : b = 0
      · simp [sub0', subs', zdiv', gj, plc, en, rw_, swp, scl, elm, List.range', List.range_succ, he, hh, hb, div_self' he]
      · simp [sub0', subs', zdiv', gj, plc, en, rw_, swp, scl, elm, List.range', List.range_succ, he, hh, hb, div_self' he]
    · by_cases hb : b = 0
      · simp [sub0', subs', zdiv', gj, plc, en, rw_, swp, scl, elm, List.range', List.range_succ, he, hh, hb, div_self' he]
      · simp [sub0', subs', zdiv', gj, plc, en, rw_, swp, scl, elm, List.range', List.range_succ, he, hh, hb, div_self' he]
theorem gj3_2 : gj 3 [[1, 0, c, p], [0, 1, f, q], [0, 0, i, r]] 2 = if i ≠ 0 then some [[1, 0, 0, p - c * (r / i)], [0, 1, 0, q - f * (r / i)], [0, 0, 1, r / i]] else none := by
  by_cases hi : i = 0
  · simp [sub0', subs', zdiv', gj, plc, en, rw_, swp, scl, elm, List.range', List.range_succ, hi]
  · by_cases hc : c = 0 <;> by_cases hf : f = 0 <;> simp [sub0', subs', zdiv', gj, plc, en, rw_, swp, scl, elm, List.range', List.range_succ, hi, hc, hf, div_self' hi]
def lstC (T : List (List Rat)) : List Rat := T.map fun r => (r[r.length - 1]?).getD 0
theorem sol1 : match solvedR [[a]] [p] with
    | some s => ∃ x, s = [x] ∧ a * x = p ∧ a ≠ 0
    | none => a = 0 := by
  show match (([0].foldlM (gj 1) [[a, p]]).map lstC) with | some s => ∃ x, s = [x] ∧ a * x = p ∧ a ≠ 0 | none => a = 0
  rw [List.foldlM_cons, gj1]
  by_cases ha : a = 0
  · rw [if_neg (fun z => z ha)]
    exact ha
  · rw [if_pos ha]
    exact ⟨p / a, rfl, by grind, ha⟩
theorem sol2_t : match [1].foldlM (gj 2) [[1, b, p], [0, d, q]] with
    | some T => ∃ x y, T = [[1, 0, x], [0, 1, y]] ∧ x + b * y = p ∧ d * y = q ∧ d ≠ 0
    | none => d = 0 := by
  rw [List.foldlM_cons, gj2_1]
  by_cases hd : d = 0
  · rw [if_neg (fun z => z hd)]
    exact hd
  · rw [if_pos hd]
    exact ⟨_, _, rfl, by grind, by grind, hd⟩
theorem sol2 : match solvedR [[a, b], [c, d]] [p, q] with
    | some s => ∃ x y, s = [x, y] ∧ a * x + b * y = p ∧ c * x + d * y = q ∧ a * d - b * c ≠ 0
    | none => a * d - b * c = 0 := by
  show match (([0, 1].foldlM (gj 2) [[a, b, p], [c, d, q]]).map lstC) with | some s => ∃ x y, s = [x, y] ∧ a * x + b * y = p ∧ c * x + d * y = q ∧ a * d - b * c ≠ 0 | none => a * d - b * c = 0
  rw [List.foldlM_cons, gj2_0]
  by_cases ha : a = 0
  · rw [if_neg (fun z => z ha)]
    by_cases hc : c = 0
    · rw [if_neg (fun z => z hc)]
      show a * d - b * c = 0
      grind
    · rw [if_pos hc]
      have z := sol2_t (b := d / c) (p := q / c) (d := b) (q := p)
      show match ([1].foldlM (gj 2) [[1, d / c, q / c], [0, b, p]]).map lstC with | some s => _ | none => _
      revert z
      cases [1].foldlM (gj 2) [[1, d / c, q / c], [0, b, p]] with
      | none => exact fun z => show a * d - b * c = 0 by dsimp only at z; grind
      | some T =>
        rintro ⟨x, y, rfl, h1, h2, h3⟩
        exact ⟨x, y, rfl, by grind, by grind, by grind⟩
  · rw [if_pos ha]
    have z := sol2_t (b := b / a) (p := p / a) (d := d - c * (b / a)) (q := q - c * (p / a))
    show match ([1].foldlM (gj 2) [[1, b / a, p / a], [0, d - c * (b / a), q - c * (p / a)]]).map lstC with | some s => _ | none => _
    revert z
    cases [1].foldlM (gj 2) [[1, b / a, p / a], [0, d - c * (b / a), q - c * (p / a)]] with
    | none => exact fun z => show a * d - b * c = 0 by dsimp only at z; grind
    | some T =>
      rintro ⟨x, y, rfl, h1, h2, h3⟩
      exact ⟨x, y, rfl, by grind, by grind, by grind⟩
theorem sol3_l : match [2].foldlM (gj 3) [[1, 0, c, p], [0, 1, f, q], [0, 0, i, r]] with
    | some T => ∃ x y z, T = [[1, 0, 0, x], [0, 1, 0, y], [0, 0, 1, z]] ∧ x + c * z = p ∧ y + f * z = q ∧ i * z = r ∧ i ≠ 0
    | none => i = 0 := by
  rw [List.foldlM_cons, gj3_2]
  by_cases hi : i = 0
  · rw [if_neg (fun z => z hi)]
    exact hi
  · rw [if_pos hi]
    exact ⟨_, _, _, rfl, by grind, by grind, by grind, hi⟩
theorem sol3_t : match [1, 2].foldlM (gj 3) [[1, b, c, p], [0, e, f, q], [0, h, i, r]] with
    | some T => ∃ x y z, T = [[1, 0, 0, x], [0, 1, 0, y], [0, 0, 1, z]] ∧ x + b * y + c * z = p ∧ e * y + f * z = q ∧ h * y + i * z = r ∧ e * i - f * h ≠ 0
    | none => e * i - f * h = 0 := by
  rw [List.foldlM_cons, gj3_1]
  by_cases he : e = 0
  · rw [if_neg (fun z => z he)]
    by_cases hh : h = 0
    · rw [if_neg (fun z => z hh)]
      show e * i - f * h = 0
      grind
    · rw [if_pos hh]
      have z := sol3_l (c := c - b * (i / h)) (p := p - b * (r / h)) (f := i / h) (q := r / h) (i := f) (r := q)
      show match [2].foldlM (gj 3) [[1, 0, c - b * (i / h), p - b * (r / h)], [0, 1, i / h, r / h], [0, 0, f, q]] with | some T => _ | none => _
      revert z
      cases [2].foldlM (gj 3) [[1, 0, c - b * (i / h), p - b * (r / h)], [0, 1, i / h, r / h], [0, 0, f, q]] with
      | none => exact fun z => show e * i - f * h = 0 by dsimp only at z; grind
      | some T =>
        rintro ⟨x, y, z, rfl, h1, h2, h3, h4⟩
        exact ⟨x, y, z, rfl, by grind, by grind, by grind, by grind⟩
  · rw [if_pos he]
    have z := sol3_l (c := c - b * (f / e)) (p := p - b * (q / e)) (f := f / e) (q := q / e) (i := i - h * (f / e)) (r := r - h * (q / e))
    show match [2].foldlM (gj 3) [[1, 0, c - b * (f / e), p - b * (q / e)], [0, 1, f / e, q / e], [0, 0, i - h * (f / e), r - h * (q / e)]] with | some T => _ | none => _
    revert z
    cases [2].foldlM (gj 3) [[1, 0, c - b * (f / e), p - b * (q / e)], [0, 1, f / e, q / e], [0, 0, i - h * (f / e), r - h * (q / e)]] with
    | none => exact fun z => show e * i - f * h = 0 by dsimp only at z; grind
    | some T =>
      rintro ⟨x, y, z, rfl, h1, h2, h3, h4⟩
      exact ⟨x, y, z, rfl, by grind, by grind, by grind, by grind⟩
abbrev d3 (a b c d e f g h i : Rat) : Rat := a * e * i + b * f * g + c * d * h - c * e * g - b * d * i - a * f * h
theorem sol3 : match solvedR [[a, b, c], [d, e, f], [g, h, i]] [p, q, r] with
    | some s => ∃ x y z, s = [x, y, z] ∧ a * x + b * y + c * z = p ∧ d * x + e * y + f * z = q ∧ g * x + h * y + i * z = r ∧ d3 a b c d e f g h i ≠ 0
    | none => d3 a b c d e f g h i = 0 := by
  show match (([0, 1, 2].foldlM (gj 3) [[a, b, c, p], [d, e, f, q], [g, h, i, r]]).map lstC) with | some s => ∃ x y z, s = [x, y, z] ∧ a * x + b * y + c * z = p ∧ d * x + e * y + f * z = q ∧ g * x + h * y + i * z = r ∧ d3 a b c d e f g h i ≠ 0 | none => d3 a b c d e f g h i = 0
  rw [List.foldlM_cons, gj3_0]
  by_cases ha : a = 0
  · rw [if_neg (fun z => z ha)]
    by_cases hd : d = 0
    · rw [if_neg (fun z => z hd)]
      by_cases hg : g = 0
      · rw [if_neg (fun z => z hg)]
        show d3 a b c d e f g h i = 0
        grind
      · rw [if_pos hg]
        have z := sol3_t (b := h / g) (c := i / g) (p := r / g) (e := e) (f := f) (q := q) (h := b) (i := c) (r := p)
        show match ([1, 2].foldlM (gj 3) [[1, h / g, i / g, r / g], [0, e, f, q], [0, b, c, p]]).map lstC with | some s => _ | none => _
        revert z
        cases [1, 2].foldlM (gj 3) [[1, h / g, i / g, r / g], [0, e, f, q], [0, b, c, p]] with
        | none => exact fun z => show d3 a b c d e f g h i = 0 by dsimp only at z; grind
        | some T =>
          rintro ⟨x, y, z, rfl, h1, h2, h3, h4⟩
          exact ⟨x, y, z, rfl, by grind, by grind, by grind, by grind⟩
    · rw [if_pos hd]
      have z := sol3_t (b := e / d) (c := f / d) (p := q / d) (e := b) (f := c) (q := p) (h := h - g * (e / d)) (i := i - g * (f / d)) (r := r - g * (q / d))
      show match ([1, 2].foldlM (gj 3) [[1, e / d, f / d, q / d], [0, b, c, p], [0, h - g * (e / d), i - g * (f / d), r - g * (q / d)]]).map lstC with | some s => _ | none => _
      revert z
      cases [1, 2].foldlM (gj 3) [[1, e / d, f / d, q / d], [0, b, c, p], [0, h - g * (e / d), i - g * (f / d), r - g * (q / d)]] with
      | none => exact fun z => show d3 a b c d e f g h i = 0 by dsimp only at z; grind
      | some T =>
        rintro ⟨x, y, z, rfl, h1, h2, h3, h4⟩
        exact ⟨x, y, z, rfl, by grind, by grind, by grind, by grind⟩
  · rw [if_pos ha]
    have z := sol3_t (b := b / a) (c := c / a) (p := p / a) (e := e - d * (b / a)) (f := f - d * (c / a)) (q := q - d * (p / a)) (h := h - g * (b / a)) (i := i - g * (c / a)) (r := r - g * (p / a))
    show match ([1, 2].foldlM (gj 3) [[1, b / a, c / a, p / a], [0, e - d * (b / a), f - d * (c / a), q - d * (p / a)], [0, h - g * (b / a), i - g * (c / a), r - g * (p / a)]]).map lstC with | some s => _ | none => _
    revert z
    cases [1, 2].foldlM (gj 3) [[1, b / a, c / a, p / a], [0, e - d * (b / a), f - d * (c / a), q - d * (p / a)], [0, h - g * (b / a), i - g * (c / a), r - g * (p / a)]] with
    | none => exact fun z => show d3 a b c d e f g h i = 0 by dsimp only at z; grind
    | some T =>
      rintro ⟨x, y, z, rfl, h1, h2, h3, h4⟩
      exact ⟨x, y, z, rfl, by grind, by grind, by grind, by grind⟩
end
end Q

set_option Elab.async false
set_option linter.all false
set_option maxRecDepth 100000
set_option exponentiation.threshold 4000
/-! mirrors as facts on fractions; texts; refusals; loops that draw -/
namespace Q
open PySem PySem.Spec L2
open PyProof.Rows hiding St
def strB (i : Int) : Bool := match bltD .str1 [.int i] with
  | some (.str s) => Nat.ble s.length 100 && SeqAt.shaped (.str s)
  | _ => false
theorem strB_all : ((List.range 541).all fun n => strB (n : Nat) && strB (-(n : Nat))) = true := by decide +kernel
theorem str_some {i : Int} (h : i.natAbs ≤ 540) : ∃ s : Str, bltD .str1 [.int i] = some (.str s) ∧ s.length ≤ 100 ∧ SeqAt.shaped (.str s) = true := by
  have h1 := List.all_eq_true.mp strB_all i.natAbs (List.mem_range.mpr (by omega))
  rw [Bool.and_eq_true] at h1
  have h2 : strB i = true := by
    rcases Int.natAbs_eq i with z | z
    · rw [z]; exact h1.1
    · rw [z]; exact h1.2
  unfold strB at h2
  split at h2
  · rename_i s hs
    rw [Bool.and_eq_true] at h2
    exact ⟨s, hs, Nat.le_of_ble_eq_true h2.1, h2.2⟩
  · cases h2
theorem add_str {a b : Str} (h : a.length + b.length ≤ 1000) : addD (.str a) (.str b) = some (.str (a ++ b)) := by
  show grd (big (a.length + b.length)) _ = _
  have : big (a.length + b.length) = true := Nat.ble_eq_true_of_le (by omega)
  rw [this]
  rfl
theorem len_str {a b : Str} : (a ++ b).length = a.length + b.length := by
  show (a.cps ++ b.cps).size = _
  rw [Array.size_append]
  rfl
theorem sh_str {s : Str} : SeqAt.shaped (.str s) = s.cps.all fun x => decide (x < 0x110000) := by
  show ((s.cps.all fun x => decide (x < 0x110000)) && true) = _
  rw [Bool.and_true]
theorem sh_add {a b : Str} (h : SeqAt.shaped (.str a) = true) (h' : SeqAt.shaped (.str b) = true) : SeqAt.shaped (.str (a ++ b)) = true := by
  rw [sh_str] at *
  show (a.cps ++ b.cps).all _ = true
  rw [Array.all_append, h, h']
  rfl
theorem Bd.num {D M : Nat} {q : Rat} (h : Bd D M q) : q.num.natAbs ≤ M * D ∧ q.den ≤ D := by
  obtain ⟨hD, n, hn, rfl⟩ := h
  have hd0 : D ≠ 0 := by omega
  have hg : 0 < Nat.gcd n.natAbs D := Nat.gcd_pos_of_pos_right _ hD
  constructor
  · rw [Rat.num_mkRat]
    have e : (n / ((Nat.gcd n.natAbs D : Nat) : Int)).natAbs ≤ n.natAbs := Int.natAbs_ediv_le_natAbs _ _
    have e2 : (n / ((Nat.gcd D n.natAbs : Nat) : Int)).natAbs ≤ n.natAbs := Int.natAbs_ediv_le_natAbs _ _
    first
      | omega
      | (split <;> omega)
  · rw [Rat.den_mkRat]
    have : D / Nat.gcd n.natAbs D ≤ D := Nat.div_le_self _ _
    have : D / Nat.gcd D n.natAbs ≤ D := Nat.div_le_self _ _
    first
      | omega
      | (split <;> omega)
theorem text_some {q : Rat} (h : q.num.natAbs ≤ 540 ∧ q.den ≤ 540) : ∃ s : Str, textD q = some (.str s) ∧ SeqAt.shaped (.str s) = true := by
  obtain ⟨a, a1, a2, a3⟩ := str_some (i := q.num) h.1
  obtain ⟨c, c1, c2, c3⟩ := str_some (i := (q.den : Int)) (by simpa using h.2)
  unfold textD
  cases decide (q.den = 1) with
  | true => exact ⟨a, a1, a3⟩
  | false =>
    have l1 : ("/" : Str).length = 1 := rfl
    refine ⟨a ++ "/" ++ c, ?_, sh_add (sh_add a3 (by decide +kernel)) c3⟩
    show (bltD .str1 [.int q.num]).bind _ = _
    rw [a1, Option.bind_some, add_str (b := "/") (by omega), Option.bind_some, c1, Option.bind_some, add_str (by rw [len_str]; omega)]
theorem eq_str {s : Str} (h : SeqAt.shaped (.str s) = true) : eqD (.str s) (.str s) = some true := by
  show grd _ (PyData.eqv (.str s) (.str s)) = _
  have : PyData.eqv (.str s) (.str s) = true := by simp [PyData.eqv]
  rw [this, h]
  rfl
theorem eq_bool {x : Bool} : eqD (.bool x) (.bool x) = some true := by cases x <;> rfl
theorem eq_i2 {p q r s : Int} : eqD (.tuple [.int p, .int q]) (.tuple [.int r, .int s]) = some (p == r && q == s) := by
  show some (PyData.eqv (.tuple [.int p, .int q]) (.tuple [.int r, .int s])) = _
  congr 1
  simp [PyData.eqv, PyData.eqvAll]
section
variable {α β : Type} {c : Nat} {t tp : Tp} {env : QE} {f : QE → Tp → SO} {g : α → Tp → Out β} {h : α → Tp → SO}
theorem bind_exc : (Out.exc c t : Out α).bnd g = .exc c t := Eq.trans rfl rfl
theorem v_rfs {Γ : Sm} {m : M} {a : C} {cs : List Nat} : ev Γ m (.rfs a cs) env tp = fin m (match ev Γ .r a env tp with
    | .ok _ t => .ok (.bool false) t
    | .exc c t => match cs.contains c with
      | true => .ok (.bool true) t
      | false => .bad
    | .bad => .bad) := by
  (conv => lhs; unfold ev) <;> rfl
end
theorem con0 : List.contains [0] 0 = true := rfl
/-! ### loops that draw -/
theorem lc_draw {β γ : Type} {f : D → Tp → Out (Option D)} {e : β → D} {g : γ → D} {R : γ → Prop} {c N : Nat} : ∀ {xs : List β} {acc : List D} {n : Nat} {tp : Tp}, (∀ x ∈ xs, ∀ n tp, TpN n tp → n ≤ N → ∃ q tp', R q ∧ TpN (n + c) tp' ∧ f (e x) tp = .ok (some (g q)) tp') → TpN n tp → n + xs.length * c ≤ N →
    ∃ (qs : List γ) (tp' : Tp), qs.length = xs.length ∧ (∀ q ∈ qs, R q) ∧ TpN (n + xs.length * c) tp' ∧ lcGo f (xs.map e) acc tp = .ok (acc ++ qs.map g) tp'
  | [], acc, n, tp, _, hT, _ => ⟨[], tp, rfl, (fun _ h => by cases h), by simpa using hT, by simp [lcGo]⟩
  | x :: xs, acc, n, tp, h, hT, hN => by
    rw [List.length_cons, Nat.succ_mul] at hN
    obtain ⟨q, t1, r1, r2, r3⟩ := h x (List.mem_cons_self ..) n tp hT (by omega)
    obtain ⟨qs, t2, s1, s2, s3, s4⟩ := lc_draw (xs := xs) (acc := acc ++ [g q]) (fun y hy => h y (List.mem_cons_of_mem _ hy)) r2 (by omega)
    refine ⟨q :: qs, t2, by simp [s1], fun z hz => ?_, ?_, ?_⟩
    · rcases List.mem_cons.mp hz with rfl | hz
      · exact r1
      · exact s2 z hz
    · rw [List.length_cons, Nat.succ_mul, show n + (xs.length * c + c) = n + c + xs.length * c by omega]
      exact s3
    · unfold lcGo
      rw [List.map_cons]
      dsimp only
      rw [r3]
      show lcGo f (xs.map e) (acc ++ [g q]) t1 = _
      rw [s4]
      simp
theorem for_draw {β : Type} {f : D → QE → Tp → SO} {e : β → D} {P : QE → Prop} {c N : Nat} : ∀ {xs : List β} {n : Nat} {env : QE} {tp : Tp}, (∀ x ∈ xs, ∀ n env tp, P env → TpN n tp → n ≤ N → ∃ env' tp', P env' ∧ TpN (n + c) tp' ∧ f (e x) env tp = .nx env' tp') → P env → TpN n tp → n + xs.length * c ≤ N →
    ∃ env' tp', P env' ∧ TpN (n + xs.length * c) tp' ∧ forGo f (xs.map e) env tp = .nx env' tp'
  | [], n, env, tp, _, hP, hT, _ => ⟨env, tp, hP, by simpa using hT, rfl⟩
  | x :: xs, n, env, tp, h, hP, hT, hN => by
    rw [List.length_cons, Nat.succ_mul] at hN
    obtain ⟨e1, t1, r1, r2, r3⟩ := h x (List.mem_cons_self ..) n env tp hP hT (by omega)
    obtain ⟨e2, t2, s1, s2, s3⟩ := for_draw (fun y hy => h y (List.mem_cons_of_mem _ hy)) r1 r2 (by omega)
    refine ⟨e2, t2, s1, ?_, ?_⟩
    · rw [List.length_cons, Nat.succ_mul, show n + (xs.length * c + c) = n + c + xs.length * c by omega]
      exact s2
    · rw [List.map_cons]
      unfold forGo
      rw [r3]
      exact s3
/-! ### mirrors -/
section
variable {es : List Ent} {gl : Str → Option D} {fuel : Nat} {i k1 : Nat}
theorem mir2 {mf : List B → Tp → Out D} {bs : List B} {tp : Tp} {d : D} {k : Nat} (h : ∀ k, k1 ≤ k + 1 → ∀ bs tp, mf bs tp = .bad ∨ callC es gl fuel (k + 1) i bs tp = mf bs tp) (h1 : 1 ≤ k1) (hk : k1 ≤ k) (e : mf bs tp = .ok d tp) : callC es gl fuel k i bs tp = .ok d tp := by
  obtain ⟨k, rfl⟩ : ∃ j, k = j + 1 := ⟨k - 1, by omega⟩
  rcases h k hk bs tp with z | z
  · rw [e] at z
    cases z
  · rw [z, e]
theorem plus_of (h : ∀ k, k1 ≤ k + 1 → ∀ bs tp, mOp (fun a b c d => a * d + c * b) (fun a b c d => b * d) bs tp = .bad ∨ callC es gl fuel (k + 1) i bs tp = mOp (fun a b c d => a * d + c * b) (fun a b c d => b * d) bs tp) (h1 : 1 ≤ k1 := by decide) : PlusOk es gl fuel i k1 := fun k tp x y hk hx hy _ => mir2 h h1 hk (mPlus_fq hx hy)
theorem minus_of (h : ∀ k, k1 ≤ k + 1 → ∀ bs tp, mOp (fun a b c d => a * d - c * b) (fun a b c d => b * d) bs tp = .bad ∨ callC es gl fuel (k + 1) i bs tp = mOp (fun a b c d => a * d - c * b) (fun a b c d => b * d) bs tp) (h1 : 1 ≤ k1 := by decide) : MinusOk es gl fuel i k1 := fun k tp x y hk hx hy _ => mir2 h h1 hk (mMinus_fq hx hy)
theorem times_of (h : ∀ k, k1 ≤ k + 1 → ∀ bs tp, mOp (fun a b c d => a * c) (fun a b c d => b * d) bs tp = .bad ∨ callC es gl fuel (k + 1) i bs tp = mOp (fun a b c d => a * c) (fun a b c d => b * d) bs tp) (h1 : 1 ≤ k1 := by decide) : TimesOk es gl fuel i k1 := fun k tp x y hk hx hy _ => mir2 h h1 hk (mTimes_fq hx hy)
theorem over_of (h : ∀ k, k1 ≤ k + 1 → ∀ bs tp, mOp (fun a b c d => a * d) (fun a b c d => b * c) bs tp = .bad ∨ callC es gl fuel (k + 1) i bs tp = mOp (fun a b c d => a * d) (fun a b c d => b * c) bs tp) (h1 : 1 ≤ k1 := by decide) : OverOk es gl fuel i k1 := fun k tp x y hk hx hy h0 => mir2 h h1 hk (mOver_fq hx hy h0)
theorem less_of (h : ∀ k, k1 ≤ k + 1 → ∀ bs tp, mLess bs tp = .bad ∨ callC es gl fuel (k + 1) i bs tp = mLess bs tp) (h1 : 1 ≤ k1 := by decide) : LessOk es gl fuel i k1 := fun k tp x y hk hx hy => mir2 h h1 hk (mLess_fq hx hy)
theorem ratio_of (h : ∀ k, k1 ≤ k + 1 → ∀ bs tp, mShare bs tp = .bad ∨ callC es gl fuel (k + 1) i bs tp = mShare bs tp) (h1 : 1 ≤ k1 := by decide) : RatioOk es gl fuel i k1 := fun k tp n d hk h0 hl => mir2 h h1 hk (mShare_int h0 hl)
theorem over_zero {s : Nat} (h : es[i]? = some (.code (kOver s))) (hs : es[s]? = some (.code kShare)) (hf : 6001 ≤ fuel) {k : Nat} {tp : Tp} {x : Rat} (hk : 2 ≤ k) (hx : SmQ x) : callC es gl fuel k i [.val (fq x), .val (fq 0)] tp = .exc 0 tp := by
  obtain ⟨k, rfl⟩ : ∃ j, k = j + 1 := ⟨k - 1, by omega⟩
  have e : mOpX (fun a b c d => a * d) (fun a b c d => b * c) [.val (fq x), .val (fq 0)] tp = .exc 0 tp := by
    show (match (smI x.num && smI (x.den : Int)) && (smI 0 && smI 1) && decide ((x.den : Int) * 0 = 0) with
      | true => Out.exc 0 tp
      | false => _) = _
    rw [hx.i1, hx.i2, Int.mul_zero]
    rfl
  rcases over_mirrorX (gl := gl) h hs hf k hk [.val (fq x), .val (fq 0)] tp with z | z
  · rw [e] at z
    cases z
  · rw [z, e]
end
end Q

set_option Elab.async false
set_option linter.all false
set_option maxRecDepth 100000
set_option exponentiation.threshold 4000
/-! equations of up to three rows, drawn: all orders, bounds of the solution -/
namespace Q
open PySem PySem.Spec L2
open PyProof.Rows hiding St
def ords : Nat → List (List Nat × Int)
  | 1 => [([0], 1)]
  | 2 => [([0, 1], 1), ([1, 0], -1)]
  | 3 => [([0, 1, 2], 1), ([0, 2, 1], -1), ([1, 0, 2], -1), ([1, 2, 0], 1), ([2, 0, 1], 1), ([2, 1, 0], -1)]
  | _ => []
def prodT (T : List (List Rat)) (n : Nat) (o : List Nat × Int) : Rat := (List.range n).foldl (fun p k => p * en T k ((o.1[k]?).getD 0)) (o.2 : Rat)
theorem len_1 {α : Type} {l : List α} (h : l.length = 1) : ∃ a, l = [a] := by
  match l, h with
  | [a], _ => exact ⟨a, rfl⟩
theorem len_2 {α : Type} {l : List α} (h : l.length = 2) : ∃ a b, l = [a, b] := by
  match l, h with
  | [a, b], _ => exact ⟨a, b, rfl⟩
theorem len_3 {α : Type} {l : List α} (h : l.length = 3) : ∃ a b c, l = [a, b, c] := by
  match l, h with
  | [a, b, c], _ => exact ⟨a, b, c, rfl⟩
/-- parts of one number: x = (x y) / y -/
theorem quot_rw {D M : Nat} {y : Rat} {l : List Rat} (hl : l.length ≤ 1000) (hy : Bd D M y) (h0 : y ≠ 0) (h : ∀ x ∈ l, Bd D M (x * y)) (hM : M * D < 2 ^ 30) : Rw 30 30 l := by
  obtain ⟨hD, n, hn, rfl⟩ := hy
  have hn0 : n ≠ 0 := fun e => h0 (by subst e; simp)
  refine ⟨hl, n.natAbs, by omega, by omega, fun x hx => ?_⟩
  obtain ⟨_, m, hm, e⟩ := h x hx
  refine ⟨by omega, if n < 0 then -m else m, ?_, ?_⟩
  · have h2 : (if n < 0 then -m else m).natAbs = m.natAbs := by split <;> simp
    rw [h2]
    exact Nat.le_trans (Nat.le_trans hm (Nat.le_of_lt hM)) (Nat.le_mul_of_pos_right _ (by omega))
  · have ex : x = mkRat m D / mkRat n D := by rw [← e]; grind
    have hq : (mkRat m D) / (mkRat n D) = Rat.divInt m n := by
      rw [← Rat.divInt_ofNat, ← Rat.divInt_ofNat, Rat.div_def, Rat.inv_divInt, Rat.divInt_mul_divInt, Int.mul_comm m, Rat.divInt_mul_left (by omega)]
    rw [ex, hq, ← Rat.divInt_ofNat]
    by_cases hs : n < 0
    · rw [if_pos hs, show ((n.natAbs : Nat) : Int) = -n by omega, Rat.neg_divInt_neg]
    · rw [if_neg hs, show ((n.natAbs : Nat) : Int) = n by omega]
theorem Bd.d2 {a b c d : Rat} {D M : Nat} (ha : Bd D M a) (hb : Bd D M b) (hc : Bd D M c) (hd : Bd D M d) : Bd (D * D) (2 * (M * M)) (a * d - b * c) :=
  ((ha.mul hd).sub (hb.mul hc)).le (by omega)
theorem Bd.d3 {a b c d e f g h i : Rat} {D M : Nat} (ha : Bd D M a) (hb : Bd D M b) (hc : Bd D M c) (hd : Bd D M d) (he : Bd D M e) (hf : Bd D M f) (hg : Bd D M g) (hh : Bd D M h) (hi : Bd D M i) : Bd (D * D * D) (6 * (M * M * M)) (d3 a b c d e f g h i) :=
  (((((((ha.mul he).mul hi).add ((hb.mul hf).mul hg)).add ((hc.mul hd).mul hh)).sub ((hc.mul he).mul hg)).sub ((hb.mul hd).mul hi)).sub ((ha.mul hf).mul hh)).le (by omega)
theorem eqs_ok {s : Nat} {T : List (List Rat)} {aims : List Rat} (h1 : 1 ≤ s) (h3 : s ≤ 3) (hT : T.length = s) (hr : ∀ r ∈ T, r.length = s ∧ ∀ q ∈ r, Bd 60 9 q) (ha : aims.length = s) (hq : ∀ q ∈ aims, Bd 60 9 q) :
    detR T = ((ords s).map (prodT T s)).sum ∧ match solvedR T aims with
      | none => detR T = 0
      | some x => detR T ≠ 0 ∧ x.length = s ∧ (∀ k, k < s → dotR (rw_ T k) x = (aims[k]?).getD 0) ∧ Rw 30 30 x := by
  have hs : s = 1 ∨ s = 2 ∨ s = 3 := by omega
  rcases hs with rfl | rfl | rfl
  · obtain ⟨r, rfl⟩ := len_1 hT
    obtain ⟨p, rfl⟩ := len_1 ha
    obtain ⟨a, rfl⟩ := len_1 (hr r (by simp)).1
    have ba := (hr [a] (by simp)).2 a (by simp)
    have bp := hq p (by simp)
    rw [det1]
    refine ⟨?_, ?_⟩
    · simp [ords, prodT, en, List.range_succ]
      try grind
    · have z := sol1 (a := a) (p := p)
      revert z
      cases solvedR [[a]] [p] with
      | none => exact fun z => z
      | some x =>
        rintro ⟨x, rfl, e1, e2⟩
        refine ⟨e2, rfl, fun k hk => ?_, quot_rw (by simp) ba e2 (fun y hy => ?_) (by decide)⟩
        · have : k = 0 := by omega
          subst this
          simp [dotR, rw_]
          grind
        · have : y = x := by simpa using hy
          subst this
          rw [show y * a = p by grind]
          exact bp
  · obtain ⟨r, t, rfl⟩ := len_2 hT
    obtain ⟨p, q, rfl⟩ := len_2 ha
    obtain ⟨a, b, rfl⟩ := len_2 (hr r (by simp)).1
    obtain ⟨c, d, rfl⟩ := len_2 (hr t (by simp)).1
    have ba := (hr [a, b] (by simp)).2 a (by simp)
    have bb := (hr [a, b] (by simp)).2 b (by simp)
    have bc := (hr [c, d] (by simp)).2 c (by simp)
    have bd := (hr [c, d] (by simp)).2 d (by simp)
    have bp := hq p (by simp)
    have bq := hq q (by simp)
    rw [det2]
    refine ⟨?_, ?_⟩
    · simp [ords, prodT, en, List.range_succ]
      grind
    · have z := sol2 (a := a) (b := b) (c := c) (d := d) (p := p) (q := q)
      revert z
      cases solvedR [[a, b], [c, d]] [p, q] with
      | none => exact fun z => z
      | some x =>
        rintro ⟨x, y, rfl, e1, e2, e3⟩
        refine ⟨e3, rfl, fun k hk => ?_, quot_rw (by simp) (Bd.d2 ba bb bc bd) e3 (fun z hz => ?_) (by decide)⟩
        · have : k = 0 ∨ k = 1 := by omega
          rcases this with rfl | rfl
          · simp [dotR, rw_]
            grind
          · simp [dotR, rw_]
            grind
        · have : z = x ∨ z = y := by simpa using hz
          rcases this with rfl | rfl
          · rw [show z * (a * d - b * c) = p * d - b * q by grind]
            exact Bd.d2 bp bb bq bd
          · rw [show z * (a * d - b * c) = a * q - p * c by grind]
            exact Bd.d2 ba bp bc bq
  · obtain ⟨r, t, u, rfl⟩ := len_3 hT
    obtain ⟨p, q, w, rfl⟩ := len_3 ha
    obtain ⟨a, b, c, rfl⟩ := len_3 (hr r (by simp)).1
    obtain ⟨d, e, f, rfl⟩ := len_3 (hr t (by simp)).1
    obtain ⟨g, h, i, rfl⟩ := len_3 (hr u (by simp)).1
    have ba := (hr [a, b, c] (by simp)).2 a (by simp)
    have bb := (hr [a, b, c] (by simp)).2 b (by simp)
    have bc := (hr [a, b, c] (by simp)).2 c (by simp)
    have bd := (hr [d, e, f] (by simp)).2 d (by simp)
    have be := (hr [d, e, f] (by simp)).2 e (by simp)
    have bf := (hr [d, e, f] (by simp)).2 f (by simp)
    have bg := (hr [g, h, i] (by simp)).2 g (by simp)
    have bh := (hr [g, h, i] (by simp)).2 h (by simp)
    have bi := (hr [g, h, i] (by simp)).2 i (by simp)
    have bp := hq p (by simp)
    have bq := hq q (by simp)
    have bw := hq w (by simp)
    rw [det3]
    refine ⟨?_, ?_⟩
    · simp [ords, prodT, en, List.range_succ]
      grind
    · have z := sol3 (a := a) (b := b) (c := c) (d := d) (e := e) (f := f) (g := g) (h := h) (i := i) (p := p) (q := q) (r := w)
      revert z
      cases solvedR [[a, b, c], [d, e, f], [g, h, i]] [p, q, w] with
      | none => exact fun z => z
      | some x =>
        rintro ⟨x, y, z, rfl, e1, e2, e3, e4⟩
        refine ⟨e4, rfl, fun k hk => ?_, quot_rw (by simp) (Bd.d3 ba bb bc bd be bf bg bh bi) e4 (fun v hv => ?_) (by decide)⟩
        · have : k = 0 ∨ k = 1 ∨ k = 2 := by omega
          rcases this with rfl | rfl | rfl
          · simp [dotR, rw_]
            grind
          · simp [dotR, rw_]
            grind
          · simp [dotR, rw_]
            grind
        · have : v = x ∨ v = y ∨ v = z := by simpa using hv
          rcases this with rfl | rfl | rfl
          · rw [show v * d3 a b c d e f g h i = d3 p b c q e f w h i by grind]
            exact Bd.d3 bp bb bc bq be bf bw bh bi
          · rw [show v * d3 a b c d e f g h i = d3 a p c d q f g w i by grind]
            exact Bd.d3 ba bp bc bd bq bf bg bw bi
          · rw [show v * d3 a b c d e f g h i = d3 a b p d e q g h w by grind]
            exact Bd.d3 ba bb bp bd be bq bg bh bw
end Q

set_option Elab.async false
set_option linter.all false
set_option maxRecDepth 100000
set_option maxHeartbeats 0
namespace Q
open PySem PySem.Spec L2
open PyProof.Rows hiding St
def c_share : Df := ⟨["n", "d"], ["n", "d", "a", "b"], (.cons (.ife (.cmp .eq (.var 1) (.lit (.int 0))) (.cons (.raise 0) .nil) .nil) (.cons (.ife (.cmp .lt (.var 1) (.lit (.int 0))) (.cons (.par 0 1 (.neg (.var 0)) (.neg (.var 1))) .nil) .nil) (.cons (.par 2 3 (.blt .abs (.cons (.var 0) .nil)) (.var 1)) (.cons (.whl (.cmp .gt (.var 3) (.lit (.int 0))) (.cons (.par 2 3 (.var 3) (.bin .mod (.var 2) (.var 3))) .nil)) (.cons (.ret (.tup (.cons (.bin .fdiv (.var 0) (.var 2)) (.cons (.bin .fdiv (.var 1) (.var 2)) .nil)))) .nil)))))⟩
def c_plus : Df := ⟨["a", "b"], ["a", "b"], (.cons (.ret (.call 0 (.cons (.bin .add (.bin .mul (.ix (.var 0) (.lit (.int 0))) (.ix (.var 1) (.lit (.int 1)))) (.bin .mul (.ix (.var 1) (.lit (.int 0))) (.ix (.var 0) (.lit (.int 1))))) (.cons (.bin .mul (.ix (.var 0) (.lit (.int 1))) (.ix (.var 1) (.lit (.int 1)))) .nil)))) .nil)⟩
def c_minus : Df := ⟨["a", "b"], ["a", "b"], (.cons (.ret (.call 0 (.cons (.bin .sub (.bin .mul (.ix (.var 0) (.lit (.int 0))) (.ix (.var 1) (.lit (.int 1)))) (.bin .mul (.ix (.var 1) (.lit (.int 0))) (.ix (.var 0) (.lit (.int 1))))) (.cons (.bin .mul (.ix (.var 0) (.lit (.int 1))) (.ix (.var 1) (.lit (.int 1)))) .nil)))) .nil)⟩
def c_times : Df := ⟨["a", "b"], ["a", "b"], (.cons (.ret (.call 0 (.cons (.bin .mul (.ix (.var 0) (.lit (.int 0))) (.ix (.var 1) (.lit (.int 0)))) (.cons (.bin .mul (.ix (.var 0) (.lit (.int 1))) (.ix (.var 1) (.lit (.int 1)))) .nil)))) .nil)⟩
def c_over : Df := ⟨["a", "b"], ["a", "b"], (.cons (.ret (.call 0 (.cons (.bin .mul (.ix (.var 0) (.lit (.int 0))) (.ix (.var 1) (.lit (.int 1)))) (.cons (.bin .mul (.ix (.var 0) (.lit (.int 1))) (.ix (.var 1) (.lit (.int 0)))) .nil)))) .nil)⟩
def c_less : Df := ⟨["a", "b"], ["a", "b"], (.cons (.ret (.cmp .lt (.bin .mul (.ix (.var 0) (.lit (.int 0))) (.ix (.var 1) (.lit (.int 1)))) (.bin .mul (.ix (.var 1) (.lit (.int 0))) (.ix (.var 0) (.lit (.int 1)))))) .nil)⟩
def c_least : Df := ⟨["a", "b"], ["a", "b"], (.cons (.ret (.ite (.call 5 (.cons (.var 1) (.cons (.var 0) .nil))) (.var 1) (.var 0))) .nil)⟩
def c_greatest : Df := ⟨["a", "b"], ["a", "b"], (.cons (.ret (.ite (.call 5 (.cons (.var 0) (.cons (.var 1) .nil))) (.var 1) (.var 0))) .nil)⟩
def c_size_of : Df := ⟨["a"], ["a"], (.cons (.ret (.tup (.cons (.blt .abs (.cons (.ix (.var 0) (.lit (.int 0))) .nil)) (.cons (.ix (.var 0) (.lit (.int 1))) .nil)))) .nil)⟩
def c_sum_of : Df := ⟨["row"], ["row", "total", "a"], (.cons (.set 1 (.glo "ZERO")) (.cons (.for_ (.nm 2) .seq (.cons (.var 0) .nil) (.cons (.set 1 (.call 1 (.cons (.var 1) (.cons (.var 2) .nil)))) .nil)) (.cons (.ret (.var 1)) .nil)))⟩
def c_dot : Df := ⟨["one", "other"], ["one", "other", "a", "b"], (.cons (.ret (.call 9 (.cons (.lc (.call 3 (.cons (.var 2) (.cons (.var 3) .nil))) (.tp (.cons (.nm 2) (.cons (.nm 3) .nil))) .zip (.cons (.var 0) (.cons (.var 1) .nil)) .nil [2, 3]) .nil))) .nil)⟩
def c_power : Df := ⟨["a", "many"], ["a", "many", "found", "_"], (.cons (.set 2 (.glo "ONE")) (.cons (.for_ (.nm 3) .rng1 (.cons (.var 1) .nil) (.cons (.set 2 (.call 3 (.cons (.var 2) (.cons (.var 0) .nil)))) .nil)) (.cons (.ret (.var 2)) .nil)))⟩
def c_is_share : Df := ⟨["value"], ["value"], (.cons (.ret (.and (.blt .isTup (.cons (.var 0) .nil)) (.and (.cmp .eq (.blt .len (.cons (.var 0) .nil)) (.lit (.int 2))) (.and (.cmp .ge (.ix (.var 0) (.lit (.int 1))) (.lit (.int 1))) (.cmp .eq (.call 0 (.cons (.ix (.var 0) (.lit (.int 0))) (.cons (.ix (.var 0) (.lit (.int 1))) .nil))) (.var 0)))))) .nil)⟩
def c_share_text : Df := ⟨["a"], ["a"], (.cons (.ret (.ite (.cmp .eq (.ix (.var 0) (.lit (.int 1))) (.lit (.int 1))) (.blt .str1 (.cons (.ix (.var 0) (.lit (.int 0))) .nil)) (.bin .add (.bin .add (.blt .str1 (.cons (.ix (.var 0) (.lit (.int 0))) .nil)) (.lit (.str "/"))) (.blt .str1 (.cons (.ix (.var 0) (.lit (.int 1))) .nil))))) .nil)⟩
def c_solved : Df := ⟨["rows", "aims"], ["rows", "aims", "many", "table", "k", "places", "j", "row", "aim", "a", "factor", "b"], (.cons (.set 2 (.blt .len (.cons (.var 0) .nil))) (.cons (.setL 3 (.lc (.bin .add (.blt .list (.cons (.var 7) .nil)) (.lst (.cons (.var 8) .nil))) (.tp (.cons (.nm 7) (.cons (.nm 8) .nil))) .zip (.cons (.var 0) (.cons (.var 1) .nil)) .nil [7, 8])) (.cons (.for_ (.nm 4) .rng1 (.cons (.var 2) .nil) (.cons (.set 5 (.lc (.var 6) (.nm 6) .rng2 (.cons (.var 4) (.cons (.var 2) .nil)) (.cons (.cmp .ne (.ix (.ix (.var 3) (.var 6)) (.var 4)) (.glo "ZERO")) .nil) [6])) (.cons (.ife (.not (.var 5)) (.cons (.ret (.lit .none)) .nil) .nil) (.cons (.swp 3 (.var 4) (.ix (.var 5) (.lit (.int 0))) (.ix (.var 3) (.ix (.var 5) (.lit (.int 0)))) (.ix (.var 3) (.var 4))) (.cons (.sub 3 (.var 4) (.lc (.call 4 (.cons (.var 9) (.cons (.ix (.ix (.var 3) (.var 4)) (.var 4)) .nil))) (.nm 9) .seq (.cons (.ix (.var 3) (.var 4)) .nil) .nil [9])) (.cons (.for_ (.nm 6) .rng1 (.cons (.var 2) .nil) (.cons (.ife (.and (.cmp .ne (.var 6) (.var 4)) (.cmp .ne (.ix (.ix (.var 3) (.var 6)) (.var 4)) (.glo "ZERO"))) (.cons (.set 10 (.ix (.ix (.var 3) (.var 6)) (.var 4))) (.cons (.sub 3 (.var 6) (.lc (.call 2 (.cons (.var 9) (.cons (.call 3 (.cons (.var 10) (.cons (.var 11) .nil))) .nil))) (.tp (.cons (.nm 9) (.cons (.nm 11) .nil))) .zip (.cons (.ix (.var 3) (.var 6)) (.cons (.ix (.var 3) (.var 4)) .nil)) .nil [9, 11])) .nil)) .nil) .nil)) .nil)))))) (.cons (.ret (.blt .tuple (.cons (.lc (.ix (.var 7) (.neg (.lit (.int 1)))) (.nm 7) .seq (.cons (.var 3) .nil) .nil [7]) .nil))) .nil))))⟩
def c_determinant : Df := ⟨["rows"], ["rows", "table", "found", "k", "places", "j", "row", "factor", "a", "b"], (.cons (.setL 1 (.lc (.blt .list (.cons (.var 6) .nil)) (.nm 6) .seq (.cons (.var 0) .nil) .nil [6])) (.cons (.set 2 (.glo "ONE")) (.cons (.for_ (.nm 3) .rng1 (.cons (.blt .len (.cons (.var 1) .nil)) .nil) (.cons (.set 4 (.lc (.var 5) (.nm 5) .rng2 (.cons (.var 3) (.cons (.blt .len (.cons (.var 1) .nil)) .nil)) (.cons (.cmp .ne (.ix (.ix (.var 1) (.var 5)) (.var 3)) (.glo "ZERO")) .nil) [5])) (.cons (.ife (.not (.var 4)) (.cons (.ret (.glo "ZERO")) .nil) .nil) (.cons (.ife (.cmp .ne (.ix (.var 4) (.lit (.int 0))) (.var 3)) (.cons (.swp 1 (.var 3) (.ix (.var 4) (.lit (.int 0))) (.ix (.var 1) (.ix (.var 4) (.lit (.int 0)))) (.ix (.var 1) (.var 3))) (.cons (.set 2 (.call 2 (.cons (.glo "ZERO") (.cons (.var 2) .nil)))) .nil)) .nil) (.cons (.set 2 (.call 3 (.cons (.var 2) (.cons (.ix (.ix (.var 1) (.var 3)) (.var 3)) .nil)))) (.cons (.for_ (.nm 5) .rng2 (.cons (.bin .add (.var 3) (.lit (.int 1))) (.cons (.blt .len (.cons (.var 1) .nil)) .nil)) (.cons (.set 7 (.call 4 (.cons (.ix (.ix (.var 1) (.var 5)) (.var 3)) (.cons (.ix (.ix (.var 1) (.var 3)) (.var 3)) .nil)))) (.cons (.sub 1 (.var 5) (.lc (.call 2 (.cons (.var 8) (.cons (.call 3 (.cons (.var 7) (.cons (.var 9) .nil))) .nil))) (.tp (.cons (.nm 8) (.cons (.nm 9) .nil))) .zip (.cons (.ix (.var 1) (.var 5)) (.cons (.ix (.var 1) (.var 3)) .nil)) .nil [8, 9])) .nil))) .nil)))))) (.cons (.ret (.var 2)) .nil))))⟩
def c_law_take : Df := ⟨["tape", "many"], ["tape", "many", "mixed", "drawn"], (.cons (.ife (.and (.cmp .eq (.tg 0 .left) (.lit (.int 0))) (.cmp .lt (.tg 0 .«at») (.blt .len (.cons (.tg 0 .cells) .nil)))) (.cons (.tput 0 .left (.ix (.tg 0 .cells) (.tg 0 .«at»))) (.cons (.tput 0 .«at» (.bin .add (.tg 0 .«at») (.lit (.int 1)))) .nil)) .nil) (.cons (.ife (.cmp .gt (.tg 0 .left) (.lit (.int 0))) (.cons (.set 3 (.bin .mod (.blt .int (.cons (.tg 0 .left) .nil)) (.var 1))) (.cons (.tput 0 .left (.bin .fdiv (.tg 0 .left) (.var 1))) (.cons (.ret (.var 3)) .nil))) .nil) (.cons (.tput 0 .salt (.bin .add (.tg 0 .salt) (.lit (.int 1)))) (.cons (.set 2 (.bin .mod (.blt .int (.cons (.bin .add (.bin .mul (.tg 0 .seed) (.lit (.int 48271))) (.bin .mul (.tg 0 .salt) (.lit (.int 69621)))) .nil)) (.lit (.int 2147483647)))) (.cons (.set 2 (.bin .mod (.blt .int (.cons (.bin .add (.bin .add (.bin .mul (.var 2) (.var 2)) (.bin .mul (.tg 0 .salt) (.lit (.int 40692)))) (.lit (.int 12345))) .nil)) (.lit (.int 2147483399)))) (.cons (.ret (.bin .mod (.blt .int (.cons (.var 2) .nil)) (.var 1))) .nil))))))⟩
def c_law_gcd : Df := ⟨["a", "b"], ["a", "b"], (.cons (.par 0 1 (.blt .abs (.cons (.var 0) .nil)) (.blt .abs (.cons (.var 1) .nil))) (.cons (.whl (.cmp .gt (.var 1) (.lit (.int 0))) (.cons (.par 0 1 (.var 1) (.bin .mod (.blt .int (.cons (.var 0) .nil)) (.var 1))) .nil)) (.cons (.ret (.var 0)) .nil)))⟩
def c_law_ratio : Df := ⟨["n", "d"], ["n", "d", "most"], (.cons (.ife (.cmp .lt (.var 1) (.lit (.int 0))) (.cons (.par 0 1 (.bin .sub (.lit (.int 0)) (.var 0)) (.bin .sub (.lit (.int 0)) (.var 1))) .nil) .nil) (.cons (.set 2 (.call 17 (.cons (.var 0) (.cons (.var 1) .nil)))) (.cons (.ret (.tup (.cons (.bin .fdiv (.var 0) (.var 2)) (.cons (.bin .fdiv (.var 1) (.var 2)) .nil)))) .nil)))⟩
def c_law_lot : Df := ⟨["tape", "many"], ["tape", "many", "weights", "k", "weight"], (.cons (.setL 2 (.lc (.call 16 (.cons (.var 0) (.cons (.lit (.int 5)) .nil))) (.nm 3) .rng1 (.cons (.var 1) .nil) .nil [3])) (.cons (.sub 2 (.call 16 (.cons (.var 0) (.cons (.var 1) .nil))) (.bin .add (.lit (.int 1)) (.call 16 (.cons (.var 0) (.cons (.lit (.int 3)) .nil))))) (.cons (.ret (.blt .tuple (.cons (.lc (.call 18 (.cons (.var 4) (.cons (.blt .sum (.cons (.var 2) .nil)) .nil))) (.nm 4) .seq (.cons (.var 2) .nil) .nil [4]) .nil))) .nil)))⟩
def c_law_sum : Df := ⟨["row"], ["row", "n", "d", "a", "b"], (.cons (.unp (.tp (.cons (.nm 1) (.cons (.nm 2) .nil))) (.tup (.cons (.lit (.int 0)) (.cons (.lit (.int 1)) .nil)))) (.cons (.for_ (.tp (.cons (.nm 3) (.cons (.nm 4) .nil))) .seq (.cons (.var 0) .nil) (.cons (.unp (.tp (.cons (.nm 1) (.cons (.nm 2) .nil))) (.call 18 (.cons (.bin .add (.bin .mul (.var 1) (.var 4)) (.bin .mul (.var 3) (.var 2))) (.cons (.bin .mul (.var 2) (.var 4)) .nil)))) .nil)) (.cons (.ret (.tup (.cons (.var 1) (.cons (.var 2) .nil)))) .nil)))⟩
def c_law_times : Df := ⟨["a", "b"], ["a", "b"], (.cons (.ret (.call 18 (.cons (.bin .mul (.ix (.var 0) (.lit (.int 0))) (.ix (.var 1) (.lit (.int 0)))) (.cons (.bin .mul (.ix (.var 0) (.lit (.int 1))) (.ix (.var 1) (.lit (.int 1)))) .nil)))) .nil)⟩
def c_law_minus : Df := ⟨["a", "b"], ["a", "b"], (.cons (.ret (.call 18 (.cons (.bin .sub (.bin .mul (.ix (.var 0) (.lit (.int 0))) (.ix (.var 1) (.lit (.int 1)))) (.bin .mul (.ix (.var 1) (.lit (.int 0))) (.ix (.var 0) (.lit (.int 1))))) (.cons (.bin .mul (.ix (.var 0) (.lit (.int 1))) (.ix (.var 1) (.lit (.int 1)))) .nil)))) .nil)⟩
def c_law_less : Df := ⟨["a", "b"], ["a", "b"], (.cons (.ret (.cmp .lt (.bin .mul (.ix (.var 0) (.lit (.int 0))) (.ix (.var 1) (.lit (.int 1)))) (.bin .mul (.ix (.var 1) (.lit (.int 0))) (.ix (.var 0) (.lit (.int 1)))))) .nil)⟩
def c_law_dot : Df := ⟨["one", "other"], ["one", "other", "k"], (.cons (.ret (.call 20 (.cons (.lc (.call 21 (.cons (.ix (.var 0) (.var 2)) (.cons (.ix (.var 1) (.var 2)) .nil))) (.nm 2) .rng1 (.cons (.blt .len (.cons (.var 0) .nil)) .nil) .nil [2]) .nil))) .nil)⟩
def c_law_fraction : Df := ⟨["tape"], ["tape"], (.cons (.ret (.call 18 (.cons (.bin .sub (.call 16 (.cons (.var 0) (.cons (.lit (.int 19)) .nil))) (.lit (.int 9))) (.cons (.bin .add (.lit (.int 1)) (.call 16 (.cons (.var 0) (.cons (.lit (.int 6)) .nil)))) .nil)))) .nil)⟩
def c_law_orders : Df := ⟨["names"], ["names", "found", "k", "rest", "sign"], (.cons (.ife (.cmp .eq (.blt .len (.cons (.var 0) .nil)) (.lit (.int 0))) (.cons (.ret (.lst (.cons (.tup (.cons (.tup .nil) (.cons (.lit (.int 1)) .nil))) .nil))) .nil) .nil) (.cons (.setL 1 (.lst .nil)) (.cons (.for_ (.nm 2) .rng1 (.cons (.blt .len (.cons (.var 0) .nil)) .nil) (.cons (.for_ (.tp (.cons (.nm 3) (.cons (.nm 4) .nil))) .seq (.cons (.call 26 (.cons (.bin .add (.slc (.var 0) .nil (.cons (.var 2) .nil)) (.slc (.var 0) (.cons (.bin .add (.var 2) (.lit (.int 1))) .nil) .nil)) .nil)) .nil) (.cons (.app 1 (.tup (.cons (.bin .add (.tup (.cons (.ix (.var 0) (.var 2)) .nil)) (.var 3)) (.cons (.ite (.cmp .eq (.bin .mod (.blt .int (.cons (.var 2) .nil)) (.lit (.int 2))) (.lit (.int 0))) (.var 4) (.bin .sub (.lit (.int 0)) (.var 4))) .nil)))) .nil)) .nil)) (.cons (.frz 1) (.cons (.ret (.var 1)) .nil)))))⟩
def c_law : Df := ⟨["script"], ["script", "tape", "turn", "many", "due", "k", "size", "rows", "aims", "whole", "a", "b", "n", "d", "order", "sign", "part", "told", "answer", "j"], (.cons (.for_ (.nm 2) .rng1 (.cons (.lit (.int 4)) .nil) (.cons (.unp (.tp (.cons (.nm 10) (.cons (.nm 11) .nil))) (.tup (.cons (.call 25 (.cons (.var 1) .nil)) (.cons (.call 25 (.cons (.var 1) .nil)) .nil)))) (.cons (.ife (.or (.cmp .ne (.call 1 (.cons (.var 10) (.cons (.var 11) .nil))) (.call 20 (.cons (.lst (.cons (.var 10) (.cons (.var 11) .nil))) .nil))) (.or (.cmp .ne (.call 2 (.cons (.var 10) (.cons (.var 11) .nil))) (.call 22 (.cons (.var 10) (.cons (.var 11) .nil)))) (.or (.cmp .ne (.call 3 (.cons (.var 10) (.cons (.var 11) .nil))) (.call 21 (.cons (.var 10) (.cons (.var 11) .nil)))) (.cmp .ne (.call 5 (.cons (.var 10) (.cons (.var 11) .nil))) (.call 23 (.cons (.var 10) (.cons (.var 11) .nil))))))) (.cons (.ret (.lit (.bool false))) .nil) .nil) (.cons (.ife (.or (.and (.cmp .ne (.ix (.var 11) (.lit (.int 0))) (.lit (.int 0))) (.cmp .ne (.call 4 (.cons (.var 10) (.cons (.var 11) .nil))) (.call 18 (.cons (.bin .mul (.ix (.var 10) (.lit (.int 0))) (.ix (.var 11) (.lit (.int 1)))) (.cons (.bin .mul (.ix (.var 10) (.lit (.int 1))) (.ix (.var 11) (.lit (.int 0)))) .nil))))) (.and (.cmp .eq (.ix (.var 11) (.lit (.int 0))) (.lit (.int 0))) (.not (.rfs (.call 4 (.cons (.var 10) (.cons (.var 11) .nil))) [0])))) (.cons (.ret (.lit (.bool false))) .nil) .nil) (.cons (.ife (.or (.cmp .ne (.call 6 (.cons (.var 10) (.cons (.var 11) .nil))) (.ite (.call 23 (.cons (.var 11) (.cons (.var 10) .nil))) (.var 11) (.var 10))) (.or (.cmp .ne (.call 7 (.cons (.var 10) (.cons (.var 11) .nil))) (.ite (.call 23 (.cons (.var 10) (.cons (.var 11) .nil))) (.var 11) (.var 10))) (.cmp .ne (.call 8 (.cons (.var 10) .nil)) (.tup (.cons (.blt .abs (.cons (.ix (.var 10) (.lit (.int 0))) .nil)) (.cons (.ix (.var 10) (.lit (.int 1))) .nil)))))) (.cons (.ret (.lit (.bool false))) .nil) .nil) (.cons (.unp (.tp (.cons (.nm 12) (.cons (.nm 13) .nil))) (.tup (.cons (.bin .sub (.call 16 (.cons (.var 1) (.cons (.lit (.int 20)) .nil))) (.lit (.int 10))) (.cons (.bin .sub (.call 16 (.cons (.var 1) (.cons (.lit (.int 9)) .nil))) (.lit (.int 4))) .nil)))) (.cons (.ife (.or (.and (.cmp .ne (.var 13) (.lit (.int 0))) (.cmp .ne (.call 0 (.cons (.var 12) (.cons (.var 13) .nil))) (.call 18 (.cons (.ite (.cmp .gt (.var 13) (.lit (.int 0))) (.var 12) (.bin .sub (.lit (.int 0)) (.var 12))) (.cons (.blt .abs (.cons (.var 13) .nil)) .nil))))) (.and (.cmp .eq (.var 13) (.lit (.int 0))) (.not (.rfs (.call 0 (.cons (.var 12) (.cons (.var 13) .nil))) [0])))) (.cons (.ret (.lit (.bool false))) .nil) .nil) (.cons (.set 3 (.call 16 (.cons (.var 1) (.cons (.lit (.int 5)) .nil)))) (.cons (.set 4 (.tup (.cons (.lit (.int 1)) (.cons (.lit (.int 1)) .nil)))) (.cons (.for_ (.nm 5) .rng1 (.cons (.var 3) .nil) (.cons (.set 4 (.call 21 (.cons (.var 4) (.cons (.var 10) .nil)))) .nil)) (.cons (.ife (.or (.cmp .ne (.call 11 (.cons (.var 10) (.cons (.var 3) .nil))) (.var 4)) (.cmp .ne (.call 13 (.cons (.var 10) .nil)) (.ite (.cmp .eq (.ix (.var 10) (.lit (.int 1))) (.lit (.int 1))) (.blt .str1 (.cons (.ix (.var 10) (.lit (.int 0))) .nil)) (.bin .add (.bin .add (.blt .str1 (.cons (.ix (.var 10) (.lit (.int 0))) .nil)) (.lit (.str "/"))) (.blt .str1 (.cons (.ix (.var 10) (.lit (.int 1))) .nil)))))) (.cons (.ret (.lit (.bool false))) .nil) .nil) (.cons (.ife (.or (.cmp .isnt (.call 12 (.cons (.var 10) .nil)) (.lit (.bool true))) (.or (.call 12 (.cons (.tup (.cons (.bin .mul (.lit (.int 2)) (.ix (.var 10) (.lit (.int 0)))) (.cons (.bin .mul (.lit (.int 2)) (.ix (.var 10) (.lit (.int 1)))) .nil))) .nil)) (.or (.call 12 (.cons (.tup (.cons (.ix (.var 10) (.lit (.int 0))) (.cons (.bin .sub (.lit (.int 0)) (.ix (.var 10) (.lit (.int 1)))) .nil))) .nil)) (.call 12 (.cons (.lst (.cons (.lit (.int 1)) (.cons (.lit (.int 1)) .nil))) .nil))))) (.cons (.ret (.lit (.bool false))) .nil) .nil) (.cons (.set 6 (.bin .add (.lit (.int 1)) (.call 16 (.cons (.var 1) (.cons (.lit (.int 3)) .nil))))) (.cons (.set 7 (.lc (.lc (.ite (.cmp .gt (.call 16 (.cons (.var 1) (.cons (.lit (.int 4)) .nil))) (.lit (.int 0))) (.call 25 (.cons (.var 1) .nil)) (.tup (.cons (.lit (.int 0)) (.cons (.lit (.int 1)) .nil)))) (.nm 5) .rng1 (.cons (.var 6) .nil) .nil [5]) (.nm 19) .rng1 (.cons (.var 6) .nil) .nil [19])) (.cons (.set 8 (.lc (.call 25 (.cons (.var 1) .nil)) (.nm 5) .rng1 (.cons (.var 6) .nil) .nil [5])) (.cons (.setL 9 (.lst .nil)) (.cons (.for_ (.tp (.cons (.nm 14) (.cons (.nm 15) .nil))) .seq (.cons (.call 26 (.cons (.blt .list (.cons (.blt .rg1 (.cons (.var 6) .nil)) .nil)) .nil)) .nil) (.cons (.set 16 (.tup (.cons (.var 15) (.cons (.lit (.int 1)) .nil)))) (.cons (.for_ (.nm 5) .rng1 (.cons (.var 6) .nil) (.cons (.set 16 (.call 21 (.cons (.var 16) (.cons (.ix (.ix (.var 7) (.var 5)) (.ix (.var 14) (.var 5))) .nil)))) .nil)) (.cons (.app 9 (.var 16)) .nil)))) (.cons (.unp (.tp (.cons (.nm 17) (.cons (.nm 18) .nil))) (.tup (.cons (.call 15 (.cons (.var 7) .nil)) (.cons (.call 14 (.cons (.var 7) (.cons (.var 8) .nil))) .nil)))) (.cons (.ife (.or (.cmp .ne (.var 17) (.call 20 (.cons (.var 9) .nil))) (.cmp .ne (.cmp .is (.var 18) (.lit .none)) (.cmp .eq (.var 17) (.tup (.cons (.lit (.int 0)) (.cons (.lit (.int 1)) .nil)))))) (.cons (.ret (.lit (.bool false))) .nil) .nil) (.cons (.ife (.and (.cmp .isnt (.var 18) (.lit .none)) (.blt .any (.cons (.lc (.cmp .ne (.call 24 (.cons (.ix (.var 7) (.var 5)) (.cons (.var 18) .nil))) (.ix (.var 8) (.var 5))) (.nm 5) .rng1 (.cons (.var 6) .nil) .nil [5]) .nil))) (.cons (.ret (.lit (.bool false))) .nil) .nil) (.cons (.ife (.or (.cmp .ne (.call 10 (.cons (.ix (.var 7) (.lit (.int 0))) (.cons (.var 8) .nil))) (.call 24 (.cons (.ix (.var 7) (.lit (.int 0))) (.cons (.var 8) .nil)))) (.cmp .ne (.call 9 (.cons (.var 8) .nil)) (.call 20 (.cons (.var 8) .nil)))) (.cons (.ret (.lit (.bool false))) .nil) .nil) .nil))))))))))))))))))))) (.cons (.ret (.and (.cmp .eq (.call 14 (.cons (.lst .nil) (.cons (.lst .nil) .nil))) (.tup .nil)) (.and (.cmp .eq (.call 15 (.cons (.lst .nil) .nil)) (.tup (.cons (.lit (.int 1)) (.cons (.lit (.int 1)) .nil)))) (.cmp .eq (.call 9 (.cons (.lst .nil) .nil)) (.tup (.cons (.lit (.int 0)) (.cons (.lit (.int 1)) .nil))))))) .nil))⟩
def names0 : List Str := ["share", "plus", "minus", "times", "over", "less", "least", "greatest", "size_of", "sum_of", "dot", "power", "is_share", "share_text", "solved"]
def names1 : List Str := ["determinant", "_law_take", "_law_gcd", "_law_ratio", "_law_lot", "_law_sum", "_law_times", "_law_minus", "_law_less", "_law_dot", "_law_fraction", "_law_orders"]
def names : List Str := names0 ++ names1
def codes0 : List Ent := [.code c_share, .code c_plus, .code c_minus, .code c_times, .code c_over, .code c_less, .code c_least, .code c_greatest, .code c_size_of, .code c_sum_of, .code c_dot, .code c_power, .code c_is_share, .code c_share_text, .code c_solved]
def codes1 : List Ent := [.code c_determinant, .code c_law_take, .code c_law_gcd, .code c_law_ratio, .code c_law_lot, .code c_law_sum, .code c_law_times, .code c_law_minus, .code c_law_less, .code c_law_dot, .code c_law_fraction, .code c_law_orders]
def codes : List Ent := codes0 ++ codes1
def glT : List (Str × D) := [("ZERO", .tuple [.int 0, .int 1]), ("ONE", .tuple [.int 1, .int 1])]
def gl (x : Str) : Option D := glT.lookup x
abbrev w_0_0 : S := (.unp (.tp (.cons (.nm 10) (.cons (.nm 11) .nil))) (.tup (.cons (.call 25 (.cons (.var 1) .nil)) (.cons (.call 25 (.cons (.var 1) .nil)) .nil))))
abbrev w_0_1 : S := (.ife (.or (.cmp .ne (.call 1 (.cons (.var 10) (.cons (.var 11) .nil))) (.call 20 (.cons (.lst (.cons (.var 10) (.cons (.var 11) .nil))) .nil))) (.or (.cmp .ne (.call 2 (.cons (.var 10) (.cons (.var 11) .nil))) (.call 22 (.cons (.var 10) (.cons (.var 11) .nil)))) (.or (.cmp .ne (.call 3 (.cons (.var 10) (.cons (.var 11) .nil))) (.call 21 (.cons (.var 10) (.cons (.var 11) .nil)))) (.cmp .ne (.call 5 (.cons (.var 10) (.cons (.var 11) .nil))) (.call 23 (.cons (.var 10) (.cons (.var 11) .nil))))))) (.cons (.ret (.lit (.bool false))) .nil) .nil)
abbrev w_0_2 : S := (.ife (.or (.and (.cmp .ne (.ix (.var 11) (.lit (.int 0))) (.lit (.int 0))) (.cmp .ne (.call 4 (.cons (.var 10) (.cons (.var 11) .nil))) (.call 18 (.cons (.bin .mul (.ix (.var 10) (.lit (.int 0))) (.ix (.var 11) (.lit (.int 1)))) (.cons (.bin .mul (.ix (.var 10) (.lit (.int 1))) (.ix (.var 11) (.lit (.int 0)))) .nil))))) (.and (.cmp .eq (.ix (.var 11) (.lit (.int 0))) (.lit (.int 0))) (.not (.rfs (.call 4 (.cons (.var 10) (.cons (.var 11) .nil))) [0])))) (.cons (.ret (.lit (.bool false))) .nil) .nil)
abbrev w_0_3 : S := (.ife (.or (.cmp .ne (.call 6 (.cons (.var 10) (.cons (.var 11) .nil))) (.ite (.call 23 (.cons (.var 11) (.cons (.var 10) .nil))) (.var 11) (.var 10))) (.or (.cmp .ne (.call 7 (.cons (.var 10) (.cons (.var 11) .nil))) (.ite (.call 23 (.cons (.var 10) (.cons (.var 11) .nil))) (.var 11) (.var 10))) (.cmp .ne (.call 8 (.cons (.var 10) .nil)) (.tup (.cons (.blt .abs (.cons (.ix (.var 10) (.lit (.int 0))) .nil)) (.cons (.ix (.var 10) (.lit (.int 1))) .nil)))))) (.cons (.ret (.lit (.bool false))) .nil) .nil)
abbrev w_0_4 : S := (.unp (.tp (.cons (.nm 12) (.cons (.nm 13) .nil))) (.tup (.cons (.bin .sub (.call 16 (.cons (.var 1) (.cons (.lit (.int 20)) .nil))) (.lit (.int 10))) (.cons (.bin .sub (.call 16 (.cons (.var 1) (.cons (.lit (.int 9)) .nil))) (.lit (.int 4))) .nil))))
abbrev w_0_5 : S := (.ife (.or (.and (.cmp .ne (.var 13) (.lit (.int 0))) (.cmp .ne (.call 0 (.cons (.var 12) (.cons (.var 13) .nil))) (.call 18 (.cons (.ite (.cmp .gt (.var 13) (.lit (.int 0))) (.var 12) (.bin .sub (.lit (.int 0)) (.var 12))) (.cons (.blt .abs (.cons (.var 13) .nil)) .nil))))) (.and (.cmp .eq (.var 13) (.lit (.int 0))) (.not (.rfs (.call 0 (.cons (.var 12) (.cons (.var 13) .nil))) [0])))) (.cons (.ret (.lit (.bool false))) .nil) .nil)
abbrev w_0_6 : S := (.set 3 (.call 16 (.cons (.var 1) (.cons (.lit (.int 5)) .nil))))
abbrev w_0_7 : S := (.set 4 (.tup (.cons (.lit (.int 1)) (.cons (.lit (.int 1)) .nil))))
abbrev w_0_8 : S := (.for_ (.nm 5) .rng1 (.cons (.var 3) .nil) (.cons (.set 4 (.call 21 (.cons (.var 4) (.cons (.var 10) .nil)))) .nil))
abbrev w_0_9 : S := (.ife (.or (.cmp .ne (.call 11 (.cons (.var 10) (.cons (.var 3) .nil))) (.var 4)) (.cmp .ne (.call 13 (.cons (.var 10) .nil)) (.ite (.cmp .eq (.ix (.var 10) (.lit (.int 1))) (.lit (.int 1))) (.blt .str1 (.cons (.ix (.var 10) (.lit (.int 0))) .nil)) (.bin .add (.bin .add (.blt .str1 (.cons (.ix (.var 10) (.lit (.int 0))) .nil)) (.lit (.str "/"))) (.blt .str1 (.cons (.ix (.var 10) (.lit (.int 1))) .nil)))))) (.cons (.ret (.lit (.bool false))) .nil) .nil)
abbrev w_0_10 : S := (.ife (.or (.cmp .isnt (.call 12 (.cons (.var 10) .nil)) (.lit (.bool true))) (.or (.call 12 (.cons (.tup (.cons (.bin .mul (.lit (.int 2)) (.ix (.var 10) (.lit (.int 0)))) (.cons (.bin .mul (.lit (.int 2)) (.ix (.var 10) (.lit (.int 1)))) .nil))) .nil)) (.or (.call 12 (.cons (.tup (.cons (.ix (.var 10) (.lit (.int 0))) (.cons (.bin .sub (.lit (.int 0)) (.ix (.var 10) (.lit (.int 1)))) .nil))) .nil)) (.call 12 (.cons (.lst (.cons (.lit (.int 1)) (.cons (.lit (.int 1)) .nil))) .nil))))) (.cons (.ret (.lit (.bool false))) .nil) .nil)
abbrev w_0_11 : S := (.set 6 (.bin .add (.lit (.int 1)) (.call 16 (.cons (.var 1) (.cons (.lit (.int 3)) .nil)))))
abbrev w_0_12 : S := (.set 7 (.lc (.lc (.ite (.cmp .gt (.call 16 (.cons (.var 1) (.cons (.lit (.int 4)) .nil))) (.lit (.int 0))) (.call 25 (.cons (.var 1) .nil)) (.tup (.cons (.lit (.int 0)) (.cons (.lit (.int 1)) .nil)))) (.nm 5) .rng1 (.cons (.var 6) .nil) .nil [5]) (.nm 19) .rng1 (.cons (.var 6) .nil) .nil [19]))
abbrev w_0_13 : S := (.set 8 (.lc (.call 25 (.cons (.var 1) .nil)) (.nm 5) .rng1 (.cons (.var 6) .nil) .nil [5]))
abbrev w_0_14 : S := (.setL 9 (.lst .nil))
abbrev w_0_15 : S := (.for_ (.tp (.cons (.nm 14) (.cons (.nm 15) .nil))) .seq (.cons (.call 26 (.cons (.blt .list (.cons (.blt .rg1 (.cons (.var 6) .nil)) .nil)) .nil)) .nil) (.cons (.set 16 (.tup (.cons (.var 15) (.cons (.lit (.int 1)) .nil)))) (.cons (.for_ (.nm 5) .rng1 (.cons (.var 6) .nil) (.cons (.set 16 (.call 21 (.cons (.var 16) (.cons (.ix (.ix (.var 7) (.var 5)) (.ix (.var 14) (.var 5))) .nil)))) .nil)) (.cons (.app 9 (.var 16)) .nil))))
abbrev w_0_16 : S := (.unp (.tp (.cons (.nm 17) (.cons (.nm 18) .nil))) (.tup (.cons (.call 15 (.cons (.var 7) .nil)) (.cons (.call 14 (.cons (.var 7) (.cons (.var 8) .nil))) .nil))))
abbrev w_0_17 : S := (.ife (.or (.cmp .ne (.var 17) (.call 20 (.cons (.var 9) .nil))) (.cmp .ne (.cmp .is (.var 18) (.lit .none)) (.cmp .eq (.var 17) (.tup (.cons (.lit (.int 0)) (.cons (.lit (.int 1)) .nil)))))) (.cons (.ret (.lit (.bool false))) .nil) .nil)
abbrev w_0_18 : S := (.ife (.and (.cmp .isnt (.var 18) (.lit .none)) (.blt .any (.cons (.lc (.cmp .ne (.call 24 (.cons (.ix (.var 7) (.var 5)) (.cons (.var 18) .nil))) (.ix (.var 8) (.var 5))) (.nm 5) .rng1 (.cons (.var 6) .nil) .nil [5]) .nil))) (.cons (.ret (.lit (.bool false))) .nil) .nil)
abbrev w_0_19 : S := (.ife (.or (.cmp .ne (.call 10 (.cons (.ix (.var 7) (.lit (.int 0))) (.cons (.var 8) .nil))) (.call 24 (.cons (.ix (.var 7) (.lit (.int 0))) (.cons (.var 8) .nil)))) (.cmp .ne (.call 9 (.cons (.var 8) .nil)) (.call 20 (.cons (.var 8) .nil)))) (.cons (.ret (.lit (.bool false))) .nil) .nil)
abbrev w_0 : S := (.for_ (.nm 2) .rng1 (.cons (.lit (.int 4)) .nil) (.cons w_0_0 (.cons w_0_1 (.cons w_0_2 (.cons w_0_3 (.cons w_0_4 (.cons w_0_5 (.cons w_0_6 (.cons w_0_7 (.cons w_0_8 (.cons w_0_9 (.cons w_0_10 (.cons w_0_11 (.cons w_0_12 (.cons w_0_13 (.cons w_0_14 (.cons w_0_15 (.cons w_0_16 (.cons w_0_17 (.cons w_0_18 (.cons w_0_19 .nil)))))))))))))))))))))
abbrev w_1 : S := (.ret (.and (.cmp .eq (.call 14 (.cons (.lst .nil) (.cons (.lst .nil) .nil))) (.tup .nil)) (.and (.cmp .eq (.call 15 (.cons (.lst .nil) .nil)) (.tup (.cons (.lit (.int 1)) (.cons (.lit (.int 1)) .nil)))) (.cmp .eq (.call 9 (.cons (.lst .nil) .nil)) (.tup (.cons (.lit (.int 0)) (.cons (.lit (.int 1)) .nil)))))))
theorem law_ss : c_law.ss = (.cons w_0 (.cons w_1 .nil)) := rfl
abbrev wl_0 (Γ : Sm) (n : Nat) : D → QE → Tp → SO := forF Γ n (.nm 5) (.cons (.set 4 (.call 21 (.cons (.var 4) (.cons (.var 10) .nil)))) .nil)
abbrev wl_1 (Γ : Sm) (env : QE) : D → Tp → Out (Option D) := lcf Γ (.nm 19) .nil (.lc (.ite (.cmp .gt (.call 16 (.cons (.var 1) (.cons (.lit (.int 4)) .nil))) (.lit (.int 0))) (.call 25 (.cons (.var 1) .nil)) (.tup (.cons (.lit (.int 0)) (.cons (.lit (.int 1)) .nil)))) (.nm 5) .rng1 (.cons (.var 6) .nil) .nil [5]) env
abbrev wl_2 (Γ : Sm) (env : QE) : D → Tp → Out (Option D) := lcf Γ (.nm 5) .nil (.ite (.cmp .gt (.call 16 (.cons (.var 1) (.cons (.lit (.int 4)) .nil))) (.lit (.int 0))) (.call 25 (.cons (.var 1) .nil)) (.tup (.cons (.lit (.int 0)) (.cons (.lit (.int 1)) .nil)))) env
abbrev wl_3 (Γ : Sm) (env : QE) : D → Tp → Out (Option D) := lcf Γ (.nm 5) .nil (.call 25 (.cons (.var 1) .nil)) env
abbrev wl_4 (Γ : Sm) (n : Nat) : D → QE → Tp → SO := forF Γ n (.tp (.cons (.nm 14) (.cons (.nm 15) .nil))) (.cons (.set 16 (.tup (.cons (.var 15) (.cons (.lit (.int 1)) .nil)))) (.cons (.for_ (.nm 5) .rng1 (.cons (.var 6) .nil) (.cons (.set 16 (.call 21 (.cons (.var 16) (.cons (.ix (.ix (.var 7) (.var 5)) (.ix (.var 14) (.var 5))) .nil)))) .nil)) (.cons (.app 9 (.var 16)) .nil)))
abbrev wl_5 (Γ : Sm) (n : Nat) : D → QE → Tp → SO := forF Γ n (.nm 5) (.cons (.set 16 (.call 21 (.cons (.var 16) (.cons (.ix (.ix (.var 7) (.var 5)) (.ix (.var 14) (.var 5))) .nil)))) .nil)
abbrev wl_6 (Γ : Sm) (env : QE) : D → Tp → Out (Option D) := lcf Γ (.nm 5) .nil (.cmp .ne (.call 24 (.cons (.ix (.var 7) (.var 5)) (.cons (.var 18) .nil))) (.ix (.var 8) (.var 5))) env
abbrev wl_7 (Γ : Sm) (n : Nat) : D → QE → Tp → SO := forF Γ n (.nm 2) (.cons w_0_0 (.cons w_0_1 (.cons w_0_2 (.cons w_0_3 (.cons w_0_4 (.cons w_0_5 (.cons w_0_6 (.cons w_0_7 (.cons w_0_8 (.cons w_0_9 (.cons w_0_10 (.cons w_0_11 (.cons w_0_12 (.cons w_0_13 (.cons w_0_14 (.cons w_0_15 (.cons w_0_16 (.cons w_0_17 (.cons w_0_18 (.cons w_0_19 .nil))))))))))))))))))))
end Q

set_option Elab.async false
set_option linter.all false
set_option maxRecDepth 100000
set_option exponentiation.threshold 4000
/-! k01: the law's statements, one by one -/
namespace Q
open PySem PySem.Spec L2
open PyProof.Rows hiding St
abbrev G1 : Sm := ⟨callC codes gl 10000 28, gl⟩
theorem GL : GlOk gl := ⟨rfl, rfl⟩
theorem hF : 6001 ≤ 10000 := by decide
section
abbrev cs_ := codes
theorem f_share : RatioOk codes gl 10000 0 1 := ratio_of (share_mirror rfl hF)
theorem f_plus : PlusOk codes gl 10000 1 2 := plus_of (plus_mirror (s := 0) (k1 := 1) rfl (share_mirror rfl hF) (by decide))
theorem f_minus : MinusOk codes gl 10000 2 2 := minus_of (minus_mirror (s := 0) (k1 := 1) rfl (share_mirror rfl hF) (by decide))
theorem f_times : TimesOk codes gl 10000 3 2 := times_of (times_mirror (s := 0) (k1 := 1) rfl (share_mirror rfl hF) (by decide))
theorem f_over : OverOk codes gl 10000 4 2 := over_of (over_mirror (s := 0) (k1 := 1) rfl (share_mirror rfl hF) (by decide))
theorem f_less : LessOk codes gl 10000 5 1 := less_of (less_mirror rfl)
theorem f_least : LeastOk codes gl 10000 6 2 := least_ok (jl := 5) rfl f_less
theorem f_greatest : GreatestOk codes gl 10000 7 2 := greatest_ok (jl := 5) rfl f_less
theorem f_size : SizeOk codes gl 10000 8 1 := size_of_ok rfl
theorem f_sum : SumOk codes gl 10000 9 3 := sum_of_ok (ip := 1) rfl GL f_plus
theorem f_dot : DotOk codes gl 10000 10 4 := dot_ok (js := 9) (jt := 3) (k0 := 3) rfl f_sum (fun k tp x y hk => f_times k tp x y (by omega))
theorem f_power : PowerOk codes gl 10000 11 3 := power_ok (jt := 3) rfl GL f_times
theorem f_text : TextOk codes gl 10000 13 1 := share_text_ok rfl
theorem f_isshare : IsShareOk codes gl 10000 12 2 := is_share_ok (js := 0) rfl f_share
theorem f_solved : SolvedOk codes gl 10000 14 3 := solved_ok (jm := 2) (jo := 4) (jt := 3) rfl GL f_minus f_over f_times
theorem f_det : DetOk codes gl 10000 15 3 := determinant_ok (jm := 2) (jo := 4) (jt := 3) rfl GL f_minus f_over f_times
theorem f_take : TakeOk codes gl 10000 16 1 := take_ok rfl
theorem f_ratio : RatioOk codes gl 10000 18 2 := ratio_of (ratio_mirror (s := 17) rfl rfl hF)
theorem f_lsum : SumOk codes gl 10000 20 3 := law_sum_ok (jr := 18) rfl f_ratio
theorem f_ltimes : TimesOk codes gl 10000 21 3 := times_of (times_mirror (s := 18) (k1 := 2) rfl (ratio_mirror (s := 17) rfl rfl hF) (by decide))
theorem f_lminus : MinusOk codes gl 10000 22 3 := minus_of (minus_mirror (s := 18) (k1 := 2) rfl (ratio_mirror (s := 17) rfl rfl hF) (by decide))
theorem f_lless : LessOk codes gl 10000 23 1 := less_of (less_mirror rfl)
theorem f_ldot : ∀ k tp b b' l l' d m d' m', 4 ≤ k → Rw d m l → Rw d' m' l' → l'.length = l.length → d + m + (d' + m') ≤ 900 → callC codes gl 10000 k 24 [.val (sq b (qs l)), .val (sq b' (qs l'))] tp = .ok (fq (dotR l l')) tp := law_dot_ok (js := 20) (jt := 21) (k0 := 3) rfl f_lsum f_ltimes
theorem f_frac : FracOk codes gl 10000 25 3 := law_fraction_ok (jr := 18) (jt := 16) rfl f_ratio f_take (by decide)
end
theorem Bd.q {x : Rat} (h : Bd 60 9 x) : Bq 6 4 x := ⟨60, by decide, h.le (by decide)⟩
theorem rw60 {l : List Rat} (hl : l.length ≤ 1000) (h : ∀ q ∈ l, Bd 60 9 q) : Rw 6 4 l := ⟨hl, 60, by decide, by decide, fun q hq => (h q hq).le (by decide)⟩
section
variable {v2 v3 v4 v5 v6 v7 v8 v9 v10 v11 v12 v13 v14 v15 v16 v17 v18 v19 : B} {tp : Tp} {n : Nat} {a b : Rat}
theorem s_0 (hT : TpN n tp) (hn : n ≤ 90000) : ∃ a b tp', Bd 60 9 a ∧ Bd 60 9 b ∧ TpN (n + 4) tp' ∧
    exS G1 10000 w_0_0 [.un, .tape, v2, v3, v4, v5, v6, v7, v8, v9, v10, v11, v12, v13, v14, v15, v16, v17, v18, v19] tp = .nx [.un, .tape, v2, v3, v4, v5, v6, v7, v8, v9, .val (fq a), .val (fq b), v12, v13, v14, v15, v16, v17, v18, v19] tp' := by
  obtain ⟨a, t1, a1, a2, a3⟩ := f_frac 28 tp n (by omega) hT (by omega)
  obtain ⟨b, t2, b1, b2, b3⟩ := f_frac 28 t1 (n + 2) (by omega) a2 (by omega)
  refine ⟨a, b, t2, a1, b1, b2, ?_⟩
  simp only [a3, b3, xs_nil, xs_cons, x_set, x_setL, x_par, x_unp, x_app, x_ext, x_sub, x_aug, x_ret, x_ife, x_ex, x_cont, x_brk, x_pass, x_frz, x_for, v_var, v_lit, v_glo, v_bin, v_neg, v_cmp, v_chain, v_not, v_and, v_or, v_ite, v_call, v_blt, v_ix, v_slc, v_lst, v_tup, v_lc, v_rev, es_nil', es_cons', ea_nil, ea_cons, argB, thn_nx, thn_rt, thn_ct, thn_br, bind_ok, so_ok, opt_some, bT_nm, bT_tp, bTs_nil, bTs_cons, getB_0, getB_s, fi_v, fi_r, fi_t, Q.M.isR, Q.M.op, Q.IK.md, im_seq, im_rng1, im_rng2, im_enum, im_zip, im_rng3, im_items, seq1_sq, zipD_eq, enumD_eq, seqOf_sq, seqOf_l, seqOf_t, seq1_l, seq1_t, len_sq, ix_sq, rev_sq, Option.map_some, Option.bind_some, List.set_cons_zero, List.set_cons_succ, List.map_cons, List.map_nil, unown, List.any_cons, List.any_nil, isOwn, Bool.or_false, Bool.or_true, Bool.false_and, Bool.true_and, Bool.and_false, Bool.and_true, finO, List.length_cons, List.length_nil, List.replicate, List.cons_append, List.nil_append, Nat.reduceSub, Nat.reduceAdd, Nat.sub_self, wipeB, Bool.not_true, Bool.not_false, Option.getD_some, cmpD, ltD, eqD_int, tru_bool, noLst_fq, tru_none, noLst, tup_l, tup_t, tup_sq, list_sq, len_l, len_t, grd_true, bin_addI, bin_subI, ix_l, ix_t, big1, big2]
section
variable (ha : Bd 60 9 a) (hb : Bd 60 9 b)
include ha hb
theorem s_1 : exS G1 10000 w_0_1 [.un, .tape, v2, v3, v4, v5, v6, v7, v8, v9, .val (fq a), .val (fq b), v12, v13, v14, v15, v16, v17, v18, v19] tp = .nx [.un, .tape, v2, v3, v4, v5, v6, v7, v8, v9, .val (fq a), .val (fq b), v12, v13, v14, v15, v16, v17, v18, v19] tp := by
  have sa : SmQ a := ha.q.sm
  have sb : SmQ b := hb.q.sm
  have e1 := f_plus 28 tp a b (by omega) sa sb trivial
  have e2 := f_lsum 28 tp false [a, b] 6 4 (by omega) (rw60 (by simp) (by simp [ha, hb])) (by omega)
  rw [show [a, b].sum = a + b by simp [Rat.add_zero], show sq false (qs [a, b]) = .list [fq a, fq b] from rfl] at e2
  have e3 := f_minus 28 tp a b (by omega) sa sb trivial
  have e4 := f_lminus 28 tp a b (by omega) sa sb trivial
  have e5 := f_times 28 tp a b (by omega) sa sb trivial
  have e6 := f_ltimes 28 tp a b (by omega) sa sb trivial
  have e7 := f_less 28 tp a b (by omega) sa sb
  have e8 := f_lless 28 tp a b (by omega) sa sb
  simp only [e1, e2, e3, e4, e5, e6, e7, e8, eq_fq, eq_bool, decide_true, xs_nil, xs_cons, x_set, x_setL, x_par, x_unp, x_app, x_ext, x_sub, x_aug, x_ret, x_ife, x_ex, x_cont, x_brk, x_pass, x_frz, x_for, v_var, v_lit, v_glo, v_bin, v_neg, v_cmp, v_chain, v_not, v_and, v_or, v_ite, v_call, v_blt, v_ix, v_slc, v_lst, v_tup, v_lc, v_rev, es_nil', es_cons', ea_nil, ea_cons, argB, thn_nx, thn_rt, thn_ct, thn_br, bind_ok, so_ok, opt_some, bT_nm, bT_tp, bTs_nil, bTs_cons, getB_0, getB_s, fi_v, fi_r, fi_t, Q.M.isR, Q.M.op, Q.IK.md, im_seq, im_rng1, im_rng2, im_enum, im_zip, im_rng3, im_items, seq1_sq, zipD_eq, enumD_eq, seqOf_sq, seqOf_l, seqOf_t, seq1_l, seq1_t, len_sq, ix_sq, rev_sq, Option.map_some, Option.bind_some, List.set_cons_zero, List.set_cons_succ, List.map_cons, List.map_nil, unown, List.any_cons, List.any_nil, isOwn, Bool.or_false, Bool.or_true, Bool.false_and, Bool.true_and, Bool.and_false, Bool.and_true, finO, List.length_cons, List.length_nil, List.replicate, List.cons_append, List.nil_append, Nat.reduceSub, Nat.reduceAdd, Nat.sub_self, wipeB, Bool.not_true, Bool.not_false, Option.getD_some, cmpD, ltD, eqD_int, tru_bool, noLst_fq, tru_none, noLst, tup_l, tup_t, tup_sq, list_sq, len_l, len_t, grd_true, bin_addI, bin_subI, ix_l, ix_t, big1, big2]
theorem s_2 : exS G1 10000 w_0_2 [.un, .tape, v2, v3, v4, v5, v6, v7, v8, v9, .val (fq a), .val (fq b), v12, v13, v14, v15, v16, v17, v18, v19] tp = .nx [.un, .tape, v2, v3, v4, v5, v6, v7, v8, v9, .val (fq a), .val (fq b), v12, v13, v14, v15, v16, v17, v18, v19] tp := by
  have sa : SmQ a := ha.q.sm
  have sb : SmQ b := hb.q.sm
  by_cases h0 : b = 0
  · subst h0
    have e1 := over_zero (es := codes) (gl := gl) (fuel := 10000) (i := 4) (s := 0) (k := 28) (tp := tp) rfl rfl hF (by omega) sa
    have z : ((0 : Rat).num == 0) = true := rfl
    simp only [ix0_fq, z, v_rfs, e1, bind_exc, con0, xs_nil, xs_cons, x_set, x_setL, x_par, x_unp, x_app, x_ext, x_sub, x_aug, x_ret, x_ife, x_ex, x_cont, x_brk, x_pass, x_frz, x_for, v_var, v_lit, v_glo, v_bin, v_neg, v_cmp, v_chain, v_not, v_and, v_or, v_ite, v_call, v_blt, v_ix, v_slc, v_lst, v_tup, v_lc, v_rev, es_nil', es_cons', ea_nil, ea_cons, argB, thn_nx, thn_rt, thn_ct, thn_br, bind_ok, so_ok, opt_some, bT_nm, bT_tp, bTs_nil, bTs_cons, getB_0, getB_s, fi_v, fi_r, fi_t, Q.M.isR, Q.M.op, Q.IK.md, im_seq, im_rng1, im_rng2, im_enum, im_zip, im_rng3, im_items, seq1_sq, zipD_eq, enumD_eq, seqOf_sq, seqOf_l, seqOf_t, seq1_l, seq1_t, len_sq, ix_sq, rev_sq, Option.map_some, Option.bind_some, List.set_cons_zero, List.set_cons_succ, List.map_cons, List.map_nil, unown, List.any_cons, List.any_nil, isOwn, Bool.or_false, Bool.or_true, Bool.false_and, Bool.true_and, Bool.and_false, Bool.and_true, finO, List.length_cons, List.length_nil, List.replicate, List.cons_append, List.nil_append, Nat.reduceSub, Nat.reduceAdd, Nat.sub_self, wipeB, Bool.not_true, Bool.not_false, Option.getD_some, cmpD, ltD, eqD_int, tru_bool, noLst_fq, tru_none, noLst, tup_l, tup_t, tup_sq, list_sq, len_l, len_t, grd_true, bin_addI, bin_subI, ix_l, ix_t, big1, big2]
  · have hn : b.num ≠ 0 := fun h => h0 (Rat.num_eq_zero.mp h)
    have z : (b.num == 0) = false := by rw [beq_eq_false_iff_ne]; exact hn
    have e1 := f_over 28 tp a b (by omega) sa sb h0
    have e2 := f_ratio 28 tp (a.num * (b.den : Int)) ((a.den : Int) * b.num) (by omega) (Int.mul_ne_zero (den0 a) hn) (dn_sm sa sb)
    rw [div_div] at e2
    simp only [ix0_fq, ix1_fq, z, e1, mul_smI sa.i1 sb.i2, mul_smI sa.i2 sb.i1, e2, eq_fq, decide_true, xs_nil, xs_cons, x_set, x_setL, x_par, x_unp, x_app, x_ext, x_sub, x_aug, x_ret, x_ife, x_ex, x_cont, x_brk, x_pass, x_frz, x_for, v_var, v_lit, v_glo, v_bin, v_neg, v_cmp, v_chain, v_not, v_and, v_or, v_ite, v_call, v_blt, v_ix, v_slc, v_lst, v_tup, v_lc, v_rev, es_nil', es_cons', ea_nil, ea_cons, argB, thn_nx, thn_rt, thn_ct, thn_br, bind_ok, so_ok, opt_some, bT_nm, bT_tp, bTs_nil, bTs_cons, getB_0, getB_s, fi_v, fi_r, fi_t, Q.M.isR, Q.M.op, Q.IK.md, im_seq, im_rng1, im_rng2, im_enum, im_zip, im_rng3, im_items, seq1_sq, zipD_eq, enumD_eq, seqOf_sq, seqOf_l, seqOf_t, seq1_l, seq1_t, len_sq, ix_sq, rev_sq, Option.map_some, Option.bind_some, List.set_cons_zero, List.set_cons_succ, List.map_cons, List.map_nil, unown, List.any_cons, List.any_nil, isOwn, Bool.or_false, Bool.or_true, Bool.false_and, Bool.true_and, Bool.and_false, Bool.and_true, finO, List.length_cons, List.length_nil, List.replicate, List.cons_append, List.nil_append, Nat.reduceSub, Nat.reduceAdd, Nat.sub_self, wipeB, Bool.not_true, Bool.not_false, Option.getD_some, cmpD, ltD, eqD_int, tru_bool, noLst_fq, tru_none, noLst, tup_l, tup_t, tup_sq, list_sq, len_l, len_t, grd_true, bin_addI, bin_subI, ix_l, ix_t, big1, big2]
theorem s_3 : exS G1 10000 w_0_3 [.un, .tape, v2, v3, v4, v5, v6, v7, v8, v9, .val (fq a), .val (fq b), v12, v13, v14, v15, v16, v17, v18, v19] tp = .nx [.un, .tape, v2, v3, v4, v5, v6, v7, v8, v9, .val (fq a), .val (fq b), v12, v13, v14, v15, v16, v17, v18, v19] tp := by
  have sa : SmQ a := ha.q.sm
  have sb : SmQ b := hb.q.sm
  have e1 := f_least 28 tp a b (by omega) sa sb
  have e2 := f_greatest 28 tp a b (by omega) sa sb
  have e3 := f_size 28 tp a (by omega)
  have e4 := f_lless 28 tp a b (by omega) sa sb
  have e5 := f_lless 28 tp b a (by omega) sb sa
  dsimp only at e1 e2
  by_cases h1 : b < a
  · rw [decide_eq_true h1] at e5
    rw [if_pos h1] at e1
    by_cases h2 : a < b
    · rw [decide_eq_true h2] at e4
      rw [if_pos h2] at e2
      simp only [e1, e2, e3, e4, e5, ix0_fq, ix1_fq, abs_i, eq_i2, eq_fq, decide_true, beq_self_eq_true, xs_nil, xs_cons, x_set, x_setL, x_par, x_unp, x_app, x_ext, x_sub, x_aug, x_ret, x_ife, x_ex, x_cont, x_brk, x_pass, x_frz, x_for, v_var, v_lit, v_glo, v_bin, v_neg, v_cmp, v_chain, v_not, v_and, v_or, v_ite, v_call, v_blt, v_ix, v_slc, v_lst, v_tup, v_lc, v_rev, es_nil', es_cons', ea_nil, ea_cons, argB, thn_nx, thn_rt, thn_ct, thn_br, bind_ok, so_ok, opt_some, bT_nm, bT_tp, bTs_nil, bTs_cons, getB_0, getB_s, fi_v, fi_r, fi_t, Q.M.isR, Q.M.op, Q.IK.md, im_seq, im_rng1, im_rng2, im_enum, im_zip, im_rng3, im_items, seq1_sq, zipD_eq, enumD_eq, seqOf_sq, seqOf_l, seqOf_t, seq1_l, seq1_t, len_sq, ix_sq, rev_sq, Option.map_some, Option.bind_some, List.set_cons_zero, List.set_cons_succ, List.map_cons, List.map_nil, unown, List.any_cons, List.any_nil, isOwn, Bool.or_false, Bool.or_true, Bool.false_and, Bool.true_and, Bool.and_false, Bool.and_true, finO, List.length_cons, List.length_nil, List.replicate, List.cons_append, List.nil_append, Nat.reduceSub, Nat.reduceAdd, Nat.sub_self, wipeB, Bool.not_true, Bool.not_false, Option.getD_some, cmpD, ltD, eqD_int, tru_bool, noLst_fq, tru_none, noLst, tup_l, tup_t, tup_sq, list_sq, len_l, len_t, grd_true, bin_addI, bin_subI, ix_l, ix_t, big1, big2]
    · rw [decide_eq_false h2] at e4
      rw [if_neg h2] at e2
      simp only [e1, e2, e3, e4, e5, ix0_fq, ix1_fq, abs_i, eq_i2, eq_fq, decide_true, beq_self_eq_true, xs_nil, xs_cons, x_set, x_setL, x_par, x_unp, x_app, x_ext, x_sub, x_aug, x_ret, x_ife, x_ex, x_cont, x_brk, x_pass, x_frz, x_for, v_var, v_lit, v_glo, v_bin, v_neg, v_cmp, v_chain, v_not, v_and, v_or, v_ite, v_call, v_blt, v_ix, v_slc, v_lst, v_tup, v_lc, v_rev, es_nil', es_cons', ea_nil, ea_cons, argB, thn_nx, thn_rt, thn_ct, thn_br, bind_ok, so_ok, opt_some, bT_nm, bT_tp, bTs_nil, bTs_cons, getB_0, getB_s, fi_v, fi_r, fi_t, Q.M.isR, Q.M.op, Q.IK.md, im_seq, im_rng1, im_rng2, im_enum, im_zip, im_rng3, im_items, seq1_sq, zipD_eq, enumD_eq, seqOf_sq, seqOf_l, seqOf_t, seq1_l, seq1_t, len_sq, ix_sq, rev_sq, Option.map_some, Option.bind_some, List.set_cons_zero, List.set_cons_succ, List.map_cons, List.map_nil, unown, List.any_cons, List.any_nil, isOwn, Bool.or_false, Bool.or_true, Bool.false_and, Bool.true_and, Bool.and_false, Bool.and_true, finO, List.length_cons, List.length_nil, List.replicate, List.cons_append, List.nil_append, Nat.reduceSub, Nat.reduceAdd, Nat.sub_self, wipeB, Bool.not_true, Bool.not_false, Option.getD_some, cmpD, ltD, eqD_int, tru_bool, noLst_fq, tru_none, noLst, tup_l, tup_t, tup_sq, list_sq, len_l, len_t, grd_true, bin_addI, bin_subI, ix_l, ix_t, big1, big2]
  · rw [decide_eq_false h1] at e5
    rw [if_neg h1] at e1
    by_cases h2 : a < b
    · rw [decide_eq_true h2] at e4
      rw [if_pos h2] at e2
      simp only [e1, e2, e3, e4, e5, ix0_fq, ix1_fq, abs_i, eq_i2, eq_fq, decide_true, beq_self_eq_true, xs_nil, xs_cons, x_set, x_setL, x_par, x_unp, x_app, x_ext, x_sub, x_aug, x_ret, x_ife, x_ex, x_cont, x_brk, x_pass, x_frz, x_for, v_var, v_lit, v_glo, v_bin, v_neg, v_cmp, v_chain, v_not, v_and, v_or, v_ite, v_call, v_blt, v_ix, v_slc, v_lst, v_tup, v_lc, v_rev, es_nil', es_cons', ea_nil, ea_cons, argB, thn_nx, thn_rt, thn_ct, thn_br, bind_ok, so_ok, opt_some, bT_nm, bT_tp, bTs_nil, bTs_cons, getB_0, getB_s, fi_v, fi_r, fi_t, Q.M.isR, Q.M.op, Q.IK.md, im_seq, im_rng1, im_rng2, im_enum, im_zip, im_rng3, im_items, seq1_sq, zipD_eq, enumD_eq, seqOf_sq, seqOf_l, seqOf_t, seq1_l, seq1_t, len_sq, ix_sq, rev_sq, Option.map_some, Option.bind_some, List.set_cons_zero, List.set_cons_succ, List.map_cons, List.map_nil, unown, List.any_cons, List.any_nil, isOwn, Bool.or_false, Bool.or_true, Bool.false_and, Bool.true_and, Bool.and_false, Bool.and_true, finO, List.length_cons, List.length_nil, List.replicate, List.cons_append, List.nil_append, Nat.reduceSub, Nat.reduceAdd, Nat.sub_self, wipeB, Bool.not_true, Bool.not_false, Option.getD_some, cmpD, ltD, eqD_int, tru_bool, noLst_fq, tru_none, noLst, tup_l, tup_t, tup_sq, list_sq, len_l, len_t, grd_true, bin_addI, bin_subI, ix_l, ix_t, big1, big2]
    · rw [decide_eq_false h2] at e4
      rw [if_neg h2] at e2
      simp only [e1, e2, e3, e4, e5, ix0_fq, ix1_fq, abs_i, eq_i2, eq_fq, decide_true, beq_self_eq_true, xs_nil, xs_cons, x_set, x_setL, x_par, x_unp, x_app, x_ext, x_sub, x_aug, x_ret, x_ife, x_ex, x_cont, x_brk, x_pass, x_frz, x_for, v_var, v_lit, v_glo, v_bin, v_neg, v_cmp, v_chain, v_not, v_and, v_or, v_ite, v_call, v_blt, v_ix, v_slc, v_lst, v_tup, v_lc, v_rev, es_nil', es_cons', ea_nil, ea_cons, argB, thn_nx, thn_rt, thn_ct, thn_br, bind_ok, so_ok, opt_some, bT_nm, bT_tp, bTs_nil, bTs_cons, getB_0, getB_s, fi_v, fi_r, fi_t, Q.M.isR, Q.M.op, Q.IK.md, im_seq, im_rng1, im_rng2, im_enum, im_zip, im_rng3, im_items, seq1_sq, zipD_eq, enumD_eq, seqOf_sq, seqOf_l, seqOf_t, seq1_l, seq1_t, len_sq, ix_sq, rev_sq, Option.map_some, Option.bind_some, List.set_cons_zero, List.set_cons_succ, List.map_cons, List.map_nil, unown, List.any_cons, List.any_nil, isOwn, Bool.or_false, Bool.or_true, Bool.false_and, Bool.true_and, Bool.and_false, Bool.and_true, finO, List.length_cons, List.length_nil, List.replicate, List.cons_append, List.nil_append, Nat.reduceSub, Nat.reduceAdd, Nat.sub_self, wipeB, Bool.not_true, Bool.not_false, Option.getD_some, cmpD, ltD, eqD_int, tru_bool, noLst_fq, tru_none, noLst, tup_l, tup_t, tup_sq, list_sq, len_l, len_t, grd_true, bin_addI, bin_subI, ix_l, ix_t, big1, big2]
end
theorem s_4 (hT : TpN n tp) (hn : n ≤ 90000) : ∃ (x y : Int) (tp' : Tp), -10 ≤ x ∧ x ≤ 10 ∧ -4 ≤ y ∧ y ≤ 5 ∧ TpN (n + 2) tp' ∧
    exS G1 10000 w_0_4 [.un, .tape, v2, v3, v4, v5, v6, v7, v8, v9, v10, v11, v12, v13, v14, v15, v16, v17, v18, v19] tp = .nx [.un, .tape, v2, v3, v4, v5, v6, v7, v8, v9, v10, v11, .val (.int x), .val (.int y), v14, v15, v16, v17, v18, v19] tp' := by
  obtain ⟨x, t1, a1, a2, a3⟩ := f_take 28 tp n 20 (by omega) hT (by omega) (by omega) (by omega)
  obtain ⟨y, t2, b1, b2, b3⟩ := f_take 28 t1 (n + 1) 9 (by omega) a2 (by omega) (by omega) (by omega)
  rw [show (((20 : Nat)) : Int) = 20 from rfl] at a3
  rw [show (((9 : Nat)) : Int) = 9 from rfl] at b3
  refine ⟨(x : Int) - 10, (y : Int) - 4, t2, by omega, by omega, by omega, by omega, b2, ?_⟩
  simp only [a3, b3, xs_nil, xs_cons, x_set, x_setL, x_par, x_unp, x_app, x_ext, x_sub, x_aug, x_ret, x_ife, x_ex, x_cont, x_brk, x_pass, x_frz, x_for, v_var, v_lit, v_glo, v_bin, v_neg, v_cmp, v_chain, v_not, v_and, v_or, v_ite, v_call, v_blt, v_ix, v_slc, v_lst, v_tup, v_lc, v_rev, es_nil', es_cons', ea_nil, ea_cons, argB, thn_nx, thn_rt, thn_ct, thn_br, bind_ok, so_ok, opt_some, bT_nm, bT_tp, bTs_nil, bTs_cons, getB_0, getB_s, fi_v, fi_r, fi_t, Q.M.isR, Q.M.op, Q.IK.md, im_seq, im_rng1, im_rng2, im_enum, im_zip, im_rng3, im_items, seq1_sq, zipD_eq, enumD_eq, seqOf_sq, seqOf_l, seqOf_t, seq1_l, seq1_t, len_sq, ix_sq, rev_sq, Option.map_some, Option.bind_some, List.set_cons_zero, List.set_cons_succ, List.map_cons, List.map_nil, unown, List.any_cons, List.any_nil, isOwn, Bool.or_false, Bool.or_true, Bool.false_and, Bool.true_and, Bool.and_false, Bool.and_true, finO, List.length_cons, List.length_nil, List.replicate, List.cons_append, List.nil_append, Nat.reduceSub, Nat.reduceAdd, Nat.sub_self, wipeB, Bool.not_true, Bool.not_false, Option.getD_some, cmpD, ltD, eqD_int, tru_bool, noLst_fq, tru_none, noLst, tup_l, tup_t, tup_sq, list_sq, len_l, len_t, grd_true, bin_addI, bin_subI, ix_l, ix_t, big1, big2]
theorem s_5 {x y : Int} (h1 : -10 ≤ x) (h2 : x ≤ 10) (h3 : -4 ≤ y) (h4 : y ≤ 5) : exS G1 10000 w_0_5 [.un, .tape, v2, v3, v4, v5, v6, v7, v8, v9, v10, v11, .val (.int x), .val (.int y), v14, v15, v16, v17, v18, v19] tp = .nx [.un, .tape, v2, v3, v4, v5, v6, v7, v8, v9, v10, v11, .val (.int x), .val (.int y), v14, v15, v16, v17, v18, v19] tp := by
  by_cases h0 : y = 0
  · subst h0
    have e1 := share_zero (es := codes) (gl := gl) (fuel := 10000) (i := 0) (k := 27) (tp := tp) (n := x) rfl
    have z : ((0 : Int) == 0) = true := rfl
    simp only [z, v_rfs, e1, bind_exc, con0, xs_nil, xs_cons, x_set, x_setL, x_par, x_unp, x_app, x_ext, x_sub, x_aug, x_ret, x_ife, x_ex, x_cont, x_brk, x_pass, x_frz, x_for, v_var, v_lit, v_glo, v_bin, v_neg, v_cmp, v_chain, v_not, v_and, v_or, v_ite, v_call, v_blt, v_ix, v_slc, v_lst, v_tup, v_lc, v_rev, es_nil', es_cons', ea_nil, ea_cons, argB, thn_nx, thn_rt, thn_ct, thn_br, bind_ok, so_ok, opt_some, bT_nm, bT_tp, bTs_nil, bTs_cons, getB_0, getB_s, fi_v, fi_r, fi_t, Q.M.isR, Q.M.op, Q.IK.md, im_seq, im_rng1, im_rng2, im_enum, im_zip, im_rng3, im_items, seq1_sq, zipD_eq, enumD_eq, seqOf_sq, seqOf_l, seqOf_t, seq1_l, seq1_t, len_sq, ix_sq, rev_sq, Option.map_some, Option.bind_some, List.set_cons_zero, List.set_cons_succ, List.map_cons, List.map_nil, unown, List.any_cons, List.any_nil, isOwn, Bool.or_false, Bool.or_true, Bool.false_and, Bool.true_and, Bool.and_false, Bool.and_true, finO, List.length_cons, List.length_nil, List.replicate, List.cons_append, List.nil_append, Nat.reduceSub, Nat.reduceAdd, Nat.sub_self, wipeB, Bool.not_true, Bool.not_false, Option.getD_some, cmpD, ltD, eqD_int, tru_bool, noLst_fq, tru_none, noLst, tup_l, tup_t, tup_sq, list_sq, len_l, len_t, grd_true, bin_addI, bin_subI, ix_l, ix_t, big1, big2]
  · have z : (y == 0) = false := by rw [beq_eq_false_iff_ne]; exact h0
    have e1 := f_share 28 tp x y (by omega) h0 (Nat.lt_of_lt_of_le (show y.natAbs < 2 ^ 3 by omega) (pow_le (by decide)))
    have hy : (if y < 0 then -y else y) ≠ 0 := by split <;> omega
    have e2 := fun n => f_ratio 28 tp n (if y < 0 then -y else y) (by omega) hy (Nat.lt_of_lt_of_le (show (if y < 0 then -y else y).natAbs < 2 ^ 3 by split <;> omega) (pow_le (by decide)))
    by_cases hp : 0 < y
    · have q : decide (0 < y) = true := decide_eq_true hp
      have e3 := e2 x
      rw [if_neg (show ¬ y < 0 by omega)] at e3
      simp only [z, e1, q, abs_i, if_neg (show ¬ y < 0 by omega), e3, eq_fq, decide_true, xs_nil, xs_cons, x_set, x_setL, x_par, x_unp, x_app, x_ext, x_sub, x_aug, x_ret, x_ife, x_ex, x_cont, x_brk, x_pass, x_frz, x_for, v_var, v_lit, v_glo, v_bin, v_neg, v_cmp, v_chain, v_not, v_and, v_or, v_ite, v_call, v_blt, v_ix, v_slc, v_lst, v_tup, v_lc, v_rev, es_nil', es_cons', ea_nil, ea_cons, argB, thn_nx, thn_rt, thn_ct, thn_br, bind_ok, so_ok, opt_some, bT_nm, bT_tp, bTs_nil, bTs_cons, getB_0, getB_s, fi_v, fi_r, fi_t, Q.M.isR, Q.M.op, Q.IK.md, im_seq, im_rng1, im_rng2, im_enum, im_zip, im_rng3, im_items, seq1_sq, zipD_eq, enumD_eq, seqOf_sq, seqOf_l, seqOf_t, seq1_l, seq1_t, len_sq, ix_sq, rev_sq, Option.map_some, Option.bind_some, List.set_cons_zero, List.set_cons_succ, List.map_cons, List.map_nil, unown, List.any_cons, List.any_nil, isOwn, Bool.or_false, Bool.or_true, Bool.false_and, Bool.true_and, Bool.and_false, Bool.and_true, finO, List.length_cons, List.length_nil, List.replicate, List.cons_append, List.nil_append, Nat.reduceSub, Nat.reduceAdd, Nat.sub_self, wipeB, Bool.not_true, Bool.not_false, Option.getD_some, cmpD, ltD, eqD_int, tru_bool, noLst_fq, tru_none, noLst, tup_l, tup_t, tup_sq, list_sq, len_l, len_t, grd_true, bin_addI, bin_subI, ix_l, ix_t, big1, big2]
    · have q : decide (0 < y) = false := decide_eq_false hp
      have e3 := e2 (0 - x)
      rw [if_pos (show y < 0 by omega), Int.zero_sub, Rat.neg_divInt_neg] at e3
      simp only [z, e1, q, abs_i, if_pos (show y < 0 by omega), Int.zero_sub, e3, eq_fq, decide_true, xs_nil, xs_cons, x_set, x_setL, x_par, x_unp, x_app, x_ext, x_sub, x_aug, x_ret, x_ife, x_ex, x_cont, x_brk, x_pass, x_frz, x_for, v_var, v_lit, v_glo, v_bin, v_neg, v_cmp, v_chain, v_not, v_and, v_or, v_ite, v_call, v_blt, v_ix, v_slc, v_lst, v_tup, v_lc, v_rev, es_nil', es_cons', ea_nil, ea_cons, argB, thn_nx, thn_rt, thn_ct, thn_br, bind_ok, so_ok, opt_some, bT_nm, bT_tp, bTs_nil, bTs_cons, getB_0, getB_s, fi_v, fi_r, fi_t, Q.M.isR, Q.M.op, Q.IK.md, im_seq, im_rng1, im_rng2, im_enum, im_zip, im_rng3, im_items, seq1_sq, zipD_eq, enumD_eq, seqOf_sq, seqOf_l, seqOf_t, seq1_l, seq1_t, len_sq, ix_sq, rev_sq, Option.map_some, Option.bind_some, List.set_cons_zero, List.set_cons_succ, List.map_cons, List.map_nil, unown, List.any_cons, List.any_nil, isOwn, Bool.or_false, Bool.or_true, Bool.false_and, Bool.true_and, Bool.and_false, Bool.and_true, finO, List.length_cons, List.length_nil, List.replicate, List.cons_append, List.nil_append, Nat.reduceSub, Nat.reduceAdd, Nat.sub_self, wipeB, Bool.not_true, Bool.not_false, Option.getD_some, cmpD, ltD, eqD_int, tru_bool, noLst_fq, tru_none, noLst, tup_l, tup_t, tup_sq, list_sq, len_l, len_t, grd_true, bin_addI, bin_subI, ix_l, ix_t, big1, big2]
theorem s_6 (hT : TpN n tp) (hn : n ≤ 90000) : ∃ (m : Nat) (tp' : Tp), m < 5 ∧ TpN (n + 1) tp' ∧
    exS G1 10000 w_0_6 [.un, .tape, v2, v3, v4, v5, v6, v7, v8, v9, v10, v11, v12, v13, v14, v15, v16, v17, v18, v19] tp = .nx [.un, .tape, v2, .val (.int (m : Nat)), v4, v5, v6, v7, v8, v9, v10, v11, v12, v13, v14, v15, v16, v17, v18, v19] tp' := by
  obtain ⟨x, t1, a1, a2, a3⟩ := f_take 28 tp n 5 (by omega) hT (by omega) (by omega) (by omega)
  rw [show (((5 : Nat)) : Int) = 5 from rfl] at a3
  refine ⟨x, t1, a1, a2, ?_⟩
  simp only [a3, xs_nil, xs_cons, x_set, x_setL, x_par, x_unp, x_app, x_ext, x_sub, x_aug, x_ret, x_ife, x_ex, x_cont, x_brk, x_pass, x_frz, x_for, v_var, v_lit, v_glo, v_bin, v_neg, v_cmp, v_chain, v_not, v_and, v_or, v_ite, v_call, v_blt, v_ix, v_slc, v_lst, v_tup, v_lc, v_rev, es_nil', es_cons', ea_nil, ea_cons, argB, thn_nx, thn_rt, thn_ct, thn_br, bind_ok, so_ok, opt_some, bT_nm, bT_tp, bTs_nil, bTs_cons, getB_0, getB_s, fi_v, fi_r, fi_t, Q.M.isR, Q.M.op, Q.IK.md, im_seq, im_rng1, im_rng2, im_enum, im_zip, im_rng3, im_items, seq1_sq, zipD_eq, enumD_eq, seqOf_sq, seqOf_l, seqOf_t, seq1_l, seq1_t, len_sq, ix_sq, rev_sq, Option.map_some, Option.bind_some, List.set_cons_zero, List.set_cons_succ, List.map_cons, List.map_nil, unown, List.any_cons, List.any_nil, isOwn, Bool.or_false, Bool.or_true, Bool.false_and, Bool.true_and, Bool.and_false, Bool.and_true, finO, List.length_cons, List.length_nil, List.replicate, List.cons_append, List.nil_append, Nat.reduceSub, Nat.reduceAdd, Nat.sub_self, wipeB, Bool.not_true, Bool.not_false, Option.getD_some, cmpD, ltD, eqD_int, tru_bool, noLst_fq, tru_none, noLst, tup_l, tup_t, tup_sq, list_sq, len_l, len_t, grd_true, bin_addI, bin_subI, ix_l, ix_t, big1, big2]
theorem one_t : PyData.tuple [.int 1, .int 1] = fq 1 := rfl
theorem s_7 : exS G1 10000 w_0_7 [.un, .tape, v2, v3, v4, v5, v6, v7, v8, v9, v10, v11, v12, v13, v14, v15, v16, v17, v18, v19] tp = .nx [.un, .tape, v2, v3, .val (fq 1), v5, v6, v7, v8, v9, v10, v11, v12, v13, v14, v15, v16, v17, v18, v19] tp := by
  simp only [one_t, xs_nil, xs_cons, x_set, x_setL, x_par, x_unp, x_app, x_ext, x_sub, x_aug, x_ret, x_ife, x_ex, x_cont, x_brk, x_pass, x_frz, x_for, v_var, v_lit, v_glo, v_bin, v_neg, v_cmp, v_chain, v_not, v_and, v_or, v_ite, v_call, v_blt, v_ix, v_slc, v_lst, v_tup, v_lc, v_rev, es_nil', es_cons', ea_nil, ea_cons, argB, thn_nx, thn_rt, thn_ct, thn_br, bind_ok, so_ok, opt_some, bT_nm, bT_tp, bTs_nil, bTs_cons, getB_0, getB_s, fi_v, fi_r, fi_t, Q.M.isR, Q.M.op, Q.IK.md, im_seq, im_rng1, im_rng2, im_enum, im_zip, im_rng3, im_items, seq1_sq, zipD_eq, enumD_eq, seqOf_sq, seqOf_l, seqOf_t, seq1_l, seq1_t, len_sq, ix_sq, rev_sq, Option.map_some, Option.bind_some, List.set_cons_zero, List.set_cons_succ, List.map_cons, List.map_nil, unown, List.any_cons, List.any_nil, isOwn, Bool.or_false, Bool.or_true, Bool.false_and, Bool.true_and, Bool.and_false, Bool.and_true, finO, List.length_cons, List.length_nil, List.replicate, List.cons_append, List.nil_append, Nat.reduceSub, Nat.reduceAdd, Nat.sub_self, wipeB, Bool.not_true, Bool.not_false, Option.getD_some, cmpD, ltD, eqD_int, tru_bool, noLst_fq, tru_none, noLst, tup_l, tup_t, tup_sq, list_sq, len_l, len_t, grd_true, bin_addI, bin_subI, ix_l, ix_t, big1, big2]
theorem s_8 {m : Nat} (ha : Bd 60 9 a) (hm : m < 5) : ∃ v5', exS G1 10000 w_0_8 [.un, .tape, v2, .val (.int (m : Nat)), .val (fq 1), v5, v6, v7, v8, v9, .val (fq a), v11, v12, v13, v14, v15, v16, v17, v18, v19] tp = .nx [.un, .tape, v2, .val (.int (m : Nat)), .val (fq (powR a m)), v5', v6, v7, v8, v9, .val (fq a), v11, v12, v13, v14, v15, v16, v17, v18, v19] tp := by
  have loop := for_run (tp := tp) (f := wl_0 G1 10000) (e := fun j : Nat => PyData.int (j : Int)) (step := fun s _ => s * a) (Ok := fun n q => Bq (1 + n * 6) (n * 4) q) (I := fun q j => [.un, .tape, v2, .val (.int (m : Nat)), .val (fq q), j, v6, v7, v8, v9, .val (fq a), v11, v12, v13, v14, v15, v16, v17, v18, v19]) (xs := List.range m) (n := 0) (a := 1) (j := v5) (N := m) (by simp) (fun c q j x hc hx hq => ?_) (by simpa using Bq.one)
  · obtain ⟨-, j', e⟩ := loop
    refine ⟨j', ?_⟩
    simp only [rng1_nat (show m ≤ 1000 by omega), e, powR, xs_nil, xs_cons, x_set, x_setL, x_par, x_unp, x_app, x_ext, x_sub, x_aug, x_ret, x_ife, x_ex, x_cont, x_brk, x_pass, x_frz, x_for, v_var, v_lit, v_glo, v_bin, v_neg, v_cmp, v_chain, v_not, v_and, v_or, v_ite, v_call, v_blt, v_ix, v_slc, v_lst, v_tup, v_lc, v_rev, es_nil', es_cons', ea_nil, ea_cons, argB, thn_nx, thn_rt, thn_ct, thn_br, bind_ok, so_ok, opt_some, bT_nm, bT_tp, bTs_nil, bTs_cons, getB_0, getB_s, fi_v, fi_r, fi_t, Q.M.isR, Q.M.op, Q.IK.md, im_seq, im_rng1, im_rng2, im_enum, im_zip, im_rng3, im_items, seq1_sq, zipD_eq, enumD_eq, seqOf_sq, seqOf_l, seqOf_t, seq1_l, seq1_t, len_sq, ix_sq, rev_sq, Option.map_some, Option.bind_some, List.set_cons_zero, List.set_cons_succ, List.map_cons, List.map_nil, unown, List.any_cons, List.any_nil, isOwn, Bool.or_false, Bool.or_true, Bool.false_and, Bool.true_and, Bool.and_false, Bool.and_true, finO, List.length_cons, List.length_nil, List.replicate, List.cons_append, List.nil_append, Nat.reduceSub, Nat.reduceAdd, Nat.sub_self, wipeB, Bool.not_true, Bool.not_false, Option.getD_some, cmpD, ltD, eqD_int, tru_bool, noLst_fq, tru_none, noLst, tup_l, tup_t, tup_sq, list_sq, len_l, len_t, grd_true, bin_addI, bin_subI, ix_l, ix_t, big1, big2]
  · refine ⟨?_, .val (.int (x : Nat)), ?_⟩
    · exact (hq.mul ha.q).mono (by omega) (by omega)
    · have := f_ltimes 28 tp q a (by omega) (hq.sm (by omega)) (ha.q.sm (by omega)) trivial
      simp only [forF, this, xs_nil, xs_cons, x_set, x_setL, x_par, x_unp, x_app, x_ext, x_sub, x_aug, x_ret, x_ife, x_ex, x_cont, x_brk, x_pass, x_frz, x_for, v_var, v_lit, v_glo, v_bin, v_neg, v_cmp, v_chain, v_not, v_and, v_or, v_ite, v_call, v_blt, v_ix, v_slc, v_lst, v_tup, v_lc, v_rev, es_nil', es_cons', ea_nil, ea_cons, argB, thn_nx, thn_rt, thn_ct, thn_br, bind_ok, so_ok, opt_some, bT_nm, bT_tp, bTs_nil, bTs_cons, getB_0, getB_s, fi_v, fi_r, fi_t, Q.M.isR, Q.M.op, Q.IK.md, im_seq, im_rng1, im_rng2, im_enum, im_zip, im_rng3, im_items, seq1_sq, zipD_eq, enumD_eq, seqOf_sq, seqOf_l, seqOf_t, seq1_l, seq1_t, len_sq, ix_sq, rev_sq, Option.map_some, Option.bind_some, List.set_cons_zero, List.set_cons_succ, List.map_cons, List.map_nil, unown, List.any_cons, List.any_nil, isOwn, Bool.or_false, Bool.or_true, Bool.false_and, Bool.true_and, Bool.and_false, Bool.and_true, finO, List.length_cons, List.length_nil, List.replicate, List.cons_append, List.nil_append, Nat.reduceSub, Nat.reduceAdd, Nat.sub_self, wipeB, Bool.not_true, Bool.not_false, Option.getD_some, cmpD, ltD, eqD_int, tru_bool, noLst_fq, tru_none, noLst, tup_l, tup_t, tup_sq, list_sq, len_l, len_t, grd_true, bin_addI, bin_subI, ix_l, ix_t, big1, big2]
theorem s_9 {m : Nat} (ha : Bd 60 9 a) (hm : m < 5) : exS G1 10000 w_0_9 [.un, .tape, v2, .val (.int (m : Nat)), .val (fq (powR a m)), v5, v6, v7, v8, v9, .val (fq a), v11, v12, v13, v14, v15, v16, v17, v18, v19] tp = .nx [.un, .tape, v2, .val (.int (m : Nat)), .val (fq (powR a m)), v5, v6, v7, v8, v9, .val (fq a), v11, v12, v13, v14, v15, v16, v17, v18, v19] tp := by
  have e1 := f_power 28 tp a m 6 4 (by omega) (by omega) ha.q (by omega)
  have hN := ha.num
  obtain ⟨s, hs, hsh⟩ := text_some (q := a) ⟨by omega, by omega⟩
  have e2 := f_text 28 tp a _ (by omega) hs
  rcases textD_some hs with ⟨hq, h1⟩ | ⟨hq, x, y, z, h1, h2, h3, h4⟩
  · have e : ((a.den : Int) == 1) = true := by rw [hq]; rfl
    simp only [e1, e2, ix0_fq, ix1_fq, e, h1, eq_fq, decide_true, eq_str hsh, xs_nil, xs_cons, x_set, x_setL, x_par, x_unp, x_app, x_ext, x_sub, x_aug, x_ret, x_ife, x_ex, x_cont, x_brk, x_pass, x_frz, x_for, v_var, v_lit, v_glo, v_bin, v_neg, v_cmp, v_chain, v_not, v_and, v_or, v_ite, v_call, v_blt, v_ix, v_slc, v_lst, v_tup, v_lc, v_rev, es_nil', es_cons', ea_nil, ea_cons, argB, thn_nx, thn_rt, thn_ct, thn_br, bind_ok, so_ok, opt_some, bT_nm, bT_tp, bTs_nil, bTs_cons, getB_0, getB_s, fi_v, fi_r, fi_t, Q.M.isR, Q.M.op, Q.IK.md, im_seq, im_rng1, im_rng2, im_enum, im_zip, im_rng3, im_items, seq1_sq, zipD_eq, enumD_eq, seqOf_sq, seqOf_l, seqOf_t, seq1_l, seq1_t, len_sq, ix_sq, rev_sq, Option.map_some, Option.bind_some, List.set_cons_zero, List.set_cons_succ, List.map_cons, List.map_nil, unown, List.any_cons, List.any_nil, isOwn, Bool.or_false, Bool.or_true, Bool.false_and, Bool.true_and, Bool.and_false, Bool.and_true, finO, List.length_cons, List.length_nil, List.replicate, List.cons_append, List.nil_append, Nat.reduceSub, Nat.reduceAdd, Nat.sub_self, wipeB, Bool.not_true, Bool.not_false, Option.getD_some, cmpD, ltD, eqD_int, tru_bool, noLst_fq, tru_none, noLst, tup_l, tup_t, tup_sq, list_sq, len_l, len_t, grd_true, bin_addI, bin_subI, ix_l, ix_t, big1, big2]
  · have e : ((a.den : Int) == 1) = false := by
      rw [beq_eq_false_iff_ne]
      exact fun z => hq (by exact_mod_cast z)
    simp only [e1, e2, ix0_fq, ix1_fq, e, h1, bin_addD, h2, h3, h4, eq_fq, decide_true, eq_str hsh, xs_nil, xs_cons, x_set, x_setL, x_par, x_unp, x_app, x_ext, x_sub, x_aug, x_ret, x_ife, x_ex, x_cont, x_brk, x_pass, x_frz, x_for, v_var, v_lit, v_glo, v_bin, v_neg, v_cmp, v_chain, v_not, v_and, v_or, v_ite, v_call, v_blt, v_ix, v_slc, v_lst, v_tup, v_lc, v_rev, es_nil', es_cons', ea_nil, ea_cons, argB, thn_nx, thn_rt, thn_ct, thn_br, bind_ok, so_ok, opt_some, bT_nm, bT_tp, bTs_nil, bTs_cons, getB_0, getB_s, fi_v, fi_r, fi_t, Q.M.isR, Q.M.op, Q.IK.md, im_seq, im_rng1, im_rng2, im_enum, im_zip, im_rng3, im_items, seq1_sq, zipD_eq, enumD_eq, seqOf_sq, seqOf_l, seqOf_t, seq1_l, seq1_t, len_sq, ix_sq, rev_sq, Option.map_some, Option.bind_some, List.set_cons_zero, List.set_cons_succ, List.map_cons, List.map_nil, unown, List.any_cons, List.any_nil, isOwn, Bool.or_false, Bool.or_true, Bool.false_and, Bool.true_and, Bool.and_false, Bool.and_true, finO, List.length_cons, List.length_nil, List.replicate, List.cons_append, List.nil_append, Nat.reduceSub, Nat.reduceAdd, Nat.sub_self, wipeB, Bool.not_true, Bool.not_false, Option.getD_some, cmpD, ltD, eqD_int, tru_bool, noLst_fq, tru_none, noLst, tup_l, tup_t, tup_sq, list_sq, len_l, len_t, grd_true, bin_addI, bin_subI, ix_l, ix_t, big1, big2]
theorem isTup_t {xs : List D} : bltD .isTup [.tuple xs] = some (.bool true) := rfl
theorem isTup_l {xs : List D} : bltD .isTup [.list xs] = some (.bool false) := rfl
theorem at0 {x y : D} : atI [x, y] 0 = some x := rfl
theorem at1 {x y : D} : atI [x, y] 1 = some y := rfl
theorem is_isb {x y : Bool} : isD (.bool x) (.bool y) = some (x == y) := by cases x <;> cases y <;> rfl
theorem s_10 (ha : Bd 60 9 a) : exS G1 10000 w_0_10 [.un, .tape, v2, v3, v4, v5, v6, v7, v8, v9, .val (fq a), v11, v12, v13, v14, v15, v16, v17, v18, v19] tp = .nx [.un, .tape, v2, v3, v4, v5, v6, v7, v8, v9, .val (fq a), v11, v12, v13, v14, v15, v16, v17, v18, v19] tp := by
  have sa : SmQ a := ha.q.sm
  have hN := ha.num
  have hd := a.den_pos
  have e1 := f_isshare 28 tp a (by omega) sa
  have e2 : callC codes gl 10000 28 12 [.val (.tuple [.int (2 * a.num), .int (2 * (a.den : Int))])] tp = .ok (.bool false) tp := by
    rw [call_code (d := k_is_share 0) rfl rfl]
    have z1 : decide (1 ≤ 2 * (a.den : Int)) = true := decide_eq_true (by omega)
    have z2 := f_share 27 tp (2 * a.num) (2 * (a.den : Int)) (by omega) (by omega) (Nat.lt_of_lt_of_le (show (2 * (a.den : Int)).natAbs < 2 ^ 10 by omega) (pow_le (by decide)))
    have z3 : Rat.divInt (2 * a.num) (2 * (a.den : Int)) = a := by rw [Rat.divInt_mul_left (by decide), Rat.num_divInt_den]
    rw [z3] at z2
    have z4 : eqD (fq a) (.tuple [.int (2 * a.num), .int (2 * (a.den : Int))]) = some false := by
      rw [show fq a = .tuple [.int a.num, .int (a.den : Int)] from rfl, eq_i2]
      have : ((a.den : Int) == 2 * (a.den : Int)) = false := by
        rw [beq_eq_false_iff_ne]
        omega
      rw [this, Bool.and_false]
    have e2 : (2 : Int) == 2 := rfl
    simp only [k_is_share, isTup_t, len_t, e2, at0, at1, z1, z2, z4, Int.natCast_add, xs_nil, xs_cons, x_set, x_setL, x_par, x_unp, x_app, x_ext, x_sub, x_aug, x_ret, x_ife, x_ex, x_cont, x_brk, x_pass, x_frz, x_for, v_var, v_lit, v_glo, v_bin, v_neg, v_cmp, v_chain, v_not, v_and, v_or, v_ite, v_call, v_blt, v_ix, v_slc, v_lst, v_tup, v_lc, v_rev, es_nil', es_cons', ea_nil, ea_cons, argB, thn_nx, thn_rt, thn_ct, thn_br, bind_ok, so_ok, opt_some, bT_nm, bT_tp, bTs_nil, bTs_cons, getB_0, getB_s, fi_v, fi_r, fi_t, Q.M.isR, Q.M.op, Q.IK.md, im_seq, im_rng1, im_rng2, im_enum, im_zip, im_rng3, im_items, seq1_sq, zipD_eq, enumD_eq, seqOf_sq, seqOf_l, seqOf_t, seq1_l, seq1_t, len_sq, ix_sq, rev_sq, Option.map_some, Option.bind_some, List.set_cons_zero, List.set_cons_succ, List.map_cons, List.map_nil, unown, List.any_cons, List.any_nil, isOwn, Bool.or_false, Bool.or_true, Bool.false_and, Bool.true_and, Bool.and_false, Bool.and_true, finO, List.length_cons, List.length_nil, List.replicate, List.cons_append, List.nil_append, Nat.reduceSub, Nat.reduceAdd, Nat.sub_self, wipeB, Bool.not_true, Bool.not_false, Option.getD_some, cmpD, ltD, eqD_int, tru_bool, noLst_fq, tru_none, noLst, tup_l, tup_t, tup_sq, list_sq, len_l, len_t, grd_true, bin_addI, bin_subI, ix_l, ix_t, big1, big2]
    rfl
  have e3 : callC codes gl 10000 28 12 [.val (.tuple [.int a.num, .int (0 - (a.den : Int))])] tp = .ok (.bool false) tp := by
    rw [call_code (d := k_is_share 0) rfl rfl]
    have z1 : decide (1 ≤ 0 - (a.den : Int)) = false := decide_eq_false (by omega)
    have e2 : (2 : Int) == 2 := rfl
    simp only [k_is_share, isTup_t, len_t, e2, at0, at1, z1, Int.natCast_add, xs_nil, xs_cons, x_set, x_setL, x_par, x_unp, x_app, x_ext, x_sub, x_aug, x_ret, x_ife, x_ex, x_cont, x_brk, x_pass, x_frz, x_for, v_var, v_lit, v_glo, v_bin, v_neg, v_cmp, v_chain, v_not, v_and, v_or, v_ite, v_call, v_blt, v_ix, v_slc, v_lst, v_tup, v_lc, v_rev, es_nil', es_cons', ea_nil, ea_cons, argB, thn_nx, thn_rt, thn_ct, thn_br, bind_ok, so_ok, opt_some, bT_nm, bT_tp, bTs_nil, bTs_cons, getB_0, getB_s, fi_v, fi_r, fi_t, Q.M.isR, Q.M.op, Q.IK.md, im_seq, im_rng1, im_rng2, im_enum, im_zip, im_rng3, im_items, seq1_sq, zipD_eq, enumD_eq, seqOf_sq, seqOf_l, seqOf_t, seq1_l, seq1_t, len_sq, ix_sq, rev_sq, Option.map_some, Option.bind_some, List.set_cons_zero, List.set_cons_succ, List.map_cons, List.map_nil, unown, List.any_cons, List.any_nil, isOwn, Bool.or_false, Bool.or_true, Bool.false_and, Bool.true_and, Bool.and_false, Bool.and_true, finO, List.length_cons, List.length_nil, List.replicate, List.cons_append, List.nil_append, Nat.reduceSub, Nat.reduceAdd, Nat.sub_self, wipeB, Bool.not_true, Bool.not_false, Option.getD_some, cmpD, ltD, eqD_int, tru_bool, noLst_fq, tru_none, noLst, tup_l, tup_t, tup_sq, list_sq, len_l, len_t, grd_true, bin_addI, bin_subI, ix_l, ix_t, big1, big2]
    rfl
  have e4 : callC codes gl 10000 28 12 [.val (.list [.int 1, .int 1])] tp = .ok (.bool false) tp := by
    rw [call_code (d := k_is_share 0) rfl rfl]
    simp only [k_is_share, isTup_l, xs_nil, xs_cons, x_set, x_setL, x_par, x_unp, x_app, x_ext, x_sub, x_aug, x_ret, x_ife, x_ex, x_cont, x_brk, x_pass, x_frz, x_for, v_var, v_lit, v_glo, v_bin, v_neg, v_cmp, v_chain, v_not, v_and, v_or, v_ite, v_call, v_blt, v_ix, v_slc, v_lst, v_tup, v_lc, v_rev, es_nil', es_cons', ea_nil, ea_cons, argB, thn_nx, thn_rt, thn_ct, thn_br, bind_ok, so_ok, opt_some, bT_nm, bT_tp, bTs_nil, bTs_cons, getB_0, getB_s, fi_v, fi_r, fi_t, Q.M.isR, Q.M.op, Q.IK.md, im_seq, im_rng1, im_rng2, im_enum, im_zip, im_rng3, im_items, seq1_sq, zipD_eq, enumD_eq, seqOf_sq, seqOf_l, seqOf_t, seq1_l, seq1_t, len_sq, ix_sq, rev_sq, Option.map_some, Option.bind_some, List.set_cons_zero, List.set_cons_succ, List.map_cons, List.map_nil, unown, List.any_cons, List.any_nil, isOwn, Bool.or_false, Bool.or_true, Bool.false_and, Bool.true_and, Bool.and_false, Bool.and_true, finO, List.length_cons, List.length_nil, List.replicate, List.cons_append, List.nil_append, Nat.reduceSub, Nat.reduceAdd, Nat.sub_self, wipeB, Bool.not_true, Bool.not_false, Option.getD_some, cmpD, ltD, eqD_int, tru_bool, noLst_fq, tru_none, noLst, tup_l, tup_t, tup_sq, list_sq, len_l, len_t, grd_true, bin_addI, bin_subI, ix_l, ix_t, big1, big2]
  have i2 : smI 2 = true := rfl
  simp only [e1, e2, e3, e4, is_isb, ix0_fq, ix1_fq, mul_smI i2 sa.i1, mul_smI i2 sa.i2, beq_self_eq_true, xs_nil, xs_cons, x_set, x_setL, x_par, x_unp, x_app, x_ext, x_sub, x_aug, x_ret, x_ife, x_ex, x_cont, x_brk, x_pass, x_frz, x_for, v_var, v_lit, v_glo, v_bin, v_neg, v_cmp, v_chain, v_not, v_and, v_or, v_ite, v_call, v_blt, v_ix, v_slc, v_lst, v_tup, v_lc, v_rev, es_nil', es_cons', ea_nil, ea_cons, argB, thn_nx, thn_rt, thn_ct, thn_br, bind_ok, so_ok, opt_some, bT_nm, bT_tp, bTs_nil, bTs_cons, getB_0, getB_s, fi_v, fi_r, fi_t, Q.M.isR, Q.M.op, Q.IK.md, im_seq, im_rng1, im_rng2, im_enum, im_zip, im_rng3, im_items, seq1_sq, zipD_eq, enumD_eq, seqOf_sq, seqOf_l, seqOf_t, seq1_l, seq1_t, len_sq, ix_sq, rev_sq, Option.map_some, Option.bind_some, List.set_cons_zero, List.set_cons_succ, List.map_cons, List.map_nil, unown, List.any_cons, List.any_nil, isOwn, Bool.or_false, Bool.or_true, Bool.false_and, Bool.true_and, Bool.and_false, Bool.and_true, finO, List.length_cons, List.length_nil, List.replicate, List.cons_append, List.nil_append, Nat.reduceSub, Nat.reduceAdd, Nat.sub_self, wipeB, Bool.not_true, Bool.not_false, Option.getD_some, cmpD, ltD, eqD_int, tru_bool, noLst_fq, tru_none, noLst, tup_l, tup_t, tup_sq, list_sq, len_l, len_t, grd_true, bin_addI, bin_subI, ix_l, ix_t, big1, big2]
theorem s_11 (hT : TpN n tp) (hn : n ≤ 90000) : ∃ (s : Nat) (tp' : Tp), 1 ≤ s ∧ s ≤ 3 ∧ TpN (n + 1) tp' ∧
    exS G1 10000 w_0_11 [.un, .tape, v2, v3, v4, v5, v6, v7, v8, v9, v10, v11, v12, v13, v14, v15, v16, v17, v18, v19] tp = .nx [.un, .tape, v2, v3, v4, v5, .val (.int (s : Nat)), v7, v8, v9, v10, v11, v12, v13, v14, v15, v16, v17, v18, v19] tp' := by
  obtain ⟨x, t1, a1, a2, a3⟩ := f_take 28 tp n 3 (by omega) hT (by omega) (by omega) (by omega)
  rw [show (((3 : Nat)) : Int) = 3 from rfl] at a3
  refine ⟨1 + x, t1, by omega, by omega, a2, ?_⟩
  rw [show (((1 + x : Nat)) : Int) = 1 + (x : Int) by omega]
  simp only [a3, xs_nil, xs_cons, x_set, x_setL, x_par, x_unp, x_app, x_ext, x_sub, x_aug, x_ret, x_ife, x_ex, x_cont, x_brk, x_pass, x_frz, x_for, v_var, v_lit, v_glo, v_bin, v_neg, v_cmp, v_chain, v_not, v_and, v_or, v_ite, v_call, v_blt, v_ix, v_slc, v_lst, v_tup, v_lc, v_rev, es_nil', es_cons', ea_nil, ea_cons, argB, thn_nx, thn_rt, thn_ct, thn_br, bind_ok, so_ok, opt_some, bT_nm, bT_tp, bTs_nil, bTs_cons, getB_0, getB_s, fi_v, fi_r, fi_t, Q.M.isR, Q.M.op, Q.IK.md, im_seq, im_rng1, im_rng2, im_enum, im_zip, im_rng3, im_items, seq1_sq, zipD_eq, enumD_eq, seqOf_sq, seqOf_l, seqOf_t, seq1_l, seq1_t, len_sq, ix_sq, rev_sq, Option.map_some, Option.bind_some, List.set_cons_zero, List.set_cons_succ, List.map_cons, List.map_nil, unown, List.any_cons, List.any_nil, isOwn, Bool.or_false, Bool.or_true, Bool.false_and, Bool.true_and, Bool.and_false, Bool.and_true, finO, List.length_cons, List.length_nil, List.replicate, List.cons_append, List.nil_append, Nat.reduceSub, Nat.reduceAdd, Nat.sub_self, wipeB, Bool.not_true, Bool.not_false, Option.getD_some, cmpD, ltD, eqD_int, tru_bool, noLst_fq, tru_none, noLst, tup_l, tup_t, tup_sq, list_sq, len_l, len_t, grd_true, bin_addI, bin_subI, ix_l, ix_t, big1, big2]
end
end Q

set_option Elab.async false
set_option linter.all false
set_option maxRecDepth 100000
set_option exponentiation.threshold 4000
/-! k01: the law's statements, one by one: tables -/
namespace Q
open PySem PySem.Spec L2
open PyProof.Rows hiding St
theorem TpN.mono' {n m : Nat} {tp : Tp} (h : TpN n tp) (hnm : n ≤ m) : TpN m tp := ⟨h.1, h.2.1, by have := h.2.2; omega⟩
theorem zero_t : PyData.tuple [.int 0, .int 1] = fq 0 := Eq.trans rfl rfl
theorem Bd.z60 : Bd 60 9 0 := (Bd.zero (by decide)).le (by decide)
theorem fq_i (i : Int) : PyData.tuple [.int i, .int 1] = fq (i : Rat) := by
  unfold fq
  rw [Rat.num_intCast, Rat.den_intCast]
  rfl
abbrev tD (T : List (List Rat)) : D := .list (tb T)
structure TabOk (s : Nat) (T : List (List Rat)) (aims : List Rat) : Prop where
  h1 : 1 ≤ s
  h3 : s ≤ 3
  len : T.length = s
  row : ∀ r ∈ T, r.length = s ∧ ∀ q ∈ r, Bd 60 9 q
  al : aims.length = s
  aq : ∀ q ∈ aims, Bd 60 9 q
theorem TabOk.rw {s : Nat} {T : List (List Rat)} {aims : List Rat} (h : TabOk s T aims) {k : Nat} (hk : k < s) : rw_ T k ∈ T ∧ (rw_ T k).length = s ∧ ∀ q ∈ rw_ T k, Bd 60 9 q := by
  have hl := h.len
  have e : rw_ T k = T[k]'(by omega) := by
    unfold rw_
    rw [List.getElem?_eq_getElem (by omega)]
    rfl
  have hm : rw_ T k ∈ T := by rw [e]; exact List.getElem_mem _
  exact ⟨hm, h.row _ hm⟩
theorem TabOk.ent {s : Nat} {T : List (List Rat)} {aims : List Rat} (h : TabOk s T aims) {k c : Nat} (hk : k < s) (hc : c < s) : Bd 60 9 (en T k c) := by
  obtain ⟨h1, h2, h3⟩ := h.rw hk
  have : en T k c = (rw_ T k)[c]'(by omega) := by
    show ((rw_ T k)[c]?).getD 0 = _
    rw [List.getElem?_eq_getElem (by omega)]
    rfl
  rw [this]
  exact h3 _ (List.getElem_mem _)
theorem bigL {n : Nat} (h : n ≤ 1000) : big n = true := Nat.ble_eq_true_of_le (by omega)
section
variable {v2 v3 v4 v5 v6 v7 v8 v9 v10 v11 v12 v13 v14 v15 v16 v17 v18 v19 : B} {tp : Tp} {n s : Nat} {T : List (List Rat)} {aims : List Rat}
theorem in_12 (x : B) (hT : TpN n tp) (hn : n ≤ 90900) (h1 : 1 ≤ s) (h3 : s ≤ 3) : ∃ (r : List Rat) (tp' : Tp), r.length = s ∧ (∀ q ∈ r, Bd 60 9 q) ∧ TpN (n + 9) tp' ∧
    lcGo (wl_2 G1 [.un, .tape, v2, v3, v4, .un, .val (.int (s : Nat)), v7, v8, v9, v10, v11, v12, v13, v14, v15, v16, v17, v18, x]) ((List.range s).map fun j : Nat => PyData.int (j : Int)) [] tp = .ok (qs r) tp' := by
  have el : ∀ (j : Nat) (n : Nat) (tp : Tp), TpN n tp → n ≤ 91000 → ∃ q tp', Bd 60 9 q ∧ TpN (n + 3) tp' ∧ wl_2 G1 [.un, .tape, v2, v3, v4, .un, .val (.int (s : Nat)), v7, v8, v9, v10, v11, v12, v13, v14, v15, v16, v17, v18, x] (.int (j : Nat)) tp = .ok (some (fq q)) tp' := fun j n tp hT hn => by
    obtain ⟨x, t1, a1, a2, a3⟩ := f_take 28 tp n 4 (by omega) hT (by omega) (by omega) (by omega)
    rw [show (((4 : Nat)) : Int) = 4 from rfl] at a3
    by_cases hx : 0 < x
    · obtain ⟨q, t2, b1, b2, b3⟩ := f_frac 28 t1 (n + 1) (by omega) a2 (by omega)
      have z : decide (0 < (x : Int)) = true := decide_eq_true (by omega)
      refine ⟨q, t2, b1, b2, ?_⟩
      simp only [lcf, ec_nil, Out.nox, a3, z, b3, xs_nil, xs_cons, x_set, x_setL, x_par, x_unp, x_app, x_ext, x_sub, x_aug, x_ret, x_ife, x_ex, x_cont, x_brk, x_pass, x_frz, x_for, v_var, v_lit, v_glo, v_bin, v_neg, v_cmp, v_chain, v_not, v_and, v_or, v_ite, v_call, v_blt, v_ix, v_slc, v_lst, v_tup, v_lc, v_rev, es_nil', es_cons', ea_nil, ea_cons, argB, thn_nx, thn_rt, thn_ct, thn_br, bind_ok, so_ok, opt_some, bT_nm, bT_tp, bTs_nil, bTs_cons, getB_0, getB_s, fi_v, fi_r, fi_t, Q.M.isR, Q.M.op, Q.IK.md, im_seq, im_rng1, im_rng2, im_enum, im_zip, im_rng3, im_items, seq1_sq, zipD_eq, enumD_eq, seqOf_sq, seqOf_l, seqOf_t, seq1_l, seq1_t, len_sq, ix_sq, rev_sq, Option.map_some, Option.bind_some, List.set_cons_zero, List.set_cons_succ, List.map_cons, List.map_nil, unown, List.any_cons, List.any_nil, isOwn, Bool.or_false, Bool.or_true, Bool.false_and, Bool.true_and, Bool.and_false, Bool.and_true, finO, List.length_cons, List.length_nil, List.replicate, List.cons_append, List.nil_append, Nat.reduceSub, Nat.reduceAdd, Nat.sub_self, wipeB, Bool.not_true, Bool.not_false, Option.getD_some, cmpD, ltD, eqD_int, tru_bool, noLst_fq, tru_none, noLst, tup_l, tup_t, tup_sq, list_sq, len_l, len_t, grd_true, bin_addI, bin_subI, ix_l, ix_t, big1, big2]
    · have z : decide (0 < (x : Int)) = false := decide_eq_false (by omega)
      refine ⟨0, t1, Bd.z60, a2.mono' (by omega), ?_⟩
      simp only [lcf, ec_nil, Out.nox, a3, z, zero_t, xs_nil, xs_cons, x_set, x_setL, x_par, x_unp, x_app, x_ext, x_sub, x_aug, x_ret, x_ife, x_ex, x_cont, x_brk, x_pass, x_frz, x_for, v_var, v_lit, v_glo, v_bin, v_neg, v_cmp, v_chain, v_not, v_and, v_or, v_ite, v_call, v_blt, v_ix, v_slc, v_lst, v_tup, v_lc, v_rev, es_nil', es_cons', ea_nil, ea_cons, argB, thn_nx, thn_rt, thn_ct, thn_br, bind_ok, so_ok, opt_some, bT_nm, bT_tp, bTs_nil, bTs_cons, getB_0, getB_s, fi_v, fi_r, fi_t, Q.M.isR, Q.M.op, Q.IK.md, im_seq, im_rng1, im_rng2, im_enum, im_zip, im_rng3, im_items, seq1_sq, zipD_eq, enumD_eq, seqOf_sq, seqOf_l, seqOf_t, seq1_l, seq1_t, len_sq, ix_sq, rev_sq, Option.map_some, Option.bind_some, List.set_cons_zero, List.set_cons_succ, List.map_cons, List.map_nil, unown, List.any_cons, List.any_nil, isOwn, Bool.or_false, Bool.or_true, Bool.false_and, Bool.true_and, Bool.and_false, Bool.and_true, finO, List.length_cons, List.length_nil, List.replicate, List.cons_append, List.nil_append, Nat.reduceSub, Nat.reduceAdd, Nat.sub_self, wipeB, Bool.not_true, Bool.not_false, Option.getD_some, cmpD, ltD, eqD_int, tru_bool, noLst_fq, tru_none, noLst, tup_l, tup_t, tup_sq, list_sq, len_l, len_t, grd_true, bin_addI, bin_subI, ix_l, ix_t, big1, big2]
  obtain ⟨r, t1, a1, a2, a3, a4⟩ := lc_draw (e := fun j : Nat => PyData.int (j : Int)) (g := fq) (R := fun q => Bd 60 9 q) (c := 3) (N := 91000) (xs := List.range s) (acc := []) (n := n) (tp := tp) (fun j _ => el j) hT (by rw [List.length_range]; omega)
  rw [List.length_range] at a1 a3
  exact ⟨r, t1, a1, a2, a3.mono' (by omega), a4⟩
theorem s_12 (hT : TpN n tp) (hn : n ≤ 90000) (h1 : 1 ≤ s) (h3 : s ≤ 3) : ∃ (T : List (List Rat)) (tp' : Tp), T.length = s ∧ (∀ r ∈ T, r.length = s ∧ ∀ q ∈ r, Bd 60 9 q) ∧ TpN (n + 27) tp' ∧
    exS G1 10000 w_0_12 [.un, .tape, v2, v3, v4, v5, .val (.int (s : Nat)), v7, v8, v9, v10, v11, v12, v13, v14, v15, v16, v17, v18, v19] tp = .nx [.un, .tape, v2, v3, v4, v5, .val (.int (s : Nat)), .val (tD T), v8, v9, v10, v11, v12, v13, v14, v15, v16, v17, v18, v19] tp' := by
  have hs : big s = true := bigL (by omega)
  have el : ∀ (j : Nat) (n : Nat) (tp : Tp), TpN n tp → n ≤ 90900 → ∃ (r : List Rat) (tp' : Tp), (r.length = s ∧ ∀ q ∈ r, Bd 60 9 q) ∧ TpN (n + 9) tp' ∧ wl_1 G1 [.un, .tape, v2, v3, v4, v5, .val (.int (s : Nat)), v7, v8, v9, v10, v11, v12, v13, v14, v15, v16, v17, v18, .un] (.int (j : Nat)) tp = .ok (some (.list (qs r))) tp' := fun j n tp hT hn => by
    obtain ⟨r, t1, a1, a2, a3, a4⟩ := in_12 (v2 := v2) (v3 := v3) (v4 := v4) (v7 := v7) (v8 := v8) (v9 := v9) (v10 := v10) (v11 := v11) (v12 := v12) (v13 := v13) (v14 := v14) (v15 := v15) (v16 := v16) (v17 := v17) (v18 := v18) (.val (.int (j : Nat))) hT hn h1 h3
    refine ⟨r, t1, ⟨a1, a2⟩, a3, ?_⟩
    have a5 : ev G1 .v (.lc (.ite (.cmp .gt (.call 16 (.cons (.var 1) (.cons (.lit (.int 4)) .nil))) (.lit (.int 0))) (.call 25 (.cons (.var 1) .nil)) (.tup (.cons (.lit (.int 0)) (.cons (.lit (.int 1)) .nil)))) (.nm 5) .rng1 (.cons (.var 6) .nil) .nil [5]) [.un, .tape, v2, v3, v4, v5, .val (.int (s : Nat)), v7, v8, v9, v10, v11, v12, v13, v14, v15, v16, v17, v18, .val (.int (j : Nat))] tp = .ok (.list (qs r)) t1 := by
      simp only [rng1_nat (show s ≤ 1000 by omega), List.length_map, List.length_range, hs, a4, xs_nil, xs_cons, x_set, x_setL, x_par, x_unp, x_app, x_ext, x_sub, x_aug, x_ret, x_ife, x_ex, x_cont, x_brk, x_pass, x_frz, x_for, v_var, v_lit, v_glo, v_bin, v_neg, v_cmp, v_chain, v_not, v_and, v_or, v_ite, v_call, v_blt, v_ix, v_slc, v_lst, v_tup, v_lc, v_rev, es_nil', es_cons', ea_nil, ea_cons, argB, thn_nx, thn_rt, thn_ct, thn_br, bind_ok, so_ok, opt_some, bT_nm, bT_tp, bTs_nil, bTs_cons, getB_0, getB_s, fi_v, fi_r, fi_t, Q.M.isR, Q.M.op, Q.IK.md, im_seq, im_rng1, im_rng2, im_enum, im_zip, im_rng3, im_items, seq1_sq, zipD_eq, enumD_eq, seqOf_sq, seqOf_l, seqOf_t, seq1_l, seq1_t, len_sq, ix_sq, rev_sq, Option.map_some, Option.bind_some, List.set_cons_zero, List.set_cons_succ, List.map_cons, List.map_nil, unown, List.any_cons, List.any_nil, isOwn, Bool.or_false, Bool.or_true, Bool.false_and, Bool.true_and, Bool.and_false, Bool.and_true, finO, List.length_cons, List.length_nil, List.replicate, List.cons_append, List.nil_append, Nat.reduceSub, Nat.reduceAdd, Nat.sub_self, wipeB, Bool.not_true, Bool.not_false, Option.getD_some, cmpD, ltD, eqD_int, tru_bool, noLst_fq, tru_none, noLst, tup_l, tup_t, tup_sq, list_sq, len_l, len_t, grd_true, bin_addI, bin_subI, ix_l, ix_t, big1, big2]
    have e : bindT (.nm 19) (.int (j : Nat)) [.un, .tape, v2, v3, v4, v5, .val (.int (s : Nat)), v7, v8, v9, v10, v11, v12, v13, v14, v15, v16, v17, v18, .un] = some [.un, .tape, v2, v3, v4, v5, .val (.int (s : Nat)), v7, v8, v9, v10, v11, v12, v13, v14, v15, v16, v17, v18, .val (.int (j : Nat))] := rfl
    unfold wl_1 lcf
    rw [e]
    dsimp only
    rw [ec_nil, bind_ok]
    dsimp only
    rw [a5]
    rfl
  obtain ⟨T, t1, a1, a2, a3, a4⟩ := lc_draw (e := fun j : Nat => PyData.int (j : Int)) (g := fun r : List Rat => PyData.list (qs r)) (R := fun r => r.length = s ∧ ∀ q ∈ r, Bd 60 9 q) (c := 9) (N := 90900) (xs := List.range s) (acc := []) (n := n) (tp := tp) (fun j _ => el j) hT (by rw [List.length_range]; omega)
  rw [List.length_range] at a1 a3
  rw [List.nil_append, show (T.map fun r => PyData.list (qs r)) = tb T from rfl] at a4
  refine ⟨T, t1, a1, a2, a3.mono' (by omega), ?_⟩
  simp only [rng1_nat (show s ≤ 1000 by omega), List.length_map, List.length_range, hs, a4, xs_nil, xs_cons, x_set, x_setL, x_par, x_unp, x_app, x_ext, x_sub, x_aug, x_ret, x_ife, x_ex, x_cont, x_brk, x_pass, x_frz, x_for, v_var, v_lit, v_glo, v_bin, v_neg, v_cmp, v_chain, v_not, v_and, v_or, v_ite, v_call, v_blt, v_ix, v_slc, v_lst, v_tup, v_lc, v_rev, es_nil', es_cons', ea_nil, ea_cons, argB, thn_nx, thn_rt, thn_ct, thn_br, bind_ok, so_ok, opt_some, bT_nm, bT_tp, bTs_nil, bTs_cons, getB_0, getB_s, fi_v, fi_r, fi_t, Q.M.isR, Q.M.op, Q.IK.md, im_seq, im_rng1, im_rng2, im_enum, im_zip, im_rng3, im_items, seq1_sq, zipD_eq, enumD_eq, seqOf_sq, seqOf_l, seqOf_t, seq1_l, seq1_t, len_sq, ix_sq, rev_sq, Option.map_some, Option.bind_some, List.set_cons_zero, List.set_cons_succ, List.map_cons, List.map_nil, unown, List.any_cons, List.any_nil, isOwn, Bool.or_false, Bool.or_true, Bool.false_and, Bool.true_and, Bool.and_false, Bool.and_true, finO, List.length_cons, List.length_nil, List.replicate, List.cons_append, List.nil_append, Nat.reduceSub, Nat.reduceAdd, Nat.sub_self, wipeB, Bool.not_true, Bool.not_false, Option.getD_some, cmpD, ltD, eqD_int, tru_bool, noLst_fq, tru_none, noLst, tup_l, tup_t, tup_sq, list_sq, len_l, len_t, grd_true, bin_addI, bin_subI, ix_l, ix_t, big1, big2]
theorem s_13 (hT : TpN n tp) (hn : n ≤ 90000) (h1 : 1 ≤ s) (h3 : s ≤ 3) : ∃ (aims : List Rat) (tp' : Tp), aims.length = s ∧ (∀ q ∈ aims, Bd 60 9 q) ∧ TpN (n + 6) tp' ∧
    exS G1 10000 w_0_13 [.un, .tape, v2, v3, v4, v5, .val (.int (s : Nat)), v7, v8, v9, v10, v11, v12, v13, v14, v15, v16, v17, v18, v19] tp = .nx [.un, .tape, v2, v3, v4, v5, .val (.int (s : Nat)), v7, .val (.list (qs aims)), v9, v10, v11, v12, v13, v14, v15, v16, v17, v18, v19] tp' := by
  have hs : big s = true := bigL (by omega)
  obtain ⟨r, t1, a1, a2, a3, a4⟩ := lc_draw (f := wl_3 G1 [.un, .tape, v2, v3, v4, .un, .val (.int (s : Nat)), v7, v8, v9, v10, v11, v12, v13, v14, v15, v16, v17, v18, v19]) (e := fun j : Nat => PyData.int (j : Int)) (g := fq) (R := fun q => Bd 60 9 q) (c := 2) (N := 91000) (xs := List.range s) (acc := []) (n := n) (tp := tp) (fun j hj n tp hT hn => by
    obtain ⟨q, t2, b1, b2, b3⟩ := f_frac 28 tp n (by omega) hT (by omega)
    refine ⟨q, t2, b1, b2, ?_⟩
    simp only [lcf, ec_nil, Out.nox, b3, xs_nil, xs_cons, x_set, x_setL, x_par, x_unp, x_app, x_ext, x_sub, x_aug, x_ret, x_ife, x_ex, x_cont, x_brk, x_pass, x_frz, x_for, v_var, v_lit, v_glo, v_bin, v_neg, v_cmp, v_chain, v_not, v_and, v_or, v_ite, v_call, v_blt, v_ix, v_slc, v_lst, v_tup, v_lc, v_rev, es_nil', es_cons', ea_nil, ea_cons, argB, thn_nx, thn_rt, thn_ct, thn_br, bind_ok, so_ok, opt_some, bT_nm, bT_tp, bTs_nil, bTs_cons, getB_0, getB_s, fi_v, fi_r, fi_t, Q.M.isR, Q.M.op, Q.IK.md, im_seq, im_rng1, im_rng2, im_enum, im_zip, im_rng3, im_items, seq1_sq, zipD_eq, enumD_eq, seqOf_sq, seqOf_l, seqOf_t, seq1_l, seq1_t, len_sq, ix_sq, rev_sq, Option.map_some, Option.bind_some, List.set_cons_zero, List.set_cons_succ, List.map_cons, List.map_nil, unown, List.any_cons, List.any_nil, isOwn, Bool.or_false, Bool.or_true, Bool.false_and, Bool.true_and, Bool.and_false, Bool.and_true, finO, List.length_cons, List.length_nil, List.replicate, List.cons_append, List.nil_append, Nat.reduceSub, Nat.reduceAdd, Nat.sub_self, wipeB, Bool.not_true, Bool.not_false, Option.getD_some, cmpD, ltD, eqD_int, tru_bool, noLst_fq, tru_none, noLst, tup_l, tup_t, tup_sq, list_sq, len_l, len_t, grd_true, bin_addI, bin_subI, ix_l, ix_t, big1, big2]) hT (by rw [List.length_range]; omega)
  rw [List.length_range] at a1 a3
  rw [List.nil_append] at a4
  refine ⟨r, t1, a1, a2, a3.mono' (by omega), ?_⟩
  simp only [rng1_nat (show s ≤ 1000 by omega), List.length_map, List.length_range, hs, a4, xs_nil, xs_cons, x_set, x_setL, x_par, x_unp, x_app, x_ext, x_sub, x_aug, x_ret, x_ife, x_ex, x_cont, x_brk, x_pass, x_frz, x_for, v_var, v_lit, v_glo, v_bin, v_neg, v_cmp, v_chain, v_not, v_and, v_or, v_ite, v_call, v_blt, v_ix, v_slc, v_lst, v_tup, v_lc, v_rev, es_nil', es_cons', ea_nil, ea_cons, argB, thn_nx, thn_rt, thn_ct, thn_br, bind_ok, so_ok, opt_some, bT_nm, bT_tp, bTs_nil, bTs_cons, getB_0, getB_s, fi_v, fi_r, fi_t, Q.M.isR, Q.M.op, Q.IK.md, im_seq, im_rng1, im_rng2, im_enum, im_zip, im_rng3, im_items, seq1_sq, zipD_eq, enumD_eq, seqOf_sq, seqOf_l, seqOf_t, seq1_l, seq1_t, len_sq, ix_sq, rev_sq, Option.map_some, Option.bind_some, List.set_cons_zero, List.set_cons_succ, List.map_cons, List.map_nil, unown, List.any_cons, List.any_nil, isOwn, Bool.or_false, Bool.or_true, Bool.false_and, Bool.true_and, Bool.and_false, Bool.and_true, finO, List.length_cons, List.length_nil, List.replicate, List.cons_append, List.nil_append, Nat.reduceSub, Nat.reduceAdd, Nat.sub_self, wipeB, Bool.not_true, Bool.not_false, Option.getD_some, cmpD, ltD, eqD_int, tru_bool, noLst_fq, tru_none, noLst, tup_l, tup_t, tup_sq, list_sq, len_l, len_t, grd_true, bin_addI, bin_subI, ix_l, ix_t, big1, big2]
theorem s_14 : exS G1 10000 w_0_14 [.un, .tape, v2, v3, v4, v5, v6, v7, v8, v9, v10, v11, v12, v13, v14, v15, v16, v17, v18, v19] tp = .nx [.un, .tape, v2, v3, v4, v5, v6, v7, v8, .own [], v10, v11, v12, v13, v14, v15, v16, v17, v18, v19] tp := by
  have : big 0 = true := rfl
  simp only [this, xs_nil, xs_cons, x_set, x_setL, x_par, x_unp, x_app, x_ext, x_sub, x_aug, x_ret, x_ife, x_ex, x_cont, x_brk, x_pass, x_frz, x_for, v_var, v_lit, v_glo, v_bin, v_neg, v_cmp, v_chain, v_not, v_and, v_or, v_ite, v_call, v_blt, v_ix, v_slc, v_lst, v_tup, v_lc, v_rev, es_nil', es_cons', ea_nil, ea_cons, argB, thn_nx, thn_rt, thn_ct, thn_br, bind_ok, so_ok, opt_some, bT_nm, bT_tp, bTs_nil, bTs_cons, getB_0, getB_s, fi_v, fi_r, fi_t, Q.M.isR, Q.M.op, Q.IK.md, im_seq, im_rng1, im_rng2, im_enum, im_zip, im_rng3, im_items, seq1_sq, zipD_eq, enumD_eq, seqOf_sq, seqOf_l, seqOf_t, seq1_l, seq1_t, len_sq, ix_sq, rev_sq, Option.map_some, Option.bind_some, List.set_cons_zero, List.set_cons_succ, List.map_cons, List.map_nil, unown, List.any_cons, List.any_nil, isOwn, Bool.or_false, Bool.or_true, Bool.false_and, Bool.true_and, Bool.and_false, Bool.and_true, finO, List.length_cons, List.length_nil, List.replicate, List.cons_append, List.nil_append, Nat.reduceSub, Nat.reduceAdd, Nat.sub_self, wipeB, Bool.not_true, Bool.not_false, Option.getD_some, cmpD, ltD, eqD_int, tru_bool, noLst_fq, tru_none, noLst, tup_l, tup_t, tup_sq, list_sq, len_l, len_t, grd_true, bin_addI, bin_subI, ix_l, ix_t, big1, big2]
def oD (o : List Nat × Int) : D := .tuple [.tuple (o.1.map fun i : Nat => PyData.int (i : Int)), .int o.2]
theorem ords_len {o : List Nat × Int} (h1 : 1 ≤ s) (h3 : s ≤ 3) (ho : o ∈ ords s) : o.1.length = s ∧ (∀ i ∈ o.1, i < s) ∧ o.2.natAbs ≤ 1 := by
  have hs : s = 1 ∨ s = 2 ∨ s = 3 := by omega
  have key : ∀ s, s = 1 ∨ s = 2 ∨ s = 3 → (ords s).all (fun o => decide (o.1.length = s) && (o.1.all fun i => decide (i < s)) && decide (o.2.natAbs ≤ 1)) = true := by
    rintro s (rfl | rfl | rfl) <;> decide
  have := List.all_eq_true.mp (key s hs) o ho
  rw [Bool.and_eq_true, Bool.and_eq_true] at this
  refine ⟨of_decide_eq_true this.1.1, fun i hi => of_decide_eq_true (List.all_eq_true.mp this.1.2 i hi), of_decide_eq_true this.2⟩
theorem ords_num (h1 : 1 ≤ s) (h3 : s ≤ 3) : (ords s).length ≤ 6 := by
  have hs : s = 1 ∨ s = 2 ∨ s = 3 := by omega
  rcases hs with rfl | rfl | rfl <;> decide
theorem f_orders (h1 : 1 ≤ s) (h3 : s ≤ 3) : ∃ d e, bltD .rg1 [.int (s : Nat)] = some d ∧ bltD .list [d] = some e ∧ callC codes gl 10000 28 26 [.val e] tp = .ok (.list ((ords s).map oD)) tp := by
  have hs : s = 1 ∨ s = 2 ∨ s = 3 := by omega
  rcases hs with rfl | rfl | rfl
  · exact ⟨rgD 1, .list [.int 0], by kernel_rfl, by kernel_rfl, by kernel_rfl⟩
  · exact ⟨rgD 2, .list [.int 0, .int 1], by kernel_rfl, by kernel_rfl, by kernel_rfl⟩
  · exact ⟨rgD 3, .list [.int 0, .int 1, .int 2], by kernel_rfl, by kernel_rfl, by kernel_rfl⟩
theorem atI_ints {o : List Nat} {k : Nat} (h : k < o.length) : atI (o.map fun i : Nat => PyData.int (i : Int)) (k : Int) = some (.int (((o[k]?).getD 0 : Nat) : Int)) := by
  unfold atI
  rw [ixN_lt (by simpa using h)]
  show (o.map _)[k]? = _
  rw [List.getElem?_map, List.getElem?_eq_getElem h]
  rfl
theorem s_15 (h : TabOk s T aims) : ∃ a5 a14 a15 a16, exS G1 10000 w_0_15 [.un, .tape, v2, v3, v4, v5, .val (.int (s : Nat)), .val (tD T), v8, .own [], v10, v11, v12, v13, v14, v15, v16, v17, v18, v19] tp
    = .nx [.un, .tape, v2, v3, v4, a5, .val (.int (s : Nat)), .val (tD T), v8, .own (qs ((ords s).map (prodT T s))), v10, v11, v12, v13, a14, a15, a16, v17, v18, v19] tp := by
  have g1 := h.h1
  have g3 := h.h3
  obtain ⟨d, e, e1, e2, e3⟩ := f_orders (tp := tp) g1 g3
  have loop := for_run (tp := tp) (f := wl_4 G1 10000) (e := oD) (step := fun acc o => acc ++ [prodT T s o]) (Ok := fun n acc => acc.length = n) (I := fun (acc : List Rat) (j : B × B × B × B) => [.un, .tape, v2, v3, v4, j.1, .val (.int (s : Nat)), .val (tD T), v8, .own (qs acc), v10, v11, v12, v13, j.2.1, j.2.2.1, j.2.2.2, v17, v18, v19]) (xs := ords s) (n := 0) (a := []) (j := (v5, v14, v15, v16)) (N := (ords s).length) (by omega) (fun c acc j o hc ho hacc => ?_) rfl
  · obtain ⟨-, j', e4⟩ := loop
    have e5 : ∀ (l : List (List Nat × Int)) (acc : List Rat), l.foldl (fun acc o => acc ++ [prodT T s o]) acc = acc ++ l.map (prodT T s) := by
      intro l
      induction l with
      | nil => simp
      | cons x l ih => intro acc; rw [List.foldl_cons, ih]; simp
    rw [e5, List.nil_append] at e4
    refine ⟨j'.1, j'.2.1, j'.2.2.1, j'.2.2.2, ?_⟩
    simp only [e1, e2, e3, show (PyData.list ((ords s).map oD)) = .list ((ords s).map oD) from rfl, show (B.own []) = B.own (qs []) from rfl, e4, xs_nil, xs_cons, x_set, x_setL, x_par, x_unp, x_app, x_ext, x_sub, x_aug, x_ret, x_ife, x_ex, x_cont, x_brk, x_pass, x_frz, x_for, v_var, v_lit, v_glo, v_bin, v_neg, v_cmp, v_chain, v_not, v_and, v_or, v_ite, v_call, v_blt, v_ix, v_slc, v_lst, v_tup, v_lc, v_rev, es_nil', es_cons', ea_nil, ea_cons, argB, thn_nx, thn_rt, thn_ct, thn_br, bind_ok, so_ok, opt_some, bT_nm, bT_tp, bTs_nil, bTs_cons, getB_0, getB_s, fi_v, fi_r, fi_t, Q.M.isR, Q.M.op, Q.IK.md, im_seq, im_rng1, im_rng2, im_enum, im_zip, im_rng3, im_items, seq1_sq, zipD_eq, enumD_eq, seqOf_sq, seqOf_l, seqOf_t, seq1_l, seq1_t, len_sq, ix_sq, rev_sq, Option.map_some, Option.bind_some, List.set_cons_zero, List.set_cons_succ, List.map_cons, List.map_nil, unown, List.any_cons, List.any_nil, isOwn, Bool.or_false, Bool.or_true, Bool.false_and, Bool.true_and, Bool.and_false, Bool.and_true, finO, List.length_cons, List.length_nil, List.replicate, List.cons_append, List.nil_append, Nat.reduceSub, Nat.reduceAdd, Nat.sub_self, wipeB, Bool.not_true, Bool.not_false, Option.getD_some, cmpD, ltD, eqD_int, tru_bool, noLst_fq, tru_none, noLst, tup_l, tup_t, tup_sq, list_sq, len_l, len_t, grd_true, bin_addI, bin_subI, ix_l, ix_t, big1, big2]
  · obtain ⟨ol, oi, os⟩ := ords_len g1 g3 ho
    have hN := ords_num g1 g3
    have inner := for_run (tp := tp) (f := wl_5 G1 10000) (e := fun j : Nat => PyData.int (j : Int)) (step := fun p k => p * en T k ((o.1[k]?).getD 0)) (Ok := fun n p => Bq (1 + n * 6) (n * 4) p) (I := fun (p : Rat) (j : B) => [.un, .tape, v2, v3, v4, j, .val (.int (s : Nat)), .val (tD T), v8, .own (qs acc), v10, v11, v12, v13, .val (.tuple (o.1.map fun i : Nat => PyData.int (i : Int))), .val (.int o.2), .val (fq p), v17, v18, v19]) (xs := List.range s) (n := 0) (a := (o.2 : Rat)) (j := j.1) (N := s) (by simp) (fun c p j k hc hk hp => ?_) (by simpa using Bq.int (m := 0) os)
    · obtain ⟨-, j', e4⟩ := inner
      have e5 : (List.range s).foldl (fun p k => p * en T k ((o.1[k]?).getD 0)) (o.2 : Rat) = prodT T s o := rfl
      rw [e5] at e4
      refine ⟨by rw [List.length_append, hacc]; rfl, (j', .val (.tuple (o.1.map fun i : Nat => PyData.int (i : Int))), .val (.int o.2), .val (fq (prodT T s o))), ?_⟩
      have e6 : big (acc.length + 1) = true := bigL (by omega)
      have e7 : bindT (.tp (.cons (.nm 14) (.cons (.nm 15) .nil))) (oD o) [.un, .tape, v2, v3, v4, j.1, .val (.int (s : Nat)), .val (tD T), v8, .own (qs acc), v10, v11, v12, v13, j.2.1, j.2.2.1, j.2.2.2, v17, v18, v19] = some [.un, .tape, v2, v3, v4, j.1, .val (.int (s : Nat)), .val (tD T), v8, .own (qs acc), v10, v11, v12, v13, .val (.tuple (o.1.map fun i : Nat => PyData.int (i : Int))), .val (.int o.2), j.2.2.2, v17, v18, v19] := rfl
      simp only [forF, ↓e7, fq_i, rng1_nat (show s ≤ 1000 by omega), e4, List.length_map, e6, List.map_append, xs_nil, xs_cons, x_set, x_setL, x_par, x_unp, x_app, x_ext, x_sub, x_aug, x_ret, x_ife, x_ex, x_cont, x_brk, x_pass, x_frz, x_for, v_var, v_lit, v_glo, v_bin, v_neg, v_cmp, v_chain, v_not, v_and, v_or, v_ite, v_call, v_blt, v_ix, v_slc, v_lst, v_tup, v_lc, v_rev, es_nil', es_cons', ea_nil, ea_cons, argB, thn_nx, thn_rt, thn_ct, thn_br, bind_ok, so_ok, opt_some, bT_nm, bT_tp, bTs_nil, bTs_cons, getB_0, getB_s, fi_v, fi_r, fi_t, Q.M.isR, Q.M.op, Q.IK.md, im_seq, im_rng1, im_rng2, im_enum, im_zip, im_rng3, im_items, seq1_sq, zipD_eq, enumD_eq, seqOf_sq, seqOf_l, seqOf_t, seq1_l, seq1_t, len_sq, ix_sq, rev_sq, Option.map_some, Option.bind_some, List.set_cons_zero, List.set_cons_succ, List.map_cons, List.map_nil, unown, List.any_cons, List.any_nil, isOwn, Bool.or_false, Bool.or_true, Bool.false_and, Bool.true_and, Bool.and_false, Bool.and_true, finO, List.length_cons, List.length_nil, List.replicate, List.cons_append, List.nil_append, Nat.reduceSub, Nat.reduceAdd, Nat.sub_self, wipeB, Bool.not_true, Bool.not_false, Option.getD_some, cmpD, ltD, eqD_int, tru_bool, noLst_fq, tru_none, noLst, tup_l, tup_t, tup_sq, list_sq, len_l, len_t, grd_true, bin_addI, bin_subI, ix_l, ix_t, big1, big2]
    · have hk' : k < s := by simpa using hk
      have hck : c < s := hc
      have hoi : ((o.1[k]?).getD 0) < s := by
        rw [List.getElem?_eq_getElem (by omega)]
        exact oi _ (List.getElem_mem _)
      have be := (h.ent hk' hoi).q
      refine ⟨(hp.mul be).mono (by omega) (by omega), .val (.int (k : Nat)), ?_⟩
      have a1 := atI_tb (T := T) (j := k) (by rw [h.len]; omega)
      have a2 := atI_row (r := rw_ T k) (k := (o.1[k]?).getD 0) (by rw [(h.rw hk').2.1]; omega)
      have a3 : (((rw_ T k)[(o.1[k]?).getD 0]?).getD 0) = en T k ((o.1[k]?).getD 0) := rfl
      have a4 := atI_ints (o := o.1) (k := k) (by omega)
      have a5 := f_ltimes 28 tp p (en T k ((o.1[k]?).getD 0)) (by omega) (hp.sm (by omega)) (be.sm (by omega)) trivial
      simp only [forF, a1, a2, a3, a4, a5, xs_nil, xs_cons, x_set, x_setL, x_par, x_unp, x_app, x_ext, x_sub, x_aug, x_ret, x_ife, x_ex, x_cont, x_brk, x_pass, x_frz, x_for, v_var, v_lit, v_glo, v_bin, v_neg, v_cmp, v_chain, v_not, v_and, v_or, v_ite, v_call, v_blt, v_ix, v_slc, v_lst, v_tup, v_lc, v_rev, es_nil', es_cons', ea_nil, ea_cons, argB, thn_nx, thn_rt, thn_ct, thn_br, bind_ok, so_ok, opt_some, bT_nm, bT_tp, bTs_nil, bTs_cons, getB_0, getB_s, fi_v, fi_r, fi_t, Q.M.isR, Q.M.op, Q.IK.md, im_seq, im_rng1, im_rng2, im_enum, im_zip, im_rng3, im_items, seq1_sq, zipD_eq, enumD_eq, seqOf_sq, seqOf_l, seqOf_t, seq1_l, seq1_t, len_sq, ix_sq, rev_sq, Option.map_some, Option.bind_some, List.set_cons_zero, List.set_cons_succ, List.map_cons, List.map_nil, unown, List.any_cons, List.any_nil, isOwn, Bool.or_false, Bool.or_true, Bool.false_and, Bool.true_and, Bool.and_false, Bool.and_true, finO, List.length_cons, List.length_nil, List.replicate, List.cons_append, List.nil_append, Nat.reduceSub, Nat.reduceAdd, Nat.sub_self, wipeB, Bool.not_true, Bool.not_false, Option.getD_some, cmpD, ltD, eqD_int, tru_bool, noLst_fq, tru_none, noLst, tup_l, tup_t, tup_sq, list_sq, len_l, len_t, grd_true, bin_addI, bin_subI, ix_l, ix_t, big1, big2]
theorem s_16 (h : TabOk s T aims) : exS G1 10000 w_0_16 [.un, .tape, v2, v3, v4, v5, v6, .val (tD T), .val (.list (qs aims)), v9, v10, v11, v12, v13, v14, v15, v16, v17, v18, v19] tp
    = .nx [.un, .tape, v2, v3, v4, v5, v6, .val (tD T), .val (.list (qs aims)), v9, v10, v11, v12, v13, v14, v15, v16, .val (fq (detR T)), .val (optL (solvedR T aims)), v19] tp := by
  have hl := h.len
  have g3 := h.h3
  have r6 : ∀ r ∈ T, r.length = T.length ∧ ∀ q ∈ r, Bq 6 4 q := fun r hr => ⟨by rw [hl]; exact (h.row r hr).1, fun q hq => ((h.row r hr).2 q hq).q⟩
  have e1 : callC codes gl 10000 28 15 [.val (tD T)] tp = .ok (fq (detR T)) tp := f_det 28 tp false false T 6 4 (by omega) (by omega) r6 (fun k hk => by
    have : k = 0 ∨ k = 1 ∨ k = 2 := by omega
    rcases this with rfl | rfl | rfl <;> decide)
  have e2 : callC codes gl 10000 28 14 [.val (tD T), .val (.list (qs aims))] tp = .ok (optL (solvedR T aims)) tp := f_solved 28 tp false false false T aims 6 4 (by omega) (by omega) (by rw [hl]; exact h.al) r6 (fun q hq => (h.aq q hq).q) (fun k hk => by
    have : k = 0 ∨ k = 1 ∨ k = 2 := by omega
    rcases this with rfl | rfl | rfl <;> decide)
  have e3 : noLst (optL (solvedR T aims)) = true := by
    cases solvedR T aims with
    | none => rfl
    | some x =>
      show noLsts (qs x) = true
      induction x with
      | nil => rfl
      | cons a x ih => exact ih
  simp only [e1, e2, xs_nil, xs_cons, x_set, x_setL, x_par, x_unp, x_app, x_ext, x_sub, x_aug, x_ret, x_ife, x_ex, x_cont, x_brk, x_pass, x_frz, x_for, v_var, v_lit, v_glo, v_bin, v_neg, v_cmp, v_chain, v_not, v_and, v_or, v_ite, v_call, v_blt, v_ix, v_slc, v_lst, v_tup, v_lc, v_rev, es_nil', es_cons', ea_nil, ea_cons, argB, thn_nx, thn_rt, thn_ct, thn_br, bind_ok, so_ok, opt_some, bT_nm, bT_tp, bTs_nil, bTs_cons, getB_0, getB_s, fi_v, fi_r, fi_t, Q.M.isR, Q.M.op, Q.IK.md, im_seq, im_rng1, im_rng2, im_enum, im_zip, im_rng3, im_items, seq1_sq, zipD_eq, enumD_eq, seqOf_sq, seqOf_l, seqOf_t, seq1_l, seq1_t, len_sq, ix_sq, rev_sq, Option.map_some, Option.bind_some, List.set_cons_zero, List.set_cons_succ, List.map_cons, List.map_nil, unown, List.any_cons, List.any_nil, isOwn, Bool.or_false, Bool.or_true, Bool.false_and, Bool.true_and, Bool.and_false, Bool.and_true, finO, List.length_cons, List.length_nil, List.replicate, List.cons_append, List.nil_append, Nat.reduceSub, Nat.reduceAdd, Nat.sub_self, wipeB, Bool.not_true, Bool.not_false, Option.getD_some, cmpD, ltD, eqD_int, tru_bool, noLst_fq, tru_none, noLst, tup_l, tup_t, tup_sq, list_sq, len_l, len_t, grd_true, bin_addI, bin_subI, ix_l, ix_t, big1, big2]
theorem is_none {d : D} : isD d .none = some (noneD d) := rfl
theorem none_n : noneD .none = true := rfl
theorem none_t {xs : List D} : noneD (.tuple xs) = false := rfl
theorem eq_tf : eqD (.bool true) (.bool false) = some false := rfl
theorem eq_ft : eqD (.bool false) (.bool true) = some false := rfl
theorem bools_none : ∀ {α : Type} (l : List α), boolsOf (l.map fun _ => PyData.bool false) = some (l.map fun _ => false)
  | _, [] => rfl
  | _, _ :: l => by
    show (boolsOf (l.map fun _ => PyData.bool false)).map (false :: ·) = _
    rw [bools_none l]
    rfl
theorem any_false {α : Type} (l : List α) : bltD .any [.list (l.map fun _ => PyData.bool false)] = some (.bool false) := by
  show (boolsOf _).map _ = _
  rw [bools_none]
  show some (PyData.bool ((l.map fun _ => false).any id)) = _
  congr 2
  simp
theorem s_17 (h : TabOk s T aims) : exS G1 10000 w_0_17 [.un, .tape, v2, v3, v4, v5, v6, v7, v8, .own (qs ((ords s).map (prodT T s))), v10, v11, v12, v13, v14, v15, v16, .val (fq (detR T)), .val (optL (solvedR T aims)), v19] tp
    = .nx [.un, .tape, v2, v3, v4, v5, v6, v7, v8, .own (qs ((ords s).map (prodT T s))), v10, v11, v12, v13, v14, v15, v16, .val (fq (detR T)), .val (optL (solvedR T aims)), v19] tp := by
  have g1 := h.h1
  have g3 := h.h3
  obtain ⟨z1, z2⟩ := eqs_ok g1 g3 h.len h.row h.al h.aq
  have b1 : ∀ o ∈ ords s, Bd (60 ^ s) (9 ^ s) (prodT T s o) := fun o ho => by
    obtain ⟨ol, oi, os⟩ := ords_len g1 g3 ho
    have b0 : Bd 1 1 (o.2 : Rat) := (Bd.int o.2).le os
    have hoi : ∀ k, k < s → ((o.1[k]?).getD 0) < s := fun k hk => by
      rw [List.getElem?_eq_getElem (by omega)]
      exact oi _ (List.getElem_mem _)
    have key : ∀ m, m ≤ s → Bd (60 ^ m) (9 ^ m) ((List.range m).foldl (fun p k => p * en T k ((o.1[k]?).getD 0)) (o.2 : Rat)) := by
      intro m
      induction m with
      | zero => exact fun _ => b0
      | succ m ih =>
        intro hm
        rw [List.range_succ, List.foldl_append]
        show Bd _ _ (_ * _)
        rw [Nat.pow_succ, Nat.pow_succ]
        exact (ih (by omega)).mul (h.ent (by omega) (hoi m (by omega)))
    exact key s (Nat.le_refl _)
  have hw : Rw 18 10 ((ords s).map (prodT T s)) := by
    have hs : s = 1 ∨ s = 2 ∨ s = 3 := by omega
    refine ⟨?_, 60 ^ s, Nat.pow_pos (by decide), ?_, fun q hq => ?_⟩
    · have := ords_num g1 g3
      rw [List.length_map]
      omega
    · rcases hs with rfl | rfl | rfl <;> decide
    · obtain ⟨o, ho, rfl⟩ := List.mem_map.mp hq
      refine (b1 o ho).le ?_
      rcases hs with rfl | rfl | rfl <;> decide
  have e1 := f_lsum 28 tp false _ 18 10 (by omega) hw (by omega)
  rw [← z1, show sq false (qs ((ords s).map (prodT T s))) = .list (qs ((ords s).map (prodT T s))) from rfl] at e1
  cases hx : solvedR T aims with
  | none =>
    rw [hx] at z2
    dsimp only at z2
    simp only [optL, e1, is_none, none_n, zero_t, eq_fq, decide_true, decide_eq_true z2, eq_bool, xs_nil, xs_cons, x_set, x_setL, x_par, x_unp, x_app, x_ext, x_sub, x_aug, x_ret, x_ife, x_ex, x_cont, x_brk, x_pass, x_frz, x_for, v_var, v_lit, v_glo, v_bin, v_neg, v_cmp, v_chain, v_not, v_and, v_or, v_ite, v_call, v_blt, v_ix, v_slc, v_lst, v_tup, v_lc, v_rev, es_nil', es_cons', ea_nil, ea_cons, argB, thn_nx, thn_rt, thn_ct, thn_br, bind_ok, so_ok, opt_some, bT_nm, bT_tp, bTs_nil, bTs_cons, getB_0, getB_s, fi_v, fi_r, fi_t, Q.M.isR, Q.M.op, Q.IK.md, im_seq, im_rng1, im_rng2, im_enum, im_zip, im_rng3, im_items, seq1_sq, zipD_eq, enumD_eq, seqOf_sq, seqOf_l, seqOf_t, seq1_l, seq1_t, len_sq, ix_sq, rev_sq, Option.map_some, Option.bind_some, List.set_cons_zero, List.set_cons_succ, List.map_cons, List.map_nil, unown, List.any_cons, List.any_nil, isOwn, Bool.or_false, Bool.or_true, Bool.false_and, Bool.true_and, Bool.and_false, Bool.and_true, finO, List.length_cons, List.length_nil, List.replicate, List.cons_append, List.nil_append, Nat.reduceSub, Nat.reduceAdd, Nat.sub_self, wipeB, Bool.not_true, Bool.not_false, Option.getD_some, cmpD, ltD, eqD_int, tru_bool, noLst_fq, tru_none, noLst, tup_l, tup_t, tup_sq, list_sq, len_l, len_t, grd_true, bin_addI, bin_subI, ix_l, ix_t, big1, big2]
  | some x =>
    rw [hx] at z2
    dsimp only at z2
    simp only [optL, e1, is_none, none_t, zero_t, eq_fq, decide_true, decide_eq_false z2.1, eq_bool, xs_nil, xs_cons, x_set, x_setL, x_par, x_unp, x_app, x_ext, x_sub, x_aug, x_ret, x_ife, x_ex, x_cont, x_brk, x_pass, x_frz, x_for, v_var, v_lit, v_glo, v_bin, v_neg, v_cmp, v_chain, v_not, v_and, v_or, v_ite, v_call, v_blt, v_ix, v_slc, v_lst, v_tup, v_lc, v_rev, es_nil', es_cons', ea_nil, ea_cons, argB, thn_nx, thn_rt, thn_ct, thn_br, bind_ok, so_ok, opt_some, bT_nm, bT_tp, bTs_nil, bTs_cons, getB_0, getB_s, fi_v, fi_r, fi_t, Q.M.isR, Q.M.op, Q.IK.md, im_seq, im_rng1, im_rng2, im_enum, im_zip, im_rng3, im_items, seq1_sq, zipD_eq, enumD_eq, seqOf_sq, seqOf_l, seqOf_t, seq1_l, seq1_t, len_sq, ix_sq, rev_sq, Option.map_some, Option.bind_some, List.set_cons_zero, List.set_cons_succ, List.map_cons, List.map_nil, unown, List.any_cons, List.any_nil, isOwn, Bool.or_false, Bool.or_true, Bool.false_and, Bool.true_and, Bool.and_false, Bool.and_true, finO, List.length_cons, List.length_nil, List.replicate, List.cons_append, List.nil_append, Nat.reduceSub, Nat.reduceAdd, Nat.sub_self, wipeB, Bool.not_true, Bool.not_false, Option.getD_some, cmpD, ltD, eqD_int, tru_bool, noLst_fq, tru_none, noLst, tup_l, tup_t, tup_sq, list_sq, len_l, len_t, grd_true, bin_addI, bin_subI, ix_l, ix_t, big1, big2]
theorem s_18 (h : TabOk s T aims) : exS G1 10000 w_0_18 [.un, .tape, v2, v3, v4, v5, .val (.int (s : Nat)), .val (tD T), .val (.list (qs aims)), v9, v10, v11, v12, v13, v14, v15, v16, v17, .val (optL (solvedR T aims)), v19] tp
    = .nx [.un, .tape, v2, v3, v4, v5, .val (.int (s : Nat)), .val (tD T), .val (.list (qs aims)), v9, v10, v11, v12, v13, v14, v15, v16, v17, .val (optL (solvedR T aims)), v19] tp := by
  have g1 := h.h1
  have g3 := h.h3
  obtain ⟨z1, z2⟩ := eqs_ok g1 g3 h.len h.row h.al h.aq
  have hs : big s = true := bigL (by omega)
  cases hx : solvedR T aims with
  | none => simp only [optL, is_none, none_n, xs_nil, xs_cons, x_set, x_setL, x_par, x_unp, x_app, x_ext, x_sub, x_aug, x_ret, x_ife, x_ex, x_cont, x_brk, x_pass, x_frz, x_for, v_var, v_lit, v_glo, v_bin, v_neg, v_cmp, v_chain, v_not, v_and, v_or, v_ite, v_call, v_blt, v_ix, v_slc, v_lst, v_tup, v_lc, v_rev, es_nil', es_cons', ea_nil, ea_cons, argB, thn_nx, thn_rt, thn_ct, thn_br, bind_ok, so_ok, opt_some, bT_nm, bT_tp, bTs_nil, bTs_cons, getB_0, getB_s, fi_v, fi_r, fi_t, Q.M.isR, Q.M.op, Q.IK.md, im_seq, im_rng1, im_rng2, im_enum, im_zip, im_rng3, im_items, seq1_sq, zipD_eq, enumD_eq, seqOf_sq, seqOf_l, seqOf_t, seq1_l, seq1_t, len_sq, ix_sq, rev_sq, Option.map_some, Option.bind_some, List.set_cons_zero, List.set_cons_succ, List.map_cons, List.map_nil, unown, List.any_cons, List.any_nil, isOwn, Bool.or_false, Bool.or_true, Bool.false_and, Bool.true_and, Bool.and_false, Bool.and_true, finO, List.length_cons, List.length_nil, List.replicate, List.cons_append, List.nil_append, Nat.reduceSub, Nat.reduceAdd, Nat.sub_self, wipeB, Bool.not_true, Bool.not_false, Option.getD_some, cmpD, ltD, eqD_int, tru_bool, noLst_fq, tru_none, noLst, tup_l, tup_t, tup_sq, list_sq, len_l, len_t, grd_true, bin_addI, bin_subI, ix_l, ix_t, big1, big2]
  | some x =>
    rw [hx] at z2
    dsimp only at z2
    obtain ⟨-, y1, y2, y3⟩ := z2
    have c1 := lc_run (tp := tp) (f := wl_6 G1 [.un, .tape, v2, v3, v4, .un, .val (.int (s : Nat)), .val (tD T), .val (.list (qs aims)), v9, v10, v11, v12, v13, v14, v15, v16, v17, .val (.tuple (qs x)), v19]) (e := fun j : Nat => PyData.int (j : Int)) (g := fun _ => .bool false) (xs := List.range s) (acc := []) (fun k hk => by
      have hk : k < s := by simpa using hk
      have a1 := atI_tb (T := T) (j := k) (by rw [h.len]; omega)
      have a2 := atI_row (r := aims) (k := k) (by rw [h.al]; omega)
      have a3 : callC codes gl 10000 28 24 [.val (.list (qs (rw_ T k))), .val (.tuple (qs x))] tp = .ok (fq (dotR (rw_ T k) x)) tp := f_ldot 28 tp false true (rw_ T k) x 6 4 30 30 (by omega) (rw60 (by rw [(h.rw hk).2.1]; omega) (h.rw hk).2.2) y3 (by rw [y1, (h.rw hk).2.1]) (by omega)
      rw [y2 k hk] at a3
      simp only [lcf, ec_nil, Out.nox, a1, a2, a3, eq_fq, decide_true, xs_nil, xs_cons, x_set, x_setL, x_par, x_unp, x_app, x_ext, x_sub, x_aug, x_ret, x_ife, x_ex, x_cont, x_brk, x_pass, x_frz, x_for, v_var, v_lit, v_glo, v_bin, v_neg, v_cmp, v_chain, v_not, v_and, v_or, v_ite, v_call, v_blt, v_ix, v_slc, v_lst, v_tup, v_lc, v_rev, es_nil', es_cons', ea_nil, ea_cons, argB, thn_nx, thn_rt, thn_ct, thn_br, bind_ok, so_ok, opt_some, bT_nm, bT_tp, bTs_nil, bTs_cons, getB_0, getB_s, fi_v, fi_r, fi_t, Q.M.isR, Q.M.op, Q.IK.md, im_seq, im_rng1, im_rng2, im_enum, im_zip, im_rng3, im_items, seq1_sq, zipD_eq, enumD_eq, seqOf_sq, seqOf_l, seqOf_t, seq1_l, seq1_t, len_sq, ix_sq, rev_sq, Option.map_some, Option.bind_some, List.set_cons_zero, List.set_cons_succ, List.map_cons, List.map_nil, unown, List.any_cons, List.any_nil, isOwn, Bool.or_false, Bool.or_true, Bool.false_and, Bool.true_and, Bool.and_false, Bool.and_true, finO, List.length_cons, List.length_nil, List.replicate, List.cons_append, List.nil_append, Nat.reduceSub, Nat.reduceAdd, Nat.sub_self, wipeB, Bool.not_true, Bool.not_false, Option.getD_some, cmpD, ltD, eqD_int, tru_bool, noLst_fq, tru_none, noLst, tup_l, tup_t, tup_sq, list_sq, len_l, len_t, grd_true, bin_addI, bin_subI, ix_l, ix_t, big1, big2])
    rw [List.nil_append] at c1
    simp only [optL, is_none, none_t, rng1_nat (show s ≤ 1000 by omega), List.length_map, List.length_range, hs, c1, any_false, xs_nil, xs_cons, x_set, x_setL, x_par, x_unp, x_app, x_ext, x_sub, x_aug, x_ret, x_ife, x_ex, x_cont, x_brk, x_pass, x_frz, x_for, v_var, v_lit, v_glo, v_bin, v_neg, v_cmp, v_chain, v_not, v_and, v_or, v_ite, v_call, v_blt, v_ix, v_slc, v_lst, v_tup, v_lc, v_rev, es_nil', es_cons', ea_nil, ea_cons, argB, thn_nx, thn_rt, thn_ct, thn_br, bind_ok, so_ok, opt_some, bT_nm, bT_tp, bTs_nil, bTs_cons, getB_0, getB_s, fi_v, fi_r, fi_t, Q.M.isR, Q.M.op, Q.IK.md, im_seq, im_rng1, im_rng2, im_enum, im_zip, im_rng3, im_items, seq1_sq, zipD_eq, enumD_eq, seqOf_sq, seqOf_l, seqOf_t, seq1_l, seq1_t, len_sq, ix_sq, rev_sq, Option.map_some, Option.bind_some, List.set_cons_zero, List.set_cons_succ, List.map_cons, List.map_nil, unown, List.any_cons, List.any_nil, isOwn, Bool.or_false, Bool.or_true, Bool.false_and, Bool.true_and, Bool.and_false, Bool.and_true, finO, List.length_cons, List.length_nil, List.replicate, List.cons_append, List.nil_append, Nat.reduceSub, Nat.reduceAdd, Nat.sub_self, wipeB, Bool.not_true, Bool.not_false, Option.getD_some, cmpD, ltD, eqD_int, tru_bool, noLst_fq, tru_none, noLst, tup_l, tup_t, tup_sq, list_sq, len_l, len_t, grd_true, bin_addI, bin_subI, ix_l, ix_t, big1, big2]
theorem s_19 (h : TabOk s T aims) : exS G1 10000 w_0_19 [.un, .tape, v2, v3, v4, v5, v6, .val (tD T), .val (.list (qs aims)), v9, v10, v11, v12, v13, v14, v15, v16, v17, v18, v19] tp
    = .nx [.un, .tape, v2, v3, v4, v5, v6, .val (tD T), .val (.list (qs aims)), v9, v10, v11, v12, v13, v14, v15, v16, v17, v18, v19] tp := by
  have g1 := h.h1
  have g3 := h.h3
  have r0 := rw60 (l := rw_ T 0) (by rw [(h.rw g1).2.1]; omega) (h.rw g1).2.2
  have ra := rw60 (l := aims) (by rw [h.al]; omega) h.aq
  have a1 : atI (tb T) 0 = some (.list (qs (rw_ T 0))) := atI_tb (T := T) (j := 0) (by rw [h.len]; omega)
  have e1 : callC codes gl 10000 28 10 [.val (.list (qs (rw_ T 0))), .val (.list (qs aims))] tp = .ok (fq (dotR (rw_ T 0) aims)) tp := f_dot 28 tp false false _ _ 6 4 6 4 (by omega) r0 ra (by omega)
  have e2 : callC codes gl 10000 28 24 [.val (.list (qs (rw_ T 0))), .val (.list (qs aims))] tp = .ok (fq (dotR (rw_ T 0) aims)) tp := f_ldot 28 tp false false _ _ 6 4 6 4 (by omega) r0 ra (by rw [h.al, (h.rw g1).2.1]) (by omega)
  have e3 : callC codes gl 10000 28 9 [.val (.list (qs aims))] tp = .ok (fq aims.sum) tp := f_sum 28 tp false _ 6 4 (by omega) ra (by omega)
  have e4 : callC codes gl 10000 28 20 [.val (.list (qs aims))] tp = .ok (fq aims.sum) tp := f_lsum 28 tp false _ 6 4 (by omega) ra (by omega)
  simp only [a1, e1, e2, e3, e4, eq_fq, decide_true, xs_nil, xs_cons, x_set, x_setL, x_par, x_unp, x_app, x_ext, x_sub, x_aug, x_ret, x_ife, x_ex, x_cont, x_brk, x_pass, x_frz, x_for, v_var, v_lit, v_glo, v_bin, v_neg, v_cmp, v_chain, v_not, v_and, v_or, v_ite, v_call, v_blt, v_ix, v_slc, v_lst, v_tup, v_lc, v_rev, es_nil', es_cons', ea_nil, ea_cons, argB, thn_nx, thn_rt, thn_ct, thn_br, bind_ok, so_ok, opt_some, bT_nm, bT_tp, bTs_nil, bTs_cons, getB_0, getB_s, fi_v, fi_r, fi_t, Q.M.isR, Q.M.op, Q.IK.md, im_seq, im_rng1, im_rng2, im_enum, im_zip, im_rng3, im_items, seq1_sq, zipD_eq, enumD_eq, seqOf_sq, seqOf_l, seqOf_t, seq1_l, seq1_t, len_sq, ix_sq, rev_sq, Option.map_some, Option.bind_some, List.set_cons_zero, List.set_cons_succ, List.map_cons, List.map_nil, unown, List.any_cons, List.any_nil, isOwn, Bool.or_false, Bool.or_true, Bool.false_and, Bool.true_and, Bool.and_false, Bool.and_true, finO, List.length_cons, List.length_nil, List.replicate, List.cons_append, List.nil_append, Nat.reduceSub, Nat.reduceAdd, Nat.sub_self, wipeB, Bool.not_true, Bool.not_false, Option.getD_some, cmpD, ltD, eqD_int, tru_bool, noLst_fq, tru_none, noLst, tup_l, tup_t, tup_sq, list_sq, len_l, len_t, grd_true, bin_addI, bin_subI, ix_l, ix_t, big1, big2]
end
end Q

set_option Elab.async false
set_option linter.all false
set_option maxRecDepth 100000
set_option exponentiation.threshold 4000
/-! k01: a turn; the law -/
namespace Q
open PySem PySem.Spec L2
open PyProof.Rows hiding St
def PE (env : QE) : Prop := ∃ v2 v3 v4 v5 v6 v7 v8 v9 v10 v11 v12 v13 v14 v15 v16 v17 v18 v19 : B, env = [.un, .tape, v2, v3, v4, v5, v6, v7, v8, v9, v10, v11, v12, v13, v14, v15, v16, v17, v18, v19]
theorem turn_ok {x : D} {n : Nat} {env : QE} {tp : Tp} (hP : PE env) (hT : TpN n tp) (hn : n ≤ 10000) : ∃ env' tp', PE env' ∧ TpN (n + 50) tp' ∧ wl_7 G1 10000 x env tp = .nx env' tp' := by
  obtain ⟨v2, v3, v4, v5, v6, v7, v8, v9, v10, v11, v12, v13, v14, v15, v16, v17, v18, v19, rfl⟩ := hP
  obtain ⟨a, b, t0, ha, hb, hT, r0⟩ := s_0 (v2 := .val x) (v3 := v3) (v4 := v4) (v5 := v5) (v6 := v6) (v7 := v7) (v8 := v8) (v9 := v9) (v10 := v10) (v11 := v11) (v12 := v12) (v13 := v13) (v14 := v14) (v15 := v15) (v16 := v16) (v17 := v17) (v18 := v18) (v19 := v19) hT (by omega)
  obtain ⟨p, q, t1, p1, p2, p3, p4, hT, r4⟩ := s_4 (v2 := .val x) (v3 := v3) (v4 := v4) (v5 := v5) (v6 := v6) (v7 := v7) (v8 := v8) (v9 := v9) (v10 := .val (fq a)) (v11 := .val (fq b)) (v12 := v12) (v13 := v13) (v14 := v14) (v15 := v15) (v16 := v16) (v17 := v17) (v18 := v18) (v19 := v19) hT (by omega)
  obtain ⟨m, t2, hm, hT, r6⟩ := s_6 (v2 := .val x) (v3 := v3) (v4 := v4) (v5 := v5) (v6 := v6) (v7 := v7) (v8 := v8) (v9 := v9) (v10 := .val (fq a)) (v11 := .val (fq b)) (v12 := .val (.int p)) (v13 := .val (.int q)) (v14 := v14) (v15 := v15) (v16 := v16) (v17 := v17) (v18 := v18) (v19 := v19) hT (by omega)
  obtain ⟨w5, r8⟩ := s_8 (v2 := .val x) (v5 := v5) (v6 := v6) (v7 := v7) (v8 := v8) (v9 := v9) (v11 := .val (fq b)) (v12 := .val (.int p)) (v13 := .val (.int q)) (v14 := v14) (v15 := v15) (v16 := v16) (v17 := v17) (v18 := v18) (v19 := v19) (tp := t2) ha hm
  obtain ⟨s, t3, h1, h3, hT, r11⟩ := s_11 (v2 := .val x) (v3 := .val (.int (m : Nat))) (v4 := .val (fq (powR a m))) (v5 := w5) (v6 := v6) (v7 := v7) (v8 := v8) (v9 := v9) (v10 := .val (fq a)) (v11 := .val (fq b)) (v12 := .val (.int p)) (v13 := .val (.int q)) (v14 := v14) (v15 := v15) (v16 := v16) (v17 := v17) (v18 := v18) (v19 := v19) hT (by omega)
  obtain ⟨T, t4, hT1, hT2, hT, r12⟩ := s_12 (v2 := .val x) (v3 := .val (.int (m : Nat))) (v4 := .val (fq (powR a m))) (v5 := w5) (v7 := v7) (v8 := v8) (v9 := v9) (v10 := .val (fq a)) (v11 := .val (fq b)) (v12 := .val (.int p)) (v13 := .val (.int q)) (v14 := v14) (v15 := v15) (v16 := v16) (v17 := v17) (v18 := v18) (v19 := v19) hT (by omega) h1 h3
  obtain ⟨aims, t5, hA1, hA2, hT, r13⟩ := s_13 (v2 := .val x) (v3 := .val (.int (m : Nat))) (v4 := .val (fq (powR a m))) (v5 := w5) (v7 := .val (tD T)) (v8 := v8) (v9 := v9) (v10 := .val (fq a)) (v11 := .val (fq b)) (v12 := .val (.int p)) (v13 := .val (.int q)) (v14 := v14) (v15 := v15) (v16 := v16) (v17 := v17) (v18 := v18) (v19 := v19) hT (by omega) h1 h3
  have tab : TabOk s T aims := ⟨h1, h3, hT1, hT2, hA1, hA2⟩
  obtain ⟨b5, b14, b15, b16, r15⟩ := s_15 (v2 := .val x) (v3 := .val (.int (m : Nat))) (v4 := .val (fq (powR a m))) (v5 := w5) (v8 := .val (.list (qs aims))) (v10 := .val (fq a)) (v11 := .val (fq b)) (v12 := .val (.int p)) (v13 := .val (.int q)) (v14 := v14) (v15 := v15) (v16 := v16) (v17 := v17) (v18 := v18) (v19 := v19) (tp := t5) tab
  refine ⟨[.un, .tape, .val x, .val (.int (m : Nat)), .val (fq (powR a m)), b5, .val (.int (s : Nat)), .val (tD T), .val (.list (qs aims)), .own (qs ((ords s).map (prodT T s))), .val (fq a), .val (fq b), .val (.int p), .val (.int q), b14, b15, b16, .val (fq (detR T)), .val (optL (solvedR T aims)), v19], t5, ⟨_, _, _, _, _, _, _, _, _, _, _, _, _, _, _, _, _, _, rfl⟩, hT.mono' (by omega), ?_⟩
  show exSs G1 10000 (.cons w_0_0 _) [.un, .tape, .val x, v3, v4, v5, v6, v7, v8, v9, v10, v11, v12, v13, v14, v15, v16, v17, v18, v19] tp = _
  rw [cons_nx r0, cons_nx (s_1 ha hb), cons_nx (s_2 ha hb), cons_nx (s_3 ha hb), cons_nx r4, cons_nx (s_5 p1 p2 p3 p4), cons_nx r6, cons_nx s_7, cons_nx r8, cons_nx (s_9 ha hm), cons_nx (s_10 ha), cons_nx r11, cons_nx r12, cons_nx r13, cons_nx s_14, cons_nx r15, cons_nx (s_16 tab), cons_nx (s_17 tab), cons_nx (s_18 tab), cons_nx (s_19 tab), xs_nil]
theorem end_ok {env : QE} {tp : Tp} : exS G1 10000 w_1 env tp = .rt (.bool true) tp := by
  have e1 : callC codes gl 10000 28 14 [.val (.list []), .val (.list [])] tp = .ok (.tuple []) tp := f_solved 28 tp false false false [] [] 6 4 (by omega) (by decide) rfl (fun r hr => by cases hr) (fun q hq => by cases hq) (fun k hk => by cases hk)
  have d0 : detR [] = 1 := rfl
  have e2 : callC codes gl 10000 28 15 [.val (.list [])] tp = .ok (fq (detR [])) tp := f_det 28 tp false false [] 6 4 (by omega) (by decide) (fun r hr => by cases hr) (fun k hk => by cases hk)
  have e3 : callC codes gl 10000 28 9 [.val (.list [])] tp = .ok (fq 0) tp := f_sum 28 tp false [] 6 4 (by omega) (rw60 (by decide) (fun q hq => by cases hq)) (by omega)
  rw [d0] at e2
  have b0 : big 0 = true := rfl
  have q0 : eqD (.tuple []) (.tuple []) = some true := rfl
  simp only [b0, e1, e2, e3, q0, one_t, zero_t, eq_fq, decide_true, xs_nil, xs_cons, x_set, x_setL, x_par, x_unp, x_app, x_ext, x_sub, x_aug, x_ret, x_ife, x_ex, x_cont, x_brk, x_pass, x_frz, x_for, v_var, v_lit, v_glo, v_bin, v_neg, v_cmp, v_chain, v_not, v_and, v_or, v_ite, v_call, v_blt, v_ix, v_slc, v_lst, v_tup, v_lc, v_rev, es_nil', es_cons', ea_nil, ea_cons, argB, thn_nx, thn_rt, thn_ct, thn_br, bind_ok, so_ok, opt_some, bT_nm, bT_tp, bTs_nil, bTs_cons, getB_0, getB_s, fi_v, fi_r, fi_t, Q.M.isR, Q.M.op, Q.IK.md, im_seq, im_rng1, im_rng2, im_enum, im_zip, im_rng3, im_items, seq1_sq, zipD_eq, enumD_eq, seqOf_sq, seqOf_l, seqOf_t, seq1_l, seq1_t, len_sq, ix_sq, rev_sq, Option.map_some, Option.bind_some, List.set_cons_zero, List.set_cons_succ, List.map_cons, List.map_nil, unown, List.any_cons, List.any_nil, isOwn, Bool.or_false, Bool.or_true, Bool.false_and, Bool.true_and, Bool.and_false, Bool.and_true, finO, List.length_cons, List.length_nil, List.replicate, List.cons_append, List.nil_append, Nat.reduceSub, Nat.reduceAdd, Nat.sub_self, wipeB, Bool.not_true, Bool.not_false, Option.getD_some, cmpD, ltD, eqD_int, tru_bool, noLst_fq, tru_none, noLst, tup_l, tup_t, tup_sq, list_sq, len_l, len_t, grd_true, bin_addI, bin_subI, ix_l, ix_t, big1, big2]
theorem runs01 {tp : Tp} (hT : TpN 0 tp) : ∃ t, exSs G1 10000 c_law.ss ((List.replicate c_law.N.length B.un).set 1 .tape) tp = .rt (.bool true) t := by
  have r1 : rng1D [.int 4] = _ := rng1_nat (n := 4) (by decide)
  obtain ⟨env', tp', h1, h2, h3⟩ := for_draw (f := wl_7 G1 10000) (e := fun j : Nat => PyData.int (j : Int)) (P := PE) (c := 50) (N := 10000) (xs := List.range 4) (n := 0) (env := (List.replicate c_law.N.length B.un).set 1 .tape) (tp := tp) (fun j hj n env tp hP hT hn => turn_ok hP hT hn) ⟨_, _, _, _, _, _, _, _, _, _, _, _, _, _, _, _, _, _, rfl⟩ hT (by decide)
  refine ⟨tp', ?_⟩
  rw [law_ss]
  have e0 : exS G1 10000 w_0 ((List.replicate c_law.N.length B.un).set 1 .tape) tp = .nx env' tp' := by
    unfold w_0
    rw [x_for]
    rw [show evs G1 .v (.cons (.lit (.int 4)) .nil) ((List.replicate c_law.N.length B.un).set 1 .tape) tp = .ok [.int 4] tp from rfl, bind_ok, im_rng1, r1, opt_some, so_ok]
    exact h3
  rw [cons_nx e0, cons_rt end_ok]
end Q

set_option Elab.async false
set_option linter.all false
set_option maxRecDepth 1000000
set_option maxHeartbeats 0
namespace Q
open PySem PySem.Spec L2
open PyProof.Rows hiding St
def top (i : Nat) : Stmt := PySem.Challenge.pw_oddsinfull_k01_shares_and_equations.main.body.getD i (.Pass ⟨0, 0, 0, 0⟩)
def mkD (x : Str) (i : Nat) : He.DefD := ⟨(x, none), x, x, defArgs (top i), defBody (top i), defScope (top i), [], []⟩
def freeL : List Str := ["len", "abs", "int", "tuple", "list", "any", "all", "sum", "max", "min", "isinstance", "range", "enumerate", "zip", "sorted", "set", "str"]
def gloL : List Str := ["ZERO", "ONE"]
def excL : List Str := ["InvalidShare"]
def cxL : CkX := ⟨excL, true, "_law_refused", [0]⟩
def dfs0 : List He.DefD := [mkD "share" 6, mkD "plus" 7, mkD "minus" 8, mkD "times" 9, mkD "over" 10, mkD "less" 11, mkD "least" 12, mkD "greatest" 13, mkD "size_of" 14, mkD "sum_of" 15, mkD "dot" 16, mkD "power" 17, mkD "is_share" 18, mkD "share_text" 19, mkD "solved" 20]
def dfs1 : List He.DefD := [mkD "determinant" 21, mkD "_law_tape" 23, mkD "_law_take" 24, mkD "_law_gcd" 25, mkD "_law_ratio" 26, mkD "_law_lot" 27, mkD "_law_sum" 28, mkD "_law_times" 29, mkD "_law_minus" 30, mkD "_law_less" 31, mkD "_law_dot" 32, mkD "_law_refused" 33, mkD "_law_fraction" 34, mkD "_law_orders" 35, mkD "law" 36]
def dfs : List He.DefD := dfs0 ++ dfs1
def fcs0 : List He.Fa := [.glo "share", .glo "plus", .glo "minus", .glo "times", .glo "over", .glo "less", .glo "least", .glo "greatest", .glo "size_of", .glo "sum_of", .glo "dot", .glo "power", .glo "is_share", .glo "share_text", .glo "solved"]
def fcs1 : List He.Fa := [.glo "determinant", .glo "_law_tape", .glo "_law_take", .glo "_law_gcd", .glo "_law_ratio", .glo "_law_lot", .glo "_law_sum", .glo "_law_times", .glo "_law_minus", .glo "_law_less", .glo "_law_dot", .glo "_law_refused", .glo "_law_fraction", .glo "_law_orders", .glo "law"]
def fcs2 : List He.Fa := [.free "len", .free "abs", .free "int", .free "tuple", .free "list", .free "any", .free "all", .free "sum", .free "max", .free "min", .free "isinstance", .free "range", .free "enumerate", .free "zip", .free "sorted"]
def fcs3 : List He.Fa := [.free "set", .free "str", .glo "ZERO", .glo "ONE", .glo "InvalidShare"]
def fcs : List He.Fa := fcs0 ++ fcs1 ++ fcs2 ++ fcs3
def exB (K : PySem.W.Frag) : Bool := He.tupB K "ZERO" (([0, 1] : List Int).map He.Dv.int) && He.tupB K "ONE" (([1, 1] : List Int).map He.Dv.int) && clsB K "InvalidShare" && (PySem.W.exmOne K (gE K excL 0) (.ref (He.ga K "InvalidShare")) == some true)
theorem t_ZERO {K : PySem.W.Frag} (t : exB K = true) : (He.tupB K "ZERO" (([0, 1] : List Int).map He.Dv.int)) = true := (band (band (band t).1).1).1
theorem t_ONE {K : PySem.W.Frag} (t : exB K = true) : (He.tupB K "ONE" (([1, 1] : List Int).map He.Dv.int)) = true := (band (band (band t).1).1).2
theorem cl_InvalidShare {K : PySem.W.Frag} (t : exB K = true) : (clsB K "InvalidShare") = true := (band (band t).1).2
theorem cx_0 {K : PySem.W.Frag} (t : exB K = true) : ((PySem.W.exmOne K (gE K excL 0) (.ref (He.ga K "InvalidShare")) == some true)) = true := (band t).2
def loose0 : List Str := ["ChanceError", "InvalidShare", "ZERO", "ONE", "share", "plus", "minus", "times", "over", "less", "least", "greatest", "size_of", "sum_of", "dot"]
def loose1 : List Str := ["power", "is_share", "share_text", "solved", "determinant", "_law_tape", "_law_take", "_law_gcd", "_law_ratio", "_law_lot", "_law_sum", "_law_times", "_law_minus", "_law_less", "_law_dot"]
def loose2 : List Str := ["_law_refused", "_law_fraction", "_law_orders"]
def loose : List Str := loose0 ++ loose1 ++ loose2
abbrev tfL : List He.Defn := [("law", none)]
abbrev rowR : PySem.W.OpenRow := PySem.W.OpenLaw.row PySem.Challenge.rw_oddsinfull_k01_shares_and_equations
abbrev hkR : PySem.W.Hook := He.hookX 4 fcs dfs [] tfL exB
def obR (s : PySem.W.SharedT) : He.AlX := He.obsX 4 fcs dfs [] tfL exB (HandSHeadRun.getT s)
theorem obR_eq (s : PySem.W.SharedT) : obR s = hkR.obs s.abs := He.obsX_eq (HandSHeadRun.getT_eq s)
theorem runR (w : PySem.World) : HandSHeadRun.RunEq rowR (PySem.W.view rowR.prog [36]) hkR obR 4000 loose w := by
  intro os
  kernel_rfl
abbrev freeF : Str → Bool := fun x => freeL.contains x
abbrev gloF : Str → Bool := fun x => gloL.contains x
section
variable {g : G} {P : Program} {w : PySem.World} {K : PySem.W.Frag} {h : Heap} {mg : Str → Option Value}
abbrev EkOk (g : G) (P : Program) (w : PySem.World) (K : PySem.W.Frag) (mg : Str → Option Value) (base : Heap) : Str → Ent → Prop := fun x e => EntOk g P w K mg base names freeF gloF cxL x e
theorem sc_share : FnScope c_share.N c_share.ps (defScope (top 6)) := ⟨rfl, rfl, rfl, by decide +kernel, rfl, by decide +kernel, by decide +kernel⟩
theorem ck_share : chkSs ⟨c_share.N, names, freeF, gloF, cxL.no⟩ (defScope (top 6)) c_share.ss (defBody (top 6)) = true := by decide +kernel
theorem en_share {base : Heap} (X : K.In h) (G : h.Ns mainGlobals mg) (c : He.SaysD fcs dfs K) : EkOk g P w K mg base "share" (.code c_share) := by
  obtain ⟨fd, F⟩ := c.def_ 0 (d := mkD "share" 6) rfl
  exact ⟨_, fd, _, _, _, _, _, He.glo_ok X G (c.fact 0 (f := .glo "share") rfl), F, F.bindsN (fun _ _ _ _ _ _ us hl => match us, hl with | [_, _], _ => rfl), sc_share, ck_share⟩
theorem sc_plus : FnScope c_plus.N c_plus.ps (defScope (top 7)) := ⟨rfl, rfl, rfl, by decide +kernel, rfl, by decide +kernel, by decide +kernel⟩
theorem ck_plus : chkSs ⟨c_plus.N, names, freeF, gloF, cxL.no⟩ (defScope (top 7)) c_plus.ss (defBody (top 7)) = true := by decide +kernel
theorem en_plus {base : Heap} (X : K.In h) (G : h.Ns mainGlobals mg) (c : He.SaysD fcs dfs K) : EkOk g P w K mg base "plus" (.code c_plus) := by
  obtain ⟨fd, F⟩ := c.def_ 1 (d := mkD "plus" 7) rfl
  exact ⟨_, fd, _, _, _, _, _, He.glo_ok X G (c.fact 1 (f := .glo "plus") rfl), F, F.bindsN (fun _ _ _ _ _ _ us hl => match us, hl with | [_, _], _ => rfl), sc_plus, ck_plus⟩
theorem sc_minus : FnScope c_minus.N c_minus.ps (defScope (top 8)) := ⟨rfl, rfl, rfl, by decide +kernel, rfl, by decide +kernel, by decide +kernel⟩
theorem ck_minus : chkSs ⟨c_minus.N, names, freeF, gloF, cxL.no⟩ (defScope (top 8)) c_minus.ss (defBody (top 8)) = true := by decide +kernel
theorem en_minus {base : Heap} (X : K.In h) (G : h.Ns mainGlobals mg) (c : He.SaysD fcs dfs K) : EkOk g P w K mg base "minus" (.code c_minus) := by
  obtain ⟨fd, F⟩ := c.def_ 2 (d := mkD "minus" 8) rfl
  exact ⟨_, fd, _, _, _, _, _, He.glo_ok X G (c.fact 2 (f := .glo "minus") rfl), F, F.bindsN (fun _ _ _ _ _ _ us hl => match us, hl with | [_, _], _ => rfl), sc_minus, ck_minus⟩
theorem sc_times : FnScope c_times.N c_times.ps (defScope (top 9)) := ⟨rfl, rfl, rfl, by decide +kernel, rfl, by decide +kernel, by decide +kernel⟩
theorem ck_times : chkSs ⟨c_times.N, names, freeF, gloF, cxL.no⟩ (defScope (top 9)) c_times.ss (defBody (top 9)) = true := by decide +kernel
theorem en_times {base : Heap} (X : K.In h) (G : h.Ns mainGlobals mg) (c : He.SaysD fcs dfs K) : EkOk g P w K mg base "times" (.code c_times) := by
  obtain ⟨fd, F⟩ := c.def_ 3 (d := mkD "times" 9) rfl
  exact ⟨_, fd, _, _, _, _, _, He.glo_ok X G (c.fact 3 (f := .glo "times") rfl), F, F.bindsN (fun _ _ _ _ _ _ us hl => match us, hl with | [_, _], _ => rfl), sc_times, ck_times⟩
theorem sc_over : FnScope c_over.N c_over.ps (defScope (top 10)) := ⟨rfl, rfl, rfl, by decide +kernel, rfl, by decide +kernel, by decide +kernel⟩
theorem ck_over : chkSs ⟨c_over.N, names, freeF, gloF, cxL.no⟩ (defScope (top 10)) c_over.ss (defBody (top 10)) = true := by decide +kernel
theorem en_over {base : Heap} (X : K.In h) (G : h.Ns mainGlobals mg) (c : He.SaysD fcs dfs K) : EkOk g P w K mg base "over" (.code c_over) := by
  obtain ⟨fd, F⟩ := c.def_ 4 (d := mkD "over" 10) rfl
  exact ⟨_, fd, _, _, _, _, _, He.glo_ok X G (c.fact 4 (f := .glo "over") rfl), F, F.bindsN (fun _ _ _ _ _ _ us hl => match us, hl with | [_, _], _ => rfl), sc_over, ck_over⟩
theorem sc_less : FnScope c_less.N c_less.ps (defScope (top 11)) := ⟨rfl, rfl, rfl, by decide +kernel, rfl, by decide +kernel, by decide +kernel⟩
theorem ck_less : chkSs ⟨c_less.N, names, freeF, gloF, cxL.no⟩ (defScope (top 11)) c_less.ss (defBody (top 11)) = true := by decide +kernel
theorem en_less {base : Heap} (X : K.In h) (G : h.Ns mainGlobals mg) (c : He.SaysD fcs dfs K) : EkOk g P w K mg base "less" (.code c_less) := by
  obtain ⟨fd, F⟩ := c.def_ 5 (d := mkD "less" 11) rfl
  exact ⟨_, fd, _, _, _, _, _, He.glo_ok X G (c.fact 5 (f := .glo "less") rfl), F, F.bindsN (fun _ _ _ _ _ _ us hl => match us, hl with | [_, _], _ => rfl), sc_less, ck_less⟩
theorem sc_least : FnScope c_least.N c_least.ps (defScope (top 12)) := ⟨rfl, rfl, rfl, by decide +kernel, rfl, by decide +kernel, by decide +kernel⟩
theorem ck_least : chkSs ⟨c_least.N, names, freeF, gloF, cxL.no⟩ (defScope (top 12)) c_least.ss (defBody (top 12)) = true := by decide +kernel
theorem en_least {base : Heap} (X : K.In h) (G : h.Ns mainGlobals mg) (c : He.SaysD fcs dfs K) : EkOk g P w K mg base "least" (.code c_least) := by
  obtain ⟨fd, F⟩ := c.def_ 6 (d := mkD "least" 12) rfl
  exact ⟨_, fd, _, _, _, _, _, He.glo_ok X G (c.fact 6 (f := .glo "least") rfl), F, F.bindsN (fun _ _ _ _ _ _ us hl => match us, hl with | [_, _], _ => rfl), sc_least, ck_least⟩
theorem sc_greatest : FnScope c_greatest.N c_greatest.ps (defScope (top 13)) := ⟨rfl, rfl, rfl, by decide +kernel, rfl, by decide +kernel, by decide +kernel⟩
theorem ck_greatest : chkSs ⟨c_greatest.N, names, freeF, gloF, cxL.no⟩ (defScope (top 13)) c_greatest.ss (defBody (top 13)) = true := by decide +kernel
theorem en_greatest {base : Heap} (X : K.In h) (G : h.Ns mainGlobals mg) (c : He.SaysD fcs dfs K) : EkOk g P w K mg base "greatest" (.code c_greatest) := by
  obtain ⟨fd, F⟩ := c.def_ 7 (d := mkD "greatest" 13) rfl
  exact ⟨_, fd, _, _, _, _, _, He.glo_ok X G (c.fact 7 (f := .glo "greatest") rfl), F, F.bindsN (fun _ _ _ _ _ _ us hl => match us, hl with | [_, _], _ => rfl), sc_greatest, ck_greatest⟩
theorem sc_size_of : FnScope c_size_of.N c_size_of.ps (defScope (top 14)) := ⟨rfl, rfl, rfl, by decide +kernel, rfl, by decide +kernel, by decide +kernel⟩
theorem ck_size_of : chkSs ⟨c_size_of.N, names, freeF, gloF, cxL.no⟩ (defScope (top 14)) c_size_of.ss (defBody (top 14)) = true := by decide +kernel
theorem en_size_of {base : Heap} (X : K.In h) (G : h.Ns mainGlobals mg) (c : He.SaysD fcs dfs K) : EkOk g P w K mg base "size_of" (.code c_size_of) := by
  obtain ⟨fd, F⟩ := c.def_ 8 (d := mkD "size_of" 14) rfl
  exact ⟨_, fd, _, _, _, _, _, He.glo_ok X G (c.fact 8 (f := .glo "size_of") rfl), F, F.bindsN (fun _ _ _ _ _ _ us hl => match us, hl with | [_], _ => rfl), sc_size_of, ck_size_of⟩
theorem sc_sum_of : FnScope c_sum_of.N c_sum_of.ps (defScope (top 15)) := ⟨rfl, rfl, rfl, by decide +kernel, rfl, by decide +kernel, by decide +kernel⟩
theorem ck_sum_of : chkSs ⟨c_sum_of.N, names, freeF, gloF, cxL.no⟩ (defScope (top 15)) c_sum_of.ss (defBody (top 15)) = true := by decide +kernel
theorem en_sum_of {base : Heap} (X : K.In h) (G : h.Ns mainGlobals mg) (c : He.SaysD fcs dfs K) : EkOk g P w K mg base "sum_of" (.code c_sum_of) := by
  obtain ⟨fd, F⟩ := c.def_ 9 (d := mkD "sum_of" 15) rfl
  exact ⟨_, fd, _, _, _, _, _, He.glo_ok X G (c.fact 9 (f := .glo "sum_of") rfl), F, F.bindsN (fun _ _ _ _ _ _ us hl => match us, hl with | [_], _ => rfl), sc_sum_of, ck_sum_of⟩
theorem sc_dot : FnScope c_dot.N c_dot.ps (defScope (top 16)) := ⟨rfl, rfl, rfl, by decide +kernel, rfl, by decide +kernel, by decide +kernel⟩
theorem ck_dot : chkSs ⟨c_dot.N, names, freeF, gloF, cxL.no⟩ (defScope (top 16)) c_dot.ss (defBody (top 16)) = true := by decide +kernel
theorem en_dot {base : Heap} (X : K.In h) (G : h.Ns mainGlobals mg) (c : He.SaysD fcs dfs K) : EkOk g P w K mg base "dot" (.code c_dot) := by
  obtain ⟨fd, F⟩ := c.def_ 10 (d := mkD "dot" 16) rfl
  exact ⟨_, fd, _, _, _, _, _, He.glo_ok X G (c.fact 10 (f := .glo "dot") rfl), F, F.bindsN (fun _ _ _ _ _ _ us hl => match us, hl with | [_, _], _ => rfl), sc_dot, ck_dot⟩
theorem sc_power : FnScope c_power.N c_power.ps (defScope (top 17)) := ⟨rfl, rfl, rfl, by decide +kernel, rfl, by decide +kernel, by decide +kernel⟩
theorem ck_power : chkSs ⟨c_power.N, names, freeF, gloF, cxL.no⟩ (defScope (top 17)) c_power.ss (defBody (top 17)) = true := by decide +kernel
theorem en_power {base : Heap} (X : K.In h) (G : h.Ns mainGlobals mg) (c : He.SaysD fcs dfs K) : EkOk g P w K mg base "power" (.code c_power) := by
  obtain ⟨fd, F⟩ := c.def_ 11 (d := mkD "power" 17) rfl
  exact ⟨_, fd, _, _, _, _, _, He.glo_ok X G (c.fact 11 (f := .glo "power") rfl), F, F.bindsN (fun _ _ _ _ _ _ us hl => match us, hl with | [_, _], _ => rfl), sc_power, ck_power⟩
theorem sc_is_share : FnScope c_is_share.N c_is_share.ps (defScope (top 18)) := ⟨rfl, rfl, rfl, by decide +kernel, rfl, by decide +kernel, by decide +kernel⟩
theorem ck_is_share : chkSs ⟨c_is_share.N, names, freeF, gloF, cxL.no⟩ (defScope (top 18)) c_is_share.ss (defBody (top 18)) = true := by decide +kernel
theorem en_is_share {base : Heap} (X : K.In h) (G : h.Ns mainGlobals mg) (c : He.SaysD fcs dfs K) : EkOk g P w K mg base "is_share" (.code c_is_share) := by
  obtain ⟨fd, F⟩ := c.def_ 12 (d := mkD "is_share" 18) rfl
  exact ⟨_, fd, _, _, _, _, _, He.glo_ok X G (c.fact 12 (f := .glo "is_share") rfl), F, F.bindsN (fun _ _ _ _ _ _ us hl => match us, hl with | [_], _ => rfl), sc_is_share, ck_is_share⟩
theorem sc_share_text : FnScope c_share_text.N c_share_text.ps (defScope (top 19)) := ⟨rfl, rfl, rfl, by decide +kernel, rfl, by decide +kernel, by decide +kernel⟩
theorem ck_share_text : chkSs ⟨c_share_text.N, names, freeF, gloF, cxL.no⟩ (defScope (top 19)) c_share_text.ss (defBody (top 19)) = true := by decide +kernel
theorem en_share_text {base : Heap} (X : K.In h) (G : h.Ns mainGlobals mg) (c : He.SaysD fcs dfs K) : EkOk g P w K mg base "share_text" (.code c_share_text) := by
  obtain ⟨fd, F⟩ := c.def_ 13 (d := mkD "share_text" 19) rfl
  exact ⟨_, fd, _, _, _, _, _, He.glo_ok X G (c.fact 13 (f := .glo "share_text") rfl), F, F.bindsN (fun _ _ _ _ _ _ us hl => match us, hl with | [_], _ => rfl), sc_share_text, ck_share_text⟩
theorem sc_solved : FnScope c_solved.N c_solved.ps (defScope (top 20)) := ⟨rfl, rfl, rfl, by decide +kernel, rfl, by decide +kernel, by decide +kernel⟩
theorem ck_solved : chkSs ⟨c_solved.N, names, freeF, gloF, cxL.no⟩ (defScope (top 20)) c_solved.ss (defBody (top 20)) = true := by decide +kernel
theorem en_solved {base : Heap} (X : K.In h) (G : h.Ns mainGlobals mg) (c : He.SaysD fcs dfs K) : EkOk g P w K mg base "solved" (.code c_solved) := by
  obtain ⟨fd, F⟩ := c.def_ 14 (d := mkD "solved" 20) rfl
  exact ⟨_, fd, _, _, _, _, _, He.glo_ok X G (c.fact 14 (f := .glo "solved") rfl), F, F.bindsN (fun _ _ _ _ _ _ us hl => match us, hl with | [_, _], _ => rfl), sc_solved, ck_solved⟩
theorem sc_determinant : FnScope c_determinant.N c_determinant.ps (defScope (top 21)) := ⟨rfl, rfl, rfl, by decide +kernel, rfl, by decide +kernel, by decide +kernel⟩
theorem ck_determinant : chkSs ⟨c_determinant.N, names, freeF, gloF, cxL.no⟩ (defScope (top 21)) c_determinant.ss (defBody (top 21)) = true := by decide +kernel
theorem en_determinant {base : Heap} (X : K.In h) (G : h.Ns mainGlobals mg) (c : He.SaysD fcs dfs K) : EkOk g P w K mg base "determinant" (.code c_determinant) := by
  obtain ⟨fd, F⟩ := c.def_ 15 (d := mkD "determinant" 21) rfl
  exact ⟨_, fd, _, _, _, _, _, He.glo_ok X G (c.fact 15 (f := .glo "determinant") rfl), F, F.bindsN (fun _ _ _ _ _ _ us hl => match us, hl with | [_], _ => rfl), sc_determinant, ck_determinant⟩
theorem sc_law_take : FnScope c_law_take.N c_law_take.ps (defScope (top 24)) := ⟨rfl, rfl, rfl, by decide +kernel, rfl, by decide +kernel, by decide +kernel⟩
theorem ck_law_take : chkSs ⟨c_law_take.N, names, freeF, gloF, cxL.no⟩ (defScope (top 24)) c_law_take.ss (defBody (top 24)) = true := by decide +kernel
theorem en_law_take {base : Heap} (X : K.In h) (G : h.Ns mainGlobals mg) (c : He.SaysD fcs dfs K) : EkOk g P w K mg base "_law_take" (.code c_law_take) := by
  obtain ⟨fd, F⟩ := c.def_ 17 (d := mkD "_law_take" 24) rfl
  exact ⟨_, fd, _, _, _, _, _, He.glo_ok X G (c.fact 17 (f := .glo "_law_take") rfl), F, F.bindsN (fun _ _ _ _ _ _ us hl => match us, hl with | [_, _], _ => rfl), sc_law_take, ck_law_take⟩
theorem sc_law_gcd : FnScope c_law_gcd.N c_law_gcd.ps (defScope (top 25)) := ⟨rfl, rfl, rfl, by decide +kernel, rfl, by decide +kernel, by decide +kernel⟩
theorem ck_law_gcd : chkSs ⟨c_law_gcd.N, names, freeF, gloF, cxL.no⟩ (defScope (top 25)) c_law_gcd.ss (defBody (top 25)) = true := by decide +kernel
theorem en_law_gcd {base : Heap} (X : K.In h) (G : h.Ns mainGlobals mg) (c : He.SaysD fcs dfs K) : EkOk g P w K mg base "_law_gcd" (.code c_law_gcd) := by
  obtain ⟨fd, F⟩ := c.def_ 18 (d := mkD "_law_gcd" 25) rfl
  exact ⟨_, fd, _, _, _, _, _, He.glo_ok X G (c.fact 18 (f := .glo "_law_gcd") rfl), F, F.bindsN (fun _ _ _ _ _ _ us hl => match us, hl with | [_, _], _ => rfl), sc_law_gcd, ck_law_gcd⟩
theorem sc_law_ratio : FnScope c_law_ratio.N c_law_ratio.ps (defScope (top 26)) := ⟨rfl, rfl, rfl, by decide +kernel, rfl, by decide +kernel, by decide +kernel⟩
theorem ck_law_ratio : chkSs ⟨c_law_ratio.N, names, freeF, gloF, cxL.no⟩ (defScope (top 26)) c_law_ratio.ss (defBody (top 26)) = true := by decide +kernel
theorem en_law_ratio {base : Heap} (X : K.In h) (G : h.Ns mainGlobals mg) (c : He.SaysD fcs dfs K) : EkOk g P w K mg base "_law_ratio" (.code c_law_ratio) := by
  obtain ⟨fd, F⟩ := c.def_ 19 (d := mkD "_law_ratio" 26) rfl
  exact ⟨_, fd, _, _, _, _, _, He.glo_ok X G (c.fact 19 (f := .glo "_law_ratio") rfl), F, F.bindsN (fun _ _ _ _ _ _ us hl => match us, hl with | [_, _], _ => rfl), sc_law_ratio, ck_law_ratio⟩
theorem sc_law_lot : FnScope c_law_lot.N c_law_lot.ps (defScope (top 27)) := ⟨rfl, rfl, rfl, by decide +kernel, rfl, by decide +kernel, by decide +kernel⟩
theorem ck_law_lot : chkSs ⟨c_law_lot.N, names, freeF, gloF, cxL.no⟩ (defScope (top 27)) c_law_lot.ss (defBody (top 27)) = true := by decide +kernel
theorem en_law_lot {base : Heap} (X : K.In h) (G : h.Ns mainGlobals mg) (c : He.SaysD fcs dfs K) : EkOk g P w K mg base "_law_lot" (.code c_law_lot) := by
  obtain ⟨fd, F⟩ := c.def_ 20 (d := mkD "_law_lot" 27) rfl
  exact ⟨_, fd, _, _, _, _, _, He.glo_ok X G (c.fact 20 (f := .glo "_law_lot") rfl), F, F.bindsN (fun _ _ _ _ _ _ us hl => match us, hl with | [_, _], _ => rfl), sc_law_lot, ck_law_lot⟩
theorem sc_law_sum : FnScope c_law_sum.N c_law_sum.ps (defScope (top 28)) := ⟨rfl, rfl, rfl, by decide +kernel, rfl, by decide +kernel, by decide +kernel⟩
theorem ck_law_sum : chkSs ⟨c_law_sum.N, names, freeF, gloF, cxL.no⟩ (defScope (top 28)) c_law_sum.ss (defBody (top 28)) = true := by decide +kernel
theorem en_law_sum {base : Heap} (X : K.In h) (G : h.Ns mainGlobals mg) (c : He.SaysD fcs dfs K) : EkOk g P w K mg base "_law_sum" (.code c_law_sum) := by
  obtain ⟨fd, F⟩ := c.def_ 21 (d := mkD "_law_sum" 28) rfl
  exact ⟨_, fd, _, _, _, _, _, He.glo_ok X G (c.fact 21 (f := .glo "_law_sum") rfl), F, F.bindsN (fun _ _ _ _ _ _ us hl => match us, hl with | [_], _ => rfl), sc_law_sum, ck_law_sum⟩
theorem sc_law_times : FnScope c_law_times.N c_law_times.ps (defScope (top 29)) := ⟨rfl, rfl, rfl, by decide +kernel, rfl, by decide +kernel, by decide +kernel⟩
theorem ck_law_times : chkSs ⟨c_law_times.N, names, freeF, gloF, cxL.no⟩ (defScope (top 29)) c_law_times.ss (defBody (top 29)) = true := by decide +kernel
theorem en_law_times {base : Heap} (X : K.In h) (G : h.Ns mainGlobals mg) (c : He.SaysD fcs dfs K) : EkOk g P w K mg base "_law_times" (.code c_law_times) := by
  obtain ⟨fd, F⟩ := c.def_ 22 (d := mkD "_law_times" 29) rfl
  exact ⟨_, fd, _, _, _, _, _, He.glo_ok X G (c.fact 22 (f := .glo "_law_times") rfl), F, F.bindsN (fun _ _ _ _ _ _ us hl => match us, hl with | [_, _], _ => rfl), sc_law_times, ck_law_times⟩
theorem sc_law_minus : FnScope c_law_minus.N c_law_minus.ps (defScope (top 30)) := ⟨rfl, rfl, rfl, by decide +kernel, rfl, by decide +kernel, by decide +kernel⟩
theorem ck_law_minus : chkSs ⟨c_law_minus.N, names, freeF, gloF, cxL.no⟩ (defScope (top 30)) c_law_minus.ss (defBody (top 30)) = true := by decide +kernel
theorem en_law_minus {base : Heap} (X : K.In h) (G : h.Ns mainGlobals mg) (c : He.SaysD fcs dfs K) : EkOk g P w K mg base "_law_minus" (.code c_law_minus) := by
  obtain ⟨fd, F⟩ := c.def_ 23 (d := mkD "_law_minus" 30) rfl
  exact ⟨_, fd, _, _, _, _, _, He.glo_ok X G (c.fact 23 (f := .glo "_law_minus") rfl), F, F.bindsN (fun _ _ _ _ _ _ us hl => match us, hl with | [_, _], _ => rfl), sc_law_minus, ck_law_minus⟩
theorem sc_law_less : FnScope c_law_less.N c_law_less.ps (defScope (top 31)) := ⟨rfl, rfl, rfl, by decide +kernel, rfl, by decide +kernel, by decide +kernel⟩
theorem ck_law_less : chkSs ⟨c_law_less.N, names, freeF, gloF, cxL.no⟩ (defScope (top 31)) c_law_less.ss (defBody (top 31)) = true := by decide +kernel
theorem en_law_less {base : Heap} (X : K.In h) (G : h.Ns mainGlobals mg) (c : He.SaysD fcs dfs K) : EkOk g P w K mg base "_law_less" (.code c_law_less) := by
  obtain ⟨fd, F⟩ := c.def_ 24 (d := mkD "_law_less" 31) rfl
  exact ⟨_, fd, _, _, _, _, _, He.glo_ok X G (c.fact 24 (f := .glo "_law_less") rfl), F, F.bindsN (fun _ _ _ _ _ _ us hl => match us, hl with | [_, _], _ => rfl), sc_law_less, ck_law_less⟩
theorem sc_law_dot : FnScope c_law_dot.N c_law_dot.ps (defScope (top 32)) := ⟨rfl, rfl, rfl, by decide +kernel, rfl, by decide +kernel, by decide +kernel⟩
theorem ck_law_dot : chkSs ⟨c_law_dot.N, names, freeF, gloF, cxL.no⟩ (defScope (top 32)) c_law_dot.ss (defBody (top 32)) = true := by decide +kernel
theorem en_law_dot {base : Heap} (X : K.In h) (G : h.Ns mainGlobals mg) (c : He.SaysD fcs dfs K) : EkOk g P w K mg base "_law_dot" (.code c_law_dot) := by
  obtain ⟨fd, F⟩ := c.def_ 25 (d := mkD "_law_dot" 32) rfl
  exact ⟨_, fd, _, _, _, _, _, He.glo_ok X G (c.fact 25 (f := .glo "_law_dot") rfl), F, F.bindsN (fun _ _ _ _ _ _ us hl => match us, hl with | [_, _], _ => rfl), sc_law_dot, ck_law_dot⟩
theorem sc_law_fraction : FnScope c_law_fraction.N c_law_fraction.ps (defScope (top 34)) := ⟨rfl, rfl, rfl, by decide +kernel, rfl, by decide +kernel, by decide +kernel⟩
theorem ck_law_fraction : chkSs ⟨c_law_fraction.N, names, freeF, gloF, cxL.no⟩ (defScope (top 34)) c_law_fraction.ss (defBody (top 34)) = true := by decide +kernel
theorem en_law_fraction {base : Heap} (X : K.In h) (G : h.Ns mainGlobals mg) (c : He.SaysD fcs dfs K) : EkOk g P w K mg base "_law_fraction" (.code c_law_fraction) := by
  obtain ⟨fd, F⟩ := c.def_ 27 (d := mkD "_law_fraction" 34) rfl
  exact ⟨_, fd, _, _, _, _, _, He.glo_ok X G (c.fact 27 (f := .glo "_law_fraction") rfl), F, F.bindsN (fun _ _ _ _ _ _ us hl => match us, hl with | [_], _ => rfl), sc_law_fraction, ck_law_fraction⟩
theorem sc_law_orders : FnScope c_law_orders.N c_law_orders.ps (defScope (top 35)) := ⟨rfl, rfl, rfl, by decide +kernel, rfl, by decide +kernel, by decide +kernel⟩
theorem ck_law_orders : chkSs ⟨c_law_orders.N, names, freeF, gloF, cxL.no⟩ (defScope (top 35)) c_law_orders.ss (defBody (top 35)) = true := by decide +kernel
theorem en_law_orders {base : Heap} (X : K.In h) (G : h.Ns mainGlobals mg) (c : He.SaysD fcs dfs K) : EkOk g P w K mg base "_law_orders" (.code c_law_orders) := by
  obtain ⟨fd, F⟩ := c.def_ 28 (d := mkD "_law_orders" 35) rfl
  exact ⟨_, fd, _, _, _, _, _, He.glo_ok X G (c.fact 28 (f := .glo "_law_orders") rfl), F, F.bindsN (fun _ _ _ _ _ _ us hl => match us, hl with | [_], _ => rfl), sc_law_orders, ck_law_orders⟩
theorem ents_all {base : Heap} (X : K.In h) (G : h.Ns mainGlobals mg) (c : He.SaysD fcs dfs K) : EntsOk (EkOk g P w K mg base) names codes :=
  ((show EntsOk (EkOk g P w K mg base) names0 codes0 from ⟨en_share X G c, en_plus X G c, en_minus X G c, en_times X G c, en_over X G c, en_less X G c, en_least X G c, en_greatest X G c, en_size_of X G c, en_sum_of X G c, en_dot X G c, en_power X G c, en_is_share X G c, en_share_text X G c, en_solved X G c, trivial⟩).append (show EntsOk (EkOk g P w K mg base) names1 codes1 from ⟨en_determinant X G c, en_law_take X G c, en_law_gcd X G c, en_law_ratio X G c, en_law_lot X G c, en_law_sum X G c, en_law_times X G c, en_law_minus X G c, en_law_less X G c, en_law_dot X G c, en_law_fraction X G c, en_law_orders X G c, trivial⟩))
theorem free_all (X : K.In h) (G : h.Ns mainGlobals mg) (c : He.SaysD fcs dfs K) : ∀ x, freeF x = true → mg x = none := fun x hx =>
  AllL.mem (P := fun x => mg x = none) (show AllL _ freeL from ⟨He.free_ok X G (c.fact 30 (f := .free "len") rfl), He.free_ok X G (c.fact 31 (f := .free "abs") rfl), He.free_ok X G (c.fact 32 (f := .free "int") rfl), He.free_ok X G (c.fact 33 (f := .free "tuple") rfl), He.free_ok X G (c.fact 34 (f := .free "list") rfl), He.free_ok X G (c.fact 35 (f := .free "any") rfl), He.free_ok X G (c.fact 36 (f := .free "all") rfl), He.free_ok X G (c.fact 37 (f := .free "sum") rfl), He.free_ok X G (c.fact 38 (f := .free "max") rfl), He.free_ok X G (c.fact 39 (f := .free "min") rfl), He.free_ok X G (c.fact 40 (f := .free "isinstance") rfl), He.free_ok X G (c.fact 41 (f := .free "range") rfl), He.free_ok X G (c.fact 42 (f := .free "enumerate") rfl), He.free_ok X G (c.fact 43 (f := .free "zip") rfl), He.free_ok X G (c.fact 44 (f := .free "sorted") rfl), He.free_ok X G (c.fact 45 (f := .free "set") rfl), He.free_ok X G (c.fact 46 (f := .free "str") rfl), trivial⟩) x (has_mem hx)
theorem glo_all (X : K.In h) (G : h.Ns mainGlobals mg) (c : He.SaysD fcs dfs K) (t : exB K = true) : ∀ x, gloF x = true → ConOk K mg gl x := fun x hx =>
  AllL.mem (P := fun x => ConOk K mg gl x) (show AllL _ gloL from ⟨con_tup (ns := [0, 1]) X G (c.fact 47 (f := .glo "ZERO") rfl) (t_ZERO t) (by kernel_rfl), con_tup (ns := [1, 1]) X G (c.fact 48 (f := .glo "ONE") rfl) (t_ONE t) (by kernel_rfl), trivial⟩) x (has_mem hx)
theorem exc_all (hg : g.cls = gE K excL) (X : K.In h) (G : h.Ns mainGlobals mg) (c : He.SaysD fcs dfs K) (t : exB K = true) : ∀ c x, cxL.exc[c]? = some x → ExO g mg K c x := fun i x hx => by
  match i, hx with
  | 0, hx => cases hx; exact exO_of (exc := excL) (c := 0) X G rfl hg (c.fact 49 (f := .glo "InvalidShare") rfl) (cl_InvalidShare t)
  | n + 1, hx => cases hx
end
end Q

set_option Elab.async false
set_option linter.all false
set_option maxRecDepth 1000000
set_option maxHeartbeats 0
namespace Q
open PySem PySem.Spec L2
open PyProof.Rows hiding St
section
variable {P : Program} {w : PySem.World} {K : PySem.W.Frag} {h : Heap} {mg : Str → Option Value}
theorem hF_ : 6001 ≤ 10000 := by decide
theorem sc_law : FnScope c_law.N ["script"] (defScope (top 36)) := ⟨rfl, rfl, rfl, by decide +kernel, rfl, by decide +kernel, by decide +kernel⟩
theorem ck_law : chkSs ⟨c_law.N, names, freeF, gloF, cxL⟩ (defScope (top 36)) c_law.ss ((defBody (top 36)).drop 1) = true := by decide +kernel
theorem tp0 (ns : List Int) : TpN 0 (tpOf ns) := ⟨smI_of (Nat.lt_of_lt_of_le (show (seedOf (ns.map absI)).natAbs < 2 ^ 31 by have := seed_rng (ns.map absI); omega) (pow_le (by decide))), Int.le_refl _, Int.le_refl _⟩
theorem isVis {sc : Scope} {x : Str} (h : isLoc sc x = true) : Vis sc x := .inl (isLoc_ok h)
theorem sc_ref : FnScope ["call"] ["call"] (defScope (top 33)) := ⟨rfl, rfl, rfl, by decide +kernel, rfl, by decide +kernel, by decide +kernel⟩
abbrev gR (K : PySem.W.Frag) : G := gL K excL [((He.cT K ("law", none)).2, qLam (defScope (top 36)))]
theorem hx_ref {K : PySem.W.Frag} (t : exB K = true) : ∀ i, cxL.rcs.contains i = true → PySem.W.exmOne K (gE K excL i) (.ref (He.ga K "InvalidShare")) = some true := fun i hi => by
      have hi : i = 0 := by simpa [cxL] using hi
      subst hi
      simpa using cx_0 t
theorem told {f : Addr} (X : K.In h) (G : h.Ns mainGlobals mg) (hfa : mg ("law" : Str) = some (.ref f)) (c : He.SaysX fcs dfs [] tfL exB w h K) : LamX.LawAtS PySem.Challenge.rw_oddsinfull_k01_shares_and_equations w K (L2.CX (PySem.Challenge.rw_oddsinfull_k01_shares_and_equations).prog w) 31 63 "script" mg f h := by
  have cd := c.t.d
  have ct := c.more
  obtain ⟨fd, F⟩ := cd.def_ 29 (d := mkD "law" 36) rfl
  obtain ⟨fdT, FT⟩ := cd.def_ 16 (d := mkD "_law_tape" 23) rfl
  obtain ⟨fdR, FR⟩ := cd.def_ 26 (d := mkD "_law_refused" 33) rfl
  have e := hfa.symm.trans (He.glo_ok X G (cd.fact 29 (f := .glo "law") rfl))
  cases e
  have b := FunD.bindsA (ps := ["script"]) F fun _ _ _ _ _ _ us hl => match us, hl with | [_], _ => rfl
  have one : ∀ p ∈ [He.cT K ("law", none)], p = He.cT K ("law", none) := fun p hp => List.mem_singleton.mp hp
  have tm : (("law", none) : He.Defn) ∈ tfL := List.mem_singleton.mpr rfl
  refine ⟨fd, [He.cT K ("law", none)], spLaw (gR K) K, fun p hp => by rw [one p hp]; exact c.empty _ tm, fun p hp => by rw [one p hp]; exact c.out _ tm, fun p hp => by rw [one p hp]; exact PySem.W.codeHd_of_K X (c.hd _ tm), fun s v => b s [v] rfl, fun H a ns hl _ hT hS => ?_, fun base _ _ TB => ?_⟩
  · refine ⟨a, ns, rfl, hS, hl, fun p hp => ?_, fun _ => rfl⟩
    rw [List.mem_singleton.mp hp]
    exact ⟨#[], hT _ (List.mem_singleton.mpr rfl), trivial, fun pos cv hc => by cases hc⟩
  · exact ok_law (g := gR K) (k := 27) (es := codes) (fuel := 10000) (names := names) (gl := gl) (free := freeF) (glo := gloF) (cx := cxL) (d := c_law) (rest := (defBody (top 36)).drop 1) F sc_law rfl rfl rfl (by decide +kernel) (by decide +kernel) (by decide +kernel)
      (ok_tape FT (He.free_ok X G (cd.fact 31 (f := .free "abs") rfl)) (He.free_ok X G (cd.fact 32 (f := .free "int") rfl)) 27) (He.glo_ok X G (cd.fact 16 (f := .glo "_law_tape") rfl)) FT.kp (FT.bindsN fun _ _ _ _ _ _ us hl => match us, hl with | [_], _ => rfl)
      (exc_all rfl X G cd ct)
      (fun cdv A outer s H E hcd hr _ => by
        obtain ⟨c0, rfl, hk⟩ := hcd
        obtain ⟨oc, od, dV, kV, doc, pm, an, cdR, ctR, osl, rfl, lk, _, _, _⟩ := F.ex
        have e0 : He.codeOf K ("law", none) = c0 := He.codeOf_eq lk (hk _ _ _ _ lk)
        exact lamOk_of (exc := excL) (sc := defScope (top 36)) (p1 := _) (p2 := _) (p3 := _) (p4 := _) (p5 := _) (p6 := _) (p7 := _) (p8 := _) (p9 := _) (p10 := _) (j1 := _) (j2 := _) FR rfl sc_ref (isVis rfl) (by decide +kernel) (by decide +kernel) (He.glo_ok X G (cd.fact 26 (f := .glo "_law_refused") rfl)) (FR.bindsN fun _ _ _ _ _ _ us hl => match us, hl with | [_], _ => rfl)
          rfl (He.glo_ok X G (cd.fact 49 (f := .glo "InvalidShare") rfl)) (by decide +kernel) (hx_ref ct) (TB _ (List.mem_singleton.mpr rfl)) (by rw [← e0]; rfl) hr)
      (free_all X G cd) (glo_all X G cd ct) (ents_all X G cd).at_ ck_law fun ns _ => runs01 (tp0 ns)
end
end Q
open PySem PySem.W PySem.Calls PyProof.Rows
theorem PySem.Challenge.cw_oddsinfull_k01_shares_and_equations_holds : PySem.Challenge.rw_oddsinfull_k01_shares_and_equations.Holds := by
  w_on; o_law
  refine HandSHeadRun.head_any (r := OpenLaw.row PySem.Challenge.rw_oddsinfull_k01_shares_and_equations) (q := view (OpenLaw.row PySem.Challenge.rw_oddsinfull_k01_shares_and_equations).prog [36]) (H := Q.hkR) (ob := Q.obR) (M := 4000) (loose := Q.loose) (d := HandSHeadRun.topDef (OpenLaw.row PySem.Challenge.rw_oddsinfull_k01_shares_and_equations).prog 36) (kwd := []) Q.obR_eq
    (by kernel_rfl) (fun s => by kernel_rfl) Q.runR (by kernel_rfl) (by kernel_rfl) (by kernel_rfl) (by rfl) (by first | assumption | decide +kernel) (by decide +kernel) ⟨rfl, rfl, rfl, rfl, rfl, by decide +kernel⟩ ?hw ?hc
  case hw => w_witness2
  case hc =>
    refine LamX.walk_ofTsE (l := PySem.Challenge.rw_oddsinfull_k01_shares_and_equations) (n := 63) (k := 31) (x := "script") (CX := L2.CX (PySem.Challenge.rw_oddsinfull_k01_shares_and_equations).prog) rfl (by decide) (by kernel_rfl) ⟨rfl, by decide, by decide⟩ ?F Q.cx_none
    intro w mg fa h Y G hmg0
    obtain ⟨K, KX, c⟩ := Y
    have hmg : mg ("law" : PySem.Str) = some (.ref fa) := by
      have e : (HandSHeadRun.topDef (OpenLaw.row PySem.Challenge.rw_oddsinfull_k01_shares_and_equations).prog 36).name = ("law" : PySem.Str) := by kernel_rfl
      rw [← e]
      exact hmg0
    exact ⟨K, KX, Q.told KX G hmg c⟩
