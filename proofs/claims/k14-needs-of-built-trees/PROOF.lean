import PyProof.Rows.All
import Wide.All
import OpenK.AllK
import Wide.FinOn
import KE.KStateDown
import HandS.Base
import HandS.Call
import HandS.Ends
import HandS.More
import HandS.Words
import HandS.WordsExc
import HandS.Defaults
import HandS.Head0
import HandS.Head1
import HandS.Head2
import HandS.HeadEnd
import HandS.HeadHook1
import HandS.HeadHook2
import HandS.ForMost
import KE.SortData
import HandS.TupAny
import HandS.TupLe
import HandS.TupSets
import HandS.SortKw
import HandS.SortInts
import HandS.IsInst
import HandS.Zip
import HandS.Conv
import HandS.Wide
import HandS.Style
import HandS.NoneIn
import HandS.DictComp
import HandS.Star
import KE.DataMinMax
import KE.GoesMore
import KE.GoesEnum
import HandS.SetFor
import HandS.Set
import HandS.Strs
import HandS.Flt
import PySem.Challenge.RW_tellrounds_k14_needs_of_built_trees
set_option Elab.async false
set_option linter.all false
set_option maxRecDepth 100000
set_option maxHeartbeats 0
namespace Tl
open PySem

abbrev D := PyData
def LIM : Nat := 100000

structure DS where
  cells : List Int
  turn : Int
  rests : List Int

inductive Slot where
  | no
  | v (d : D)
  | own (xs : List D)
  | dct (kvs : List (L2.Key × D))
  | dr
  | drr
  | scr (ns : List Int)

inductive Rv where
  | v (d : D)
  | f (xs : List D)
  | fd (kvs : List (L2.Key × D))
  | dr
  | scr (ns : List Int)

def Rv.d : Rv → Option D
  | .v d => some d
  | .f xs => some (.list xs)
  | _ => none
def Rv.arg : Rv → Option Rv
  | .v d => some (.v d)
  | .f xs => some (.v (.list xs))
  | .fd _ => none
  | .dr => some .dr
  | .scr ns => some (.scr ns)
def Rv.slot : Rv → Slot
  | .v d => .v d
  | .f xs => .own xs
  | .fd kvs => .dct kvs
  | .dr => .dr
  | .scr ns => .scr ns

structure Sta where
  g : List Slot
  s : Option DS

inductive Ty where
  | int | bool | str | tuple | list | dict
  deriving DecidableEq

inductive BI where
  | len | max2 | min2 | maxL | minL | sumL | allL | anyL | sorted | sortedR | list | tuple | int1 | abs1 | repr | min3 | lenSet | sortSet
  deriving DecidableEq

inductive Tg where
  | n (i : Nat)
  | nil
  | cons (a : Tg) (r : Tg)

mutual
inductive IE where
  | var (i : Nat)
  | con (d : D)
  | bin (op : Operator) (a b : IE)
  | neg (a : IE)
  | not_ (a : IE)
  | cmp (op : CmpOp) (a b : IE)
  | chain (op op' : CmpOp) (a b c : IE)
  | and_ (a b : IE)
  | or_ (a b : IE)
  | ite (c a b : IE)
  | tup (es : IEs)
  | lst (es : IEs)
  | sub (a i : IE)
  | subv (x : Nat) (i : IE)
  | slice (a : IE) (lo hi : IO)
  | rev (a : IE)
  | lenv (x : Nat)
  | nilv (x : Nat) (neg : Bool)
  | inv (a : IE) (x : Nat) (neg : Bool)
  | call (f : Nat) (es : IEs)
  | bi (b : BI) (es : IEs)
  | rngl (a b : IE)
  | isi (a : IE) (ts : List Ty)
  | comp (elt : IE) (tg : Tg) (it : II) (ifs : IO) (own : List Nat)
  | pop0 (x : Nat)
  | pop1 (x : Nat) (i : IE)
  | lstx (es : IXs)
  | dsp (k v : IE)
  | dcomp (kx vx : IE) (tg : Tg) (it : II) (ifs : IO) (own : List Nat)
  | idx (a b : IE)
  | imax (x : Nat)
  | slb (a lo : IE)
  | sla (a hi : IE)
inductive IXs where
  | nil
  | cons (a : IE) (r : IXs)
  | star (a : IE) (r : IXs)
inductive IEs where
  | nil
  | cons (a : IE) (r : IEs)
inductive IO where
  | no
  | so (a : IE)
inductive II where
  | seq (e : IE)
  | rng (es : IEs)
  | enum (es : IEs)
  | zip (es : IEs)
end

mutual
inductive IS where
  | set (i : Nat) (e : IE)
  | unp (t : Tg) (e : IE)
  | par (is : List Nat) (es : IEs)
  | stsub (x : Nat) (i e : IE)
  | app (x : Nat) (e : IE)
  | drop (e : IE)
  | if_ (c : IE) (a b : ISs)
  | for_ (t : Tg) (it : II) (body : ISs)
  | while_ (c : IE) (body : ISs)
  | ret (e : IE)
  | retN
  | brk
  | pass
  | undr (a b c x : Nat)
  | mkdr (x : Nat) (e : IE)
  | ext (x : Nat) (e : IE)
  | augI (i : Nat) (e : IE)
  | never
inductive ISs where
  | nil
  | cons (a : IS) (r : ISs)
end

def small (i : Int) : Bool := decide (i.natAbs < 2 ^ 62)
def okLen (n : Nat) : Bool := decide (n ≤ LIM)

def allInts : List D → Option (List Int)
  | [] => some []
  | .int i :: r => (allInts r).map (i :: ·)
  | _ :: _ => none
def allBools : List D → Option (List Bool)
  | [] => some []
  | .bool i :: r => (allBools r).map (i :: ·)
  | _ :: _ => none

def binR : Operator → D → D → Option Rv
  | .Add, .int i, .int j => some (.v (.int (i + j)))
  | .Add, .tuple xs, .tuple ys => if okLen (xs.length + ys.length) then some (.v (.tuple (xs ++ ys))) else none
  | .Add, .list xs, .list ys => if okLen (xs.length + ys.length) then some (.f (xs ++ ys)) else none
  | .Sub, .int i, .int j => some (.v (.int (i - j)))
  | .Mult, .int i, .int j => if small i || small j then some (.v (.int (i * j))) else none
  | .Mult, .list xs, .int k => if okLen (xs.length * k.toNat) && small k then some (.f (List.replicate k.toNat xs).flatten) else none
  | .FloorDiv, .int i, .int j => if decide (0 < j) && decide (j.natAbs < 2 ^ 200) then some (.v (.int (i / j))) else none
  | .Mod, .int i, .int j => if decide (0 < j) then some (.v (.int (i % j))) else none
  | .LShift, .int i, .int j => if decide (0 ≤ j) && decide (j ≤ 1000) && small i then some (.v (.int (i * 2 ^ j.toNat))) else none
  | .RShift, .int i, .int j => if decide (0 ≤ j) then some (.v (.int (i / 2 ^ j.toNat))) else none
  | .BitAnd, .int i, .int j => some (.v (.int (Builtin.bitAnd i j)))
  | .Pow, .int i, .int j => if decide (0 ≤ j) && decide (j ≤ 1000) && small i then some (.v (.int (i ^ j.toNat))) else none
  | _, _, _ => none

def lexLe : List Int → List Int → Bool
  | [], _ => true
  | _ :: _, [] => false
  | x :: xs, y :: ys => if x = y then lexLe xs ys else decide (x < y)
def shp (d : D) : Bool := SeqAt.shaped d

def flat : D → Bool
  | .none => true
  | .bool _ => true
  | .int _ => true
  | .str _ => true
  | _ => false

def inD (x : D) (xs : List D) : Bool := xs.any fun y => PyData.eqv y x

def cmpD : CmpOp → D → D → Option Bool
  | .Eq, .int i, .int j => some (decide (i = j))
  | .NotEq, .int i, .int j => some (!decide (i = j))
  | .Eq, .str x, .str y => some (decide (x = y))
  | .NotEq, .str x, .str y => some (!decide (x = y))
  | .Eq, x, y => if shp x && shp y then some (PyData.eqv x y) else none
  | .NotEq, x, y => if shp x && shp y then some (!PyData.eqv x y) else none
  | .Lt, .int i, .int j => some (decide (i < j))
  | .LtE, .int i, .int j => some (decide (i ≤ j))
  | .Gt, .int i, .int j => some (decide (j < i))
  | .GtE, .int i, .int j => some (decide (j ≤ i))
  | .LtE, .tuple xs, .tuple ys => match allInts xs, allInts ys with
    | some ns, some ms => some (lexLe ns ms)
    | _, _ => none
  | .Is, x, .none => some (match x with | .none => true | _ => false)
  | .IsNot, x, .none => some (match x with | .none => false | _ => true)
  | .Is, .bool a, .bool b => some (decide (a = b))
  | .IsNot, .bool a, .bool b => some (!decide (a = b))
  | .In, x, .list xs => if flat x && xs.all flat then some (inD x xs) else none
  | .In, x, .tuple xs => if flat x && xs.all flat then some (inD x xs) else if shp x && shp (.tuple xs) && decide (x.depth ≤ 40) then some (inD x xs) else none
  | .NotIn, x, .list xs => if flat x && xs.all flat then some (!inD x xs) else none
  | .NotIn, x, .tuple xs => if flat x && xs.all flat then some (!inD x xs) else none
  | _, _, _ => none

def ixD (n : Nat) (i : Int) : Option Nat := if 0 ≤ i then (if i < n then some i.toNat else none) else if -(n : Int) ≤ i then some (i + n).toNat else none
def atD {α : Type} (xs : List α) (i : Int) : Option α := (ixD xs.length i).bind fun j => xs[j]?
def sIxD (n d : Nat) : Option Int → Nat
  | none => d
  | some v => if v < 0 then (v + (n : Int)).toNat else min v.toNat n
def cutD {α : Type} (xs : List α) (lo hi : Option Int) : List α := (xs.drop (sIxD xs.length 0 lo)).take (sIxD xs.length xs.length hi - sIxD xs.length 0 lo)

def keyOf : D → Option L2.Key
  | .int i => some (.inl i)
  | .str x => some (.inr x)
  | _ => none
def getK : List (L2.Key × D) → L2.Key → Option D
  | [], _ => none
  | (k', d) :: r, k => if k' = k then some d else getK r k
def putK (kvs : List (L2.Key × D)) (k : L2.Key) (d : D) : List (L2.Key × D) :=
  if (kvs.any fun kv => decide (kv.1 = k)) = true then kvs.map (fun kv => if kv.1 = k then (kv.1, d) else kv) else kvs ++ [(k, d)]

def subD : D → D → Option D
  | .list xs, .int i => atD xs i
  | .tuple xs, .int i => atD xs i
  | _, _ => none

def sliceR : D → Option Int → Option Int → Option Rv
  | .list xs, lo, hi => some (.f (cutD xs lo hi))
  | .tuple xs, lo, hi => some (.v (.tuple (cutD xs lo hi)))
  | _, _, _ => none
def sliceV : Rv → Option Int → Option Int → Option Rv
  | .scr ns, lo, hi => some (.f ((cutD ns lo hi).map .int))
  | r, lo, hi => r.d.bind fun x => sliceR x lo hi
def revR : D → Option Rv
  | .list xs => some (.f xs.reverse)
  | .tuple xs => some (.v (.tuple xs.reverse))
  | _ => none
def slbR : D → Int → Option Rv
  | .tuple xs, i => if decide (0 ≤ i) && small i then some (.v (.tuple (xs.take (i.toNat + 1)).reverse)) else none
  | _, _ => none
def slaR : D → Int → Option Rv
  | .list xs, i => if decide (0 ≤ i) && small i then some (.f (xs.drop (i.toNat + 1)).reverse) else none
  | _, _ => none
def lenD : D → Option Nat
  | .list xs => some xs.length
  | .tuple xs => some xs.length
  | _ => none
def seqD : D → Option (List D)
  | .list xs => some xs
  | .tuple xs => some xs
  | _ => none

def insD {α : Type} (lt : α → α → Bool) (x : α) : List α → List α
  | [] => [x]
  | y :: r => if lt x y then x :: y :: r else y :: insD lt x r
def sortD {α : Type} (lt : α → α → Bool) : List α → List α
  | [] => []
  | x :: r => insD lt x (sortD lt r)
def sortI (ns : List Int) : List Int := sortD (fun a b => decide (a ≤ b)) ns

def tupInts : List D → Option (List (List Int))
  | [] => some []
  | .tuple xs :: r => match allInts xs, tupInts r with
    | some ns, some rs => some (ns :: rs)
    | _, _ => none
  | _ :: _ => none
def sortT (ls : List (List Int)) : List (List Int) := sortD lexLe ls
def tupOf (ns : List Int) : D := .tuple (ns.map .int)

def maxI : Int → List Int → Int
  | m, [] => m
  | m, x :: r => maxI (if x > m then x else m) r
def minI : Int → List Int → Int
  | m, [] => m
  | m, x :: r => minI (if x < m then x else m) r

def nub {α : Type} [DecidableEq α] : List α → List α
  | [] => []
  | x :: r => if x ∈ r then nub r else x :: nub r
def lenSetD : D → Option Nat
  | .list xs => match allInts xs with
    | some ns => if decide (ns.length < 64) then some (nub ns).length else none
    | none => match tupInts xs with
      | some ls => if decide (ls.length < 64) then some (nub ls).length else none
      | none => none
  | .tuple xs => match allInts xs with
    | some ns => if decide (ns.length < 64) then some (nub ns).length else none
    | none => none
  | _ => none
def sortSetD : D → Option (List D)
  | .tuple xs => match allInts xs with
    | some ns => if decide (ns.length < 64) then some ((sortI (nub ns)).map .int) else none
    | none => none
  | _ => none
def okTs (ls : List (List Int)) : Bool := okLen ls.length && ls.all fun l => !l.isEmpty
def okNs (xs : List D) : Bool := okLen xs.length && xs.all fun d => match d with
  | .tuple (.int _ :: _) => decide (d.depth ≤ 40)
  | _ => false
def alikeB (xs : List D) : Bool := xs.all fun a => xs.all fun b => PySem.W.alike a b
def sortR (xs : List D) : Option (List D) :=
  match allInts xs with
  | some ns => some ((sortI ns).map .int)
  | none => match tupInts xs with
    | some ls => if okTs ls then some ((sortT ls).map tupOf) else none
    | none => if okNs xs && alikeB xs then some (xs.mergeSort (PySem.W.dataLe false id)) else none
def sortRR (xs : List D) : Option (List D) :=
  match allInts xs with
  | some ns => some ((sortI ns).reverse.map .int)
  | none => match tupInts xs with
    | some ls => if okTs ls then some ((sortT ls).reverse.map tupOf) else none
    | none => none

def biR : BI → List D → Option Rv
  | .len, [x] => (lenD x).map fun (n : Nat) => Rv.v (PyData.int (n : Int))
  | .max2, [.int i, .int j] => some (.v (.int (if j > i then j else i)))
  | .min2, [.int i, .int j] => some (.v (.int (if j < i then j else i)))
  | .min3, [.int i, .int j, .int k] => some (.v (.int (if k < (if j < i then j else i) then k else if j < i then j else i)))
  | .maxL, [x] => match (seqD x).bind allInts with
    | some (n :: ns) => some (.v (.int (maxI n ns)))
    | _ => none
  | .minL, [x] => match (seqD x).bind allInts with
    | some (n :: ns) => some (.v (.int (minI n ns)))
    | _ => none
  | .sumL, [.list xs] => (allInts xs).map fun ns => .v (.int ns.sum)
  | .allL, [.list xs] => (allBools xs).map fun bs => .v (.bool (bs.all id))
  | .anyL, [.list xs] => (allBools xs).map fun bs => .v (.bool (bs.any id))
  | .sorted, [.list xs] => (sortR xs).map .f
  | .sorted, [.tuple xs] => (sortR xs).map .f
  | .lenSet, [x] => (lenSetD x).map fun (n : Nat) => Rv.v (PyData.int (n : Int))
  | .sortSet, [x] => (sortSetD x).map .f
  | .sortedR, [.list xs] => (sortRR xs).map .f
  | .list, [.list xs] => some (.f xs)
  | .list, [.tuple xs] => some (.f xs)
  | .tuple, [.list xs] => some (.v (.tuple xs))
  | .tuple, [.tuple xs] => some (.v (.tuple xs))
  | .int1, [.int i] => some (.v (.int i))
  | .int1, [.bool b] => some (.v (.int (if b then 1 else 0)))
  | .abs1, [.int i] => some (.v (.int (if i < 0 then -i else i)))
  | .repr, [x] => if x.showable && decide (x.shown.length ≤ 1000000) && decide (x.depth ≤ 40) then some (.v (.str x.shown)) else none
  | _, _ => none

def isTy : Ty → D → Bool
  | .int, .int _ => true
  | .int, .bool _ => true
  | .bool, .bool _ => true
  | .str, .str _ => true
  | .tuple, .tuple _ => true
  | .list, .list _ => true
  | .dict, .dict _ => true
  | _, _ => false

def rngD (a b : Int) : List D := (List.range (b - a).toNat).map fun k => .int (a + (k : Nat))
def enumD : Nat → List D → List D
  | _, [] => []
  | k, x :: r => .tuple [.int (k : Nat), x] :: enumD (k + 1) r
def zipD : List D → List D → List D
  | x :: xs, y :: ys => .tuple [x, y] :: zipD xs ys
  | _, _ => []

def rngR : List Rv → Option (List D)
  | [.v (.int j)] => if small j then some (rngD 0 j) else none
  | [.v (.int i), .v (.int j)] => if small i && small j then some (rngD i j) else none
  | _ => none
def enumR : List Rv → Option (List D)
  | [.v x] => (seqD x).map (enumD 0)
  | _ => none
def zipR : List Rv → Option (List D)
  | [.v (.list xs), .v (.list ys)] => some (zipD xs ys)
  | [.v (.tuple xs), .v (.tuple ys)] => some (zipD xs ys)
  | _ => none

def Sta.set (s : Sta) (i : Nat) (x : Slot) : Sta := { s with g := s.g.set i x }
def wipeG (g : List Slot) : List Nat → List Slot
  | [] => g
  | i :: r => (wipeG g r).set i .no
def Sta.wipe (s : Sta) (own : List Nat) : Sta := { s with g := wipeG s.g own }
def backG (g0 g : List Slot) : List Nat → List Slot
  | [] => g
  | i :: r => match g0[i]? with
    | some x => (backG g0 g r).set i x
    | none => backG g0 g r
def Sta.back (s s0 : Sta) (own : List Nat) : Sta := { s with g := backG s0.g s.g own }

def readV (s : Sta) (i : Nat) : Option (Rv × Sta) :=
  match s.g[i]? with
  | some (.v d) => some (.v d, s)
  | some (.own xs) => some (.v (.list xs), s.set i (.v (.list xs)))
  | some .dr => some (.dr, s)
  | some (.scr ns) => some (.scr ns, s)
  | _ => none

def asgT : Tg → D → Sta → Option Sta
  | .n i, d, s => some (s.set i (.v d))
  | .nil, .tuple [], s => some s
  | .cons a r, .tuple (x :: xs), s => (asgT a x s).bind fun s1 => asgT r (.tuple xs) s1
  | _, _, _ => none
def unpD : D → D
  | .list xs => .tuple xs
  | d => d
def Tg.nms : Tg → List Nat
  | .n i => [i]
  | .nil => []
  | .cons a r => a.nms ++ r.nms
def Tg.cnt : Tg → Option Nat
  | .n _ => none
  | .nil => some 0
  | .cons _ r => r.cnt.map (· + 1)

def compLoop (step : D → List D → Sta → Option (List D × Sta)) : List D → List D → Sta → Option (List D × Sta)
  | [], acc, s => some (acc, s)
  | x :: r, acc, s => (step x acc s).bind fun p => compLoop step r p.1 p.2

def dcLoop (step : D → List (L2.Key × D) → Sta → Option (List (L2.Key × D) × Sta)) : List D → List (L2.Key × D) → Sta → Option (List (L2.Key × D) × Sta)
  | [], acc, s => some (acc, s)
  | x :: r, acc, s => (step x acc s).bind fun p => dcLoop step r p.1 p.2

inductive Out where
  | nx (s : Sta)
  | rt (r : Rv) (s : Sta)
  | bk (s : Sta)

def forLoop (step : D → Sta → Option Out) : List D → Sta → Option Out
  | [], s => some (.nx s)
  | x :: r, s => (step x s).bind fun o => match o with
    | .nx s' => forLoop step r s'
    | .bk s' => some (.nx s')
    | .rt v s' => some (.rt v s')

def whileLoop (test : Sta → Option (Bool × Sta)) (body : Sta → Option Out) : Nat → Sta → Option Out
  | 0, _ => none
  | n + 1, s => (test s).bind fun p => if p.1 then (body p.2).bind fun o => match o with
      | .nx s' => whileLoop test body n s'
      | .bk s' => some (.nx s')
      | .rt v s' => some (.rt v s')
    else some (.nx p.2)

abbrev CallT := Nat → List Rv → Option DS → Option (Rv × Option DS)

def asB : Rv → Option Bool
  | .v (.bool b) => some b
  | _ => none
def asI : Rv → Option Int
  | .v (.int b) => some b
  | _ => none

def subS (s : Sta) (x : Nat) (i : D) : Option D :=
  match s.g[x]?, i with
  | some (.v d), _ => subD d i
  | some (.own xs), .int k => atD xs k
  | some (.dct kvs), k => (keyOf k).bind fun k => getK kvs k
  | some .drr, .int k => s.s.bind fun S => (atD S.rests k).map .int
  | _, _ => none
def lenS (s : Sta) (x : Nat) : Option Nat :=
  match s.g[x]? with
  | some (.v d) => lenD d
  | some (.own xs) => some xs.length
  | some (.scr ns) => some ns.length
  | some (.dct kvs) => some kvs.length
  | _ => none
def nilS (s : Sta) (x : Nat) : Option Bool :=
  match s.g[x]? with
  | some (.v (.list xs)) => if shp (.list xs) then some xs.isEmpty else none
  | some (.own xs) => if shp (.list xs) then some xs.isEmpty else none
  | _ => none
def bnd (s : Sta) (x : Nat) : Bool :=
  match s.g[x]? with
  | none => false
  | some .no => false
  | some _ => true
def bndL (s : Sta) (x : Nat) : Bool :=
  match s.g[x]? with
  | some (.own _) => true
  | _ => false
def noOwn (s : Sta) (own : List Nat) : Bool := own.all fun i => match s.g[i]? with
  | some (.own _) => false
  | some (.dct _) => false
  | _ => true
def inS (s : Sta) (x : Nat) (d : D) : Option Bool :=
  match s.g[x]? with
  | some (.v (.list xs)) => if flat d && xs.all flat then some (inD d xs) else none
  | some (.v (.tuple xs)) => if flat d && xs.all flat then some (inD d xs) else none
  | some (.own xs) => if flat d && xs.all flat then some (inD d xs) else none
  | some (.dct kvs) => (keyOf d).map fun k => (getK kvs k).isSome
  | _ => none
def stS (s : Sta) (x : Nat) (i d : D) : Option Sta :=
  match s.g[x]?, i with
  | some (.own xs), .int k => (ixD xs.length k).map fun j => s.set x (.own (xs.set j d))
  | some (.dct kvs), k => (keyOf k).bind fun k => if okLen (kvs.length + 1) then some (s.set x (.dct (putK kvs k d))) else none
  | some .dr, .int k => if k = 1 then (match d, s.s with
      | .int n, some S => some { s with s := some { S with turn := n } }
      | _, _ => none) else none
  | some .drr, .int k => (match d, s.s with
      | .int n, some S => (ixD S.rests.length k).map fun j => { s with s := some { S with rests := S.rests.set j n } }
      | _, _ => none)
  | _, _ => none
def popS (s : Sta) (x : Nat) (i : Int) : Option (D × Sta) :=
  match s.g[x]? with
  | some (.own xs) => (ixD xs.length i).bind fun j => (xs[j]?).map fun d => (d, s.set x (.own (xs.eraseIdx j)))
  | _ => none
def appS (s : Sta) (x : Nat) (d : D) : Option Sta :=
  match s.g[x]? with
  | some (.own xs) => if okLen (xs.length + 1) then some (s.set x (.own (xs ++ [d]))) else none
  | _ => none

def extS (s : Sta) (x : Nat) (ys : List D) : Option Sta :=
  match s.g[x]? with
  | some (.own xs) => if okLen (xs.length + ys.length) then some (s.set x (.own (xs ++ ys))) else none
  | _ => none
def getI (s : Sta) (x : Nat) : Option Int :=
  match s.g[x]? with
  | some (.v (.int i)) => some i
  | _ => none
def posD (y : D) : List D → Option Nat
  | [] => none
  | z :: r => if PyData.eqv z y then some 0 else (posD y r).map (· + 1)
def idxD : D → D → Option Nat
  | .list xs, y => if flat y && xs.all flat then posD y xs else none
  | _, _ => none
def imaxS (s : Sta) (x : Nat) : Option Nat :=
  match s.g[x]? with
  | some (.own xs) => match allInts xs with
    | some (n :: ns) => posD (.int (maxI n ns)) xs
    | _ => none
  | _ => none

def setAll : List Nat → List Rv → Sta → Option Sta
  | [], [], s => some s
  | i :: is, r :: rs, s => setAll is rs (s.set i r.slot)
  | _, _, _ => none
def dAll : List Rv → Option (List D)
  | [] => some []
  | r :: rs => r.d.bind fun a => (dAll rs).map (a :: ·)

mutual
def evE (F : CallT) : IE → Sta → Option (Rv × Sta)
  | .var i, s => readV s i
  | .con d, s => some (.v d, s)
  | .bin op a b, s => (evE F a s).bind fun p => (evE F b p.2).bind fun q => p.1.d.bind fun x => q.1.d.bind fun y => (binR op x y).map (·, q.2)
  | .neg a, s => (evE F a s).bind fun p => (asI p.1).map fun i => (.v (.int (-i)), p.2)
  | .not_ a, s => (evE F a s).bind fun p => (asB p.1).map fun i => (.v (.bool (!i)), p.2)
  | .cmp op a b, s => (evE F a s).bind fun p => (evE F b p.2).bind fun q => p.1.d.bind fun x => q.1.d.bind fun y => (cmpD op x y).map fun c => (.v (.bool c), q.2)
  | .chain op op' a b c, s => (evE F a s).bind fun p => (evE F b p.2).bind fun q => p.1.d.bind fun x => q.1.d.bind fun y => (cmpD op x y).bind fun k =>
      if k then (evE F c q.2).bind fun r => r.1.d.bind fun z => (cmpD op' y z).map fun c => (.v (.bool c), r.2) else some (.v (.bool false), q.2)
  | .and_ a b, s => (evE F a s).bind fun p => (asB p.1).bind fun k => if k then evE F b p.2 else some (.v (.bool false), p.2)
  | .or_ a b, s => (evE F a s).bind fun p => (asB p.1).bind fun k => if k then some (.v (.bool true), p.2) else evE F b p.2
  | .ite c a b, s => (evE F c s).bind fun p => (asB p.1).bind fun k => if k then evE F a p.2 else evE F b p.2
  | .tup es, s => (evEs F es s).bind fun p => (dAll p.1).map fun xs => (.v (.tuple xs), p.2)
  | .lst es, s => (evEs F es s).bind fun p => (dAll p.1).map fun xs => (.f xs, p.2)
  | .sub a i, s => (evE F a s).bind fun p => (evE F i p.2).bind fun q => p.1.d.bind fun x => q.1.d.bind fun y => (subD x y).map fun d => (.v d, q.2)
  | .subv x i, s => if bnd s x then (evE F i s).bind fun q => q.1.d.bind fun y => (subS q.2 x y).map (fun d => (.v d, q.2)) else none
  | .slice a lo hi, s => (evE F a s).bind fun p => (evO F lo p.2).bind fun q => (evO F hi q.2).bind fun r => (sliceV p.1 q.1 r.1).map (·, r.2)
  | .rev a, s => (evE F a s).bind fun p => p.1.d.bind fun x => (revR x).map (·, p.2)
  | .lenv x, s => (lenS s x).map fun (n : Nat) => (Rv.v (PyData.int (n : Int)), s)
  | .nilv x neg, s => (nilS s x).map fun b => (.v (.bool (if neg then !b else b)), s)
  | .inv a x neg, s => (evE F a s).bind fun p => p.1.d.bind fun d => (inS p.2 x d).map fun b => (.v (.bool (if neg then !b else b)), p.2)
  | .call f es, s => (evEs F es s).bind fun p => (F f p.1 p.2.s).map fun q => (q.1, { p.2 with s := q.2 })
  | .bi b es, s => (evEs F es s).bind fun p => (dAll p.1).bind fun xs => (biR b xs).map (·, p.2)
  | .rngl a b, s => (evE F a s).bind fun p => (evE F b p.2).bind fun q => (asI p.1).bind fun i => (asI q.1).bind fun j => if small i && small j && okLen (j - i).toNat then some (.f (rngD i j), q.2) else none
  | .isi a ts, s => (evE F a s).bind fun p => p.1.d.map fun d => (.v (.bool (ts.any fun t => isTy t d)), p.2)
  | .comp elt tg it ifs own, s => (evI F it s).bind fun p => if okLen p.1.length && noOwn p.2 own then
      (compLoop (fun x acc s => (asgT tg x (s.wipe own)).bind fun s2 => (evT F ifs s2).bind fun q => if q.1 then (evE F elt q.2).bind fun r => r.1.d.map fun d => (acc ++ [d], r.2) else some (acc, q.2)) p.1 [] p.2).map (fun q => (.f q.1, q.2.back p.2 own)) else none
  | .pop0 x, s => (popS s x (-1)).map fun p => (.v p.1, p.2)
  | .pop1 x i, s => if bndL s x then (evE F i s).bind fun p => (asI p.1).bind fun k => if small k then (popS p.2 x k).map (fun q => (.v q.1, q.2)) else none else none
  | .lstx es, s => (evXs F es s).bind fun p => if okLen p.1.length then some (.f p.1, p.2) else none
  | .dsp k v, s => (evE F k s).bind fun p => (evE F v p.2).bind fun q => p.1.d.bind fun a => q.1.d.bind fun b => (keyOf a).map fun k => (.fd [(k, b)], q.2)
  | .dcomp kx vx tg it ifs own, s => (evI F it s).bind fun p => if okLen p.1.length && noOwn p.2 own then
      (dcLoop (fun x acc s => (asgT tg x (s.wipe own)).bind fun s2 => (evT F ifs s2).bind fun q => if q.1 then (evE F kx q.2).bind fun r => (evE F vx r.2).bind fun t => r.1.d.bind fun a => t.1.d.bind fun b => (keyOf a).map fun k => (putK acc k b, t.2) else some (acc, q.2)) p.1 [] p.2).map (fun q => (.fd q.1, q.2.back p.2 own)) else none
  | .idx a b, s => (evE F a s).bind fun p => (evE F b p.2).bind fun q => p.1.d.bind fun x => q.1.d.bind fun y => (idxD x y).map fun (n : Nat) => (Rv.v (PyData.int (n : Int)), q.2)
  | .imax x, s => (imaxS s x).map fun (n : Nat) => (Rv.v (PyData.int (n : Int)), s)
  | .slb a i, s => (evE F a s).bind fun p => (evE F i p.2).bind fun q => p.1.d.bind fun x => (asI q.1).bind fun i => (slbR x i).map (·, q.2)
  | .sla a i, s => (evE F a s).bind fun p => (evE F i p.2).bind fun q => p.1.d.bind fun x => (asI q.1).bind fun i => (slaR x i).map (·, q.2)
def evXs (F : CallT) : IXs → Sta → Option (List D × Sta)
  | .nil, s => some ([], s)
  | .cons a r, s => (evE F a s).bind fun p => p.1.d.bind fun d => (evXs F r p.2).map fun q => (d :: q.1, q.2)
  | .star a r, s => (evE F a s).bind fun p => p.1.d.bind fun d => (seqD d).bind fun xs => (evXs F r p.2).map fun q => (xs ++ q.1, q.2)
def evEs (F : CallT) : IEs → Sta → Option (List Rv × Sta)
  | .nil, s => some ([], s)
  | .cons a r, s => (evE F a s).bind fun p => p.1.arg.bind fun x => (evEs F r p.2).map fun q => (x :: q.1, q.2)
def evPs (F : CallT) : IEs → Sta → Option (List Rv × Sta)
  | .nil, s => some ([], s)
  | .cons a r, s => (evE F a s).bind fun p => (evPs F r p.2).map fun q => (p.1 :: q.1, q.2)
def evO (F : CallT) : IO → Sta → Option (Option Int × Sta)
  | .no, s => some (none, s)
  | .so a, s => (evE F a s).bind fun p => (asI p.1).map fun i => (some i, p.2)
def evI (F : CallT) : II → Sta → Option (List D × Sta)
  | .seq e, s => (evE F e s).bind fun p => p.1.d.bind fun d => (seqD d).map (·, p.2)
  | .rng es, s => (evEs F es s).bind fun p => (rngR p.1).map (·, p.2)
  | .enum es, s => (evEs F es s).bind fun p => (enumR p.1).map (·, p.2)
  | .zip es, s => (evEs F es s).bind fun p => (zipR p.1).map (·, p.2)
def evT (F : CallT) : IO → Sta → Option (Bool × Sta)
  | .no, s => some (true, s)
  | .so a, s => (evE F a s).bind fun p => (asB p.1).map fun k => (k, p.2)
end

def retArg (r : Rv) : Option Rv := r.arg

mutual
def evS (F : CallT) (fu : Nat) : IS → Sta → Option Out
  | .set i e, s => (evE F e s).map fun p => .nx (p.2.set i p.1.slot)
  | .unp t e, s => (evE F e s).bind fun p => p.1.d.bind fun d => (asgT t (unpD d) p.2).map .nx
  | .par is es, s => (evPs F es s).bind fun p => (setAll is p.1 p.2).map .nx
  | .stsub x i e, s => (evE F e s).bind fun p => if bnd p.2 x then (evE F i p.2).bind fun q => p.1.d.bind fun d => q.1.d.bind fun k => (stS q.2 x k d).map .nx else none
  | .app x e, s => if bndL s x then (evE F e s).bind fun p => p.1.d.bind fun d => (appS p.2 x d).map .nx else none
  | .drop e, s => (evE F e s).map fun p => .nx p.2
  | .if_ c a b, s => (evE F c s).bind fun p => (asB p.1).bind fun k => if k then evSs F fu a p.2 else evSs F fu b p.2
  | .for_ t it body, s => (evI F it s).bind fun p => forLoop (fun x s => (asgT t x s).bind fun s' => evSs F fu body s') p.1 p.2
  | .while_ c body, s => whileLoop (fun s => (evE F c s).bind fun p => (asB p.1).map (·, p.2)) (fun s => evSs F fu body s) fu s
  | .ret e, s => (evE F e s).bind fun p => (retArg p.1).map fun r => .rt r p.2
  | .retN, s => some (.rt (.v .none) s)
  | .brk, s => some (.bk s)
  | .pass, s => some (.nx s)
  | .undr a b c x, s => (match s.g[x]?, s.s with
      | some .dr, some S => some (.nx (((s.set a (.v (.list (S.cells.map .int)))).set b (.v (.int S.turn))).set c .drr))
      | _, _ => none)
  | .mkdr x e, s => (readV s x).bind fun p => (evE F e p.2).bind fun q => (match p.1, q.1 with
      | .v (.list xs), .f ys => if q.2.s.isNone then (allInts xs).bind fun ns => (allInts ys).map fun ms => .rt .dr { q.2 with s := some ⟨ns, 0, ms⟩ } else none
      | _, _ => none)
  | .ext x e, s => if bndL s x then (evE F e s).bind fun p => p.1.d.bind fun d => (match d with
      | .list ys => (extS p.2 x ys).map .nx
      | _ => none) else none
  | .augI i e, s => (getI s i).bind fun a => (evE F e s).bind fun p => (asI p.1).map fun b => .nx (p.2.set i (.v (.int (a + b))))
  | .never, _ => none
def evSs (F : CallT) (fu : Nat) : ISs → Sta → Option Out
  | .nil, s => some (.nx s)
  | .cons a r, s => (evS F fu a s).bind fun o => match o with
    | .nx s' => evSs F fu r s'
    | o => some o
end

structure Fn where
  np : Nat
  nn : Nat
  body : ISs

def startG (nn : Nat) (as : List Rv) : List Slot := as.map Rv.slot ++ List.replicate (nn - as.length) .no
def outR : Out → Option (Rv × Option DS)
  | .nx s => some (.v .none, s.s)
  | .rt r s => some (r, s.s)
  | .bk _ => none
def runFn (F : CallT) (fu : Nat) (fn : Fn) (as : List Rv) (S : Option DS) : Option (Rv × Option DS) :=
  if as.length = fn.np then (evSs F fu fn.body ⟨startG fn.nn as, S⟩).bind outR else none

def callF (T : List Fn) (fu : Nat) : Nat → CallT
  | 0, _, _, _ => none
  | k + 1, f, as, S => (T[f]?).bind fun fn => runFn (callF T fu k) fu fn as S
end Tl

namespace Tl
open PySem L2

mutual
inductive Den (K : PySem.W.Frag) (G : Hp) : V → D → Prop
  | non : Den K G .non .none
  | bl (b : Bool) : Den K G (.bl b) (.bool b)
  | int (i : Int) : Den K G (.int i) (.int i)
  | str (x : Str) : Den K G (.str x) (.str x)
  | lst {a : Addr} {vs : List V} {ds : List D} : G a = some (.lst vs) → Dens K G vs ds → Den K G (.ref a) (.list ds)
  | tup {a : Addr} {vs : List V} {ds : List D} : SqT K G a vs → Dens K G vs ds → Den K G (.ref a) (.tuple ds)
inductive Dens (K : PySem.W.Frag) (G : Hp) : List V → List D → Prop
  | nil : Dens K G [] []
  | cons {v : V} {vs : List V} {d : D} {ds : List D} : Den K G v d → Dens K G vs ds → Dens K G (v :: vs) (d :: ds)
end

theorem same_tup {K : PySem.W.Frag} {H H' : Hp} {a : Addr} {xs : List V} (e : Same H H') (h : SqT K H a xs) : SqT K H' a xs := by
  rcases h with (h | ⟨o, h⟩) | h
  · exact .inl (.inl (e _ _ h))
  · exact .inl (.inr ⟨o, e _ _ h⟩)
  · exact .inr h

section
variable {K : PySem.W.Frag} {G G' : Hp}
mutual
theorem Den.mono (e : Same G G') : ∀ {v : V} {d : D}, Den K G v d → Den K G' v d
  | _, _, .non => .non
  | _, _, .bl b => .bl b
  | _, _, .int i => .int i
  | _, _, .str x => .str x
  | _, _, .lst h k => .lst (e _ _ h) (Dens.mono e k)
  | _, _, .tup h k => .tup (same_tup e h) (Dens.mono e k)
theorem Dens.mono (e : Same G G') : ∀ {vs : List V} {ds : List D}, Dens K G vs ds → Dens K G' vs ds
  | _, _, .nil => .nil
  | _, _, .cons h k => .cons (Den.mono e h) (Dens.mono e k)
end
theorem Dens.len : ∀ {vs : List V} {ds : List D}, Dens K G vs ds → vs.length = ds.length
  | _, _, .nil => rfl
  | _, _, .cons _ k => congrArg (· + 1) (Dens.len k)
theorem Dens.app : ∀ {vs ws : List V} {ds es : List D}, Dens K G vs ds → Dens K G ws es → Dens K G (vs ++ ws) (ds ++ es)
  | _, _, _, _, .nil, h => h
  | _, _, _, _, .cons a r, h => .cons a (Dens.app r h)
theorem Dens.get : ∀ {vs : List V} {ds : List D} {i : Nat} {d : D}, Dens K G vs ds → ds[i]? = some d → ∃ v, vs[i]? = some v ∧ Den K G v d
  | _, _, i, _, .nil, h => by simp at h
  | _, _, 0, _, .cons a _, h => by
    simp only [List.getElem?_cons_zero, Option.some.injEq] at h
    subst h
    exact ⟨_, rfl, a⟩
  | _, _, i + 1, _, .cons _ r, h => by
    simp only [List.getElem?_cons_succ] at h
    obtain ⟨v, h1, h2⟩ := Dens.get r h
    exact ⟨v, by simpa using h1, h2⟩
theorem Dens.get' : ∀ {vs : List V} {ds : List D} {i : Nat} {v : V}, Dens K G vs ds → vs[i]? = some v → ∃ d, ds[i]? = some d ∧ Den K G v d
  | _, _, i, _, .nil, h => by simp at h
  | _, _, 0, _, .cons a _, h => by
    simp only [List.getElem?_cons_zero, Option.some.injEq] at h
    subst h
    exact ⟨_, rfl, a⟩
  | _, _, i + 1, _, .cons _ r, h => by
    simp only [List.getElem?_cons_succ] at h
    obtain ⟨v, h1, h2⟩ := Dens.get' r h
    exact ⟨v, by simpa using h1, h2⟩
theorem Dens.set : ∀ {vs : List V} {ds : List D} {v : V} {d : D} (i : Nat), Dens K G vs ds → Den K G v d → Dens K G (vs.set i v) (ds.set i d)
  | _, _, _, _, _, .nil, _ => .nil
  | _, _, _, _, 0, .cons _ r, h => .cons h r
  | _, _, _, _, i + 1, .cons a r, h => .cons a (Dens.set i r h)
theorem Dens.take : ∀ {vs : List V} {ds : List D} (n : Nat), Dens K G vs ds → Dens K G (vs.take n) (ds.take n)
  | _, _, 0, _ => .nil
  | _, _, _ + 1, .nil => .nil
  | _, _, n + 1, .cons a r => .cons a (Dens.take n r)
theorem Dens.drop : ∀ {vs : List V} {ds : List D} (n : Nat), Dens K G vs ds → Dens K G (vs.drop n) (ds.drop n)
  | _, _, 0, h => h
  | _, _, _ + 1, .nil => .nil
  | _, _, n + 1, .cons _ r => Dens.drop n r
theorem Dens.erase : ∀ {vs : List V} {ds : List D} (n : Nat), Dens K G vs ds → Dens K G (vs.eraseIdx n) (ds.eraseIdx n)
  | _, _, _, .nil => .nil
  | _, _, 0, .cons _ r => r
  | _, _, n + 1, .cons a r => .cons a (Dens.erase n r)
theorem Dens.rev {vs : List V} {ds : List D} (h : Dens K G vs ds) : Dens K G vs.reverse ds.reverse := by
  induction vs generalizing ds with
  | nil => cases h; exact .nil
  | cons v r ih =>
    cases h with
    | cons a b =>
      rw [List.reverse_cons, List.reverse_cons]
      exact (ih b).app (.cons a .nil)
theorem Dens.cut {vs : List V} {ds : List D} (lo hi : Option Int) (h : Dens K G vs ds) : Dens K G (cutV vs lo hi) (cutD ds lo hi) := by
  have hl := h.len
  have e : ∀ n d o, HT.sIx n d o = sIxD n d o := fun n d o => by cases o <;> rfl
  unfold cutV cutD
  rw [e, e, hl]
  exact (h.drop _).take _
theorem Dens.ints : ∀ {vs : List V} {ds : List D} {ns : List Int}, Dens K G vs ds → allInts ds = some ns → vs = ns.map V.int ∧ ds = ns.map PyData.int
  | _, _, _, .nil, h => by cases h; exact ⟨rfl, rfl⟩
  | _, _, ns, .cons (d := d) a r, h => by
    cases a with
    | int i =>
      simp only [allInts, Option.map_eq_some_iff] at h
      obtain ⟨ms, h1, rfl⟩ := h
      obtain ⟨e1, e2⟩ := Dens.ints r h1
      exact ⟨by rw [e1]; rfl, by rw [e2]; rfl⟩
    | non => simp [allInts] at h
    | bl _ => simp [allInts] at h
    | str _ => simp [allInts] at h
    | lst _ _ => simp [allInts] at h
    | tup _ _ => simp [allInts] at h
theorem Dens.of_ints : ∀ (ns : List Int), Dens K G (ns.map V.int) (ns.map PyData.int)
  | [] => .nil
  | n :: r => .cons (.int n) (Dens.of_ints r)
theorem Dens.bools : ∀ {vs : List V} {ds : List D} {ns : List Bool}, Dens K G vs ds → allBools ds = some ns → vs = ns.map V.bl
  | _, _, _, .nil, h => by cases h; rfl
  | _, _, ns, .cons (d := d) a r, h => by
    cases a with
    | bl i =>
      simp only [allBools, Option.map_eq_some_iff] at h
      obtain ⟨ms, h1, rfl⟩ := h
      rw [Dens.bools r h1]
      rfl
    | non => simp [allBools] at h
    | int _ => simp [allBools] at h
    | str _ => simp [allBools] at h
    | lst _ _ => simp [allBools] at h
    | tup _ _ => simp [allBools] at h
theorem allInts_map : ∀ ns : List Int, allInts (ns.map PyData.int) = some ns
  | [] => rfl
  | n :: r => by
    show (allInts (r.map PyData.int)).map (n :: ·) = _
    rw [allInts_map r]
    rfl
end

structure Gh where
  G : Hp
  ow : Nat → Addr
  p : Addr
  r : Addr

def isOwn : Option Slot → Prop
  | some (.own _) => True
  | some (.dct _) => True
  | _ => False
def isDr : Option Slot → Prop
  | some .dr => True
  | some .drr => True
  | _ => False
def Ow (g : Gh) (s : Sta) (a : Addr) : Prop := (∃ i : Nat, isOwn (s.g[i]?) ∧ g.ow i = a) ∨ (s.s.isSome = true ∧ (a = g.p ∨ a = g.r))

inductive KDen (K : PySem.W.Frag) (G : Hp) : List (Key × V) → List (Key × D) → Prop
  | nil : KDen K G [] []
  | cons {k : Key} {v : V} {d : D} {ks : List (Key × V)} {kvs : List (Key × D)} : Den K G v d → KDen K G ks kvs → KDen K G ((k, v) :: ks) ((k, d) :: kvs)
theorem KDen.mono {K : PySem.W.Frag} {G G' : Hp} (e : Same G G') : ∀ {ks : List (Key × V)} {kvs : List (Key × D)}, KDen K G ks kvs → KDen K G' ks kvs
  | _, _, .nil => .nil
  | _, _, .cons a r => .cons (a.mono e) (KDen.mono e r)

def SlotOk (K : PySem.W.Frag) (g : Gh) (H : Hp) (o : Option (Option V)) (i : Nat) : Slot → Prop
  | .no => True
  | .v d => ∃ v, o = some (some v) ∧ Den K g.G v d
  | .own xs => o = some (some (.ref (g.ow i))) ∧ ∃ vs, H (g.ow i) = some (.lst vs) ∧ Dens K g.G vs xs
  | .dct kvs => o = some (some (.ref (g.ow i))) ∧ ∃ ks, H (g.ow i) = some (.dK ks) ∧ KDen K g.G ks kvs
  | .dr => o = some (some (.ref g.p))
  | .drr => o = some (some (.ref g.r))
  | .scr ns => ∃ a, o = some (some (.ref a)) ∧ SqL K g.G a (ns.map V.int)

def DrOk (K : PySem.W.Frag) (g : Gh) (H : Hp) (S : DS) : Prop :=
  g.p ≠ g.r ∧ (∃ c, H g.p = some (.lst [.ref c, .int S.turn, .ref g.r]) ∧ Den K g.G (.ref c) (.list (S.cells.map .int))) ∧ H g.r = some (.lst (S.rests.map V.int))

structure StOk (K : PySem.W.Frag) (g : Gh) (σ : L2.St) (H : Hp) (s : Sta) : Prop where
  same : Same g.G H
  len : σ.length = s.g.length
  slot : ∀ (i : Nat) (x : Slot), s.g[i]? = some x → SlotOk K g H (σ[i]?) i x
  inj : ∀ i j : Nat, isOwn (s.g[i]?) → isOwn (s.g[j]?) → g.ow i = g.ow j → i = j
  sep : ∀ a, Ow g s a → g.G a = none
  dro : ∀ S, s.s = some S → DrOk K g H S
  drw : s.s.isSome = true → ∀ i : Nat, isOwn (s.g[i]?) → g.ow i ≠ g.p ∧ g.ow i ≠ g.r
  drs : ∀ i : Nat, isDr (s.g[i]?) → s.s.isSome = true

structure Ext (g : Gh) (s : Sta) (H : Hp) (g' : Gh) (s' : Sta) (H' : Hp) : Prop where
  mono : Same g.G g'.G
  keep : ∀ b o, H b = some o → ¬ Ow g s b → H' b = some o
  newG : ∀ b, g'.G b ≠ none → g.G b ≠ none ∨ H b = none ∨ Ow g s b
  own : ∀ b, Ow g' s' b → Ow g s b ∨ H b = none
  trk : ∀ b, H' b = none → H b = none
  dr : s.s.isSome = true → s'.s.isSome = true ∧ g'.p = g.p ∧ g'.r = g.r

theorem Ext.refl (g : Gh) (s : Sta) (H : Hp) : Ext g s H g s H :=
  ⟨Same.refl _, fun _ _ h _ => h, fun _ h => .inl h, fun _ h => .inl h, fun _ h => h, fun h => ⟨h, rfl, rfl⟩⟩
theorem Ext.trans {g1 g2 g3 : Gh} {s1 s2 s3 : Sta} {H1 H2 H3 : Hp} (a : Ext g1 s1 H1 g2 s2 H2) (b : Ext g2 s2 H2 g3 s3 H3) : Ext g1 s1 H1 g3 s3 H3 where
  mono := a.mono.trans b.mono
  keep := fun c o h n => b.keep c o (a.keep c o h n) fun w => (a.own c w).elim n fun z => by rw [h] at z; cases z
  newG := fun c h => by
    rcases b.newG c h with h | h | h
    · exact a.newG c h
    · exact .inr (.inl (a.trk c h))
    · rcases a.own c h with h | h
      · exact .inr (.inr h)
      · exact .inr (.inl h)
  own := fun c h => by
    rcases b.own c h with h | h
    · exact a.own c h
    · exact .inr (a.trk c h)
  trk := fun c h => a.trk c (b.trk c h)
  dr := fun h => by
    obtain ⟨h1, h2, h3⟩ := a.dr h
    obtain ⟨k1, k2, k3⟩ := b.dr h1
    exact ⟨k1, k2.trans h2, k3.trans h3⟩

def RvOk (K : PySem.W.Frag) (g : Gh) (s : Sta) (H H0 : Hp) (v : V) : Rv → Prop
  | .v d => Den K g.G v d
  | .f xs => ∃ a vs, v = .ref a ∧ H a = some (.lst vs) ∧ Dens K g.G vs xs ∧ g.G a = none ∧ ¬ Ow g s a ∧ H0 a = none
  | .fd kvs => ∃ a ks, v = .ref a ∧ H a = some (.dK ks) ∧ KDen K g.G ks kvs ∧ g.G a = none ∧ ¬ Ow g s a ∧ H0 a = none
  | .dr => s.s.isSome = true ∧ v = .ref g.p
  | .scr ns => ∃ a, v = .ref a ∧ SqL K g.G a (ns.map V.int)

theorem RvOk.ext {K : PySem.W.Frag} {g g' : Gh} {s s' : Sta} {H H' H0 : Hp} {v : V} {r : Rv} (h : RvOk K g s H H0 v r) (x : Ext g s H g' s' H') : RvOk K g' s' H' H0 v r := by
  cases r with
  | v d => exact Den.mono x.mono h
  | f xs =>
    obtain ⟨a, vs, e, h1, h2, h3, h4, h5⟩ := h
    refine ⟨a, vs, e, x.keep _ _ h1 h4, h2.mono x.mono, ?_, fun w => ?_, h5⟩
    · cases q : g'.G a with
      | none => rfl
      | some o =>
        rcases x.newG a (by rw [q]; simp) with z | z | z
        · exact absurd h3 z
        · rw [h1] at z; cases z
        · exact absurd z h4
    · rcases x.own a w with z | z
      · exact h4 z
      · rw [h1] at z; cases z
  | fd xs =>
    obtain ⟨a, vs, e, h1, h2, h3, h4, h5⟩ := h
    refine ⟨a, vs, e, x.keep _ _ h1 h4, h2.mono x.mono, ?_, fun w => ?_, h5⟩
    · cases q : g'.G a with
      | none => rfl
      | some o =>
        rcases x.newG a (by rw [q]; simp) with z | z | z
        · exact absurd h3 z
        · rw [h1] at z; cases z
        · exact absurd z h4
    · rcases x.own a w with z | z
      · exact h4 z
      · rw [h1] at z; cases z
  | dr =>
    obtain ⟨h1, h2⟩ := h
    obtain ⟨k1, k2, k3⟩ := x.dr h1
    exact ⟨k1, by rw [k2]; exact h2⟩
  | scr ns =>
    obtain ⟨a, e, q⟩ := h
    exact ⟨a, e, x.mono.seq q⟩
theorem RvOk.back {K : PySem.W.Frag} {g : Gh} {s : Sta} {H H0 H1 : Hp} {v : V} {r : Rv} (h : RvOk K g s H H1 v r) (k : ∀ b, H1 b = none → H0 b = none) : RvOk K g s H H0 v r := by
  cases r with
  | v d => exact h
  | f xs =>
    obtain ⟨a, vs, e, h1, h2, h3, h4, h5⟩ := h
    exact ⟨a, vs, e, h1, h2, h3, h4, k _ h5⟩
  | fd xs =>
    obtain ⟨a, vs, e, h1, h2, h3, h4, h5⟩ := h
    exact ⟨a, vs, e, h1, h2, h3, h4, k _ h5⟩
  | dr => exact h
  | scr _ => exact h

structure Pure (G H G' H' : Hp) : Prop where
  m : Same G G'
  h : Same H H'
  s : Same G' H'
  n : ∀ b, G' b ≠ none → G b ≠ none ∨ H b = none

theorem Pure.refl {G H : Hp} (s : Same G H) : Pure G H G H := ⟨Same.refl _, Same.refl _, s, fun _ h => .inl h⟩
theorem same_new {H : Hp} {p : Addr} {o : HO} (h : H p = none) : Same H (upd H p o) := fun b x e => by
  rw [upd_ne (ne_of_none e h)]
  exact e
theorem Pure.both {G H : Hp} {p : Addr} {o : HO} (s : Same G H) (h : H p = none) : Pure G H (upd G p o) (upd H p o) := by
  refine ⟨same_new (s.free h), same_new h, fun b x e => ?_, fun b e => ?_⟩
  · by_cases hb : b = p
    · subst hb
      rw [upd_same] at e ⊢
      exact e
    · rw [upd_ne hb] at e ⊢
      exact s _ _ e
  · by_cases hb : b = p
    · subst hb
      exact .inr h
    · rw [upd_ne hb] at e
      exact .inl e
theorem Pure.one {G H : Hp} {p : Addr} {o : HO} (s : Same G H) (h : H p = none) : Pure G H G (upd H p o) :=
  ⟨Same.refl _, same_new h, s.trans (same_new h), fun _ e => .inl e⟩
theorem Pure.trans {G H G1 H1 G2 H2 : Hp} (a : Pure G H G1 H1) (b : Pure G1 H1 G2 H2) : Pure G H G2 H2 :=
  ⟨a.m.trans b.m, a.h.trans b.h, b.s, fun c e => by
    rcases b.n c e with z | z
    · exact a.n c z
    · exact .inr (a.h.free z)⟩

abbrev Gh.wG (g : Gh) (G : Hp) : Gh := { g with G := G }

theorem ow_wG {g : Gh} {G : Hp} {s : Sta} {a : Addr} : Ow (g.wG G) s a ↔ Ow g s a := Iff.rfl

theorem StOk.there {K : PySem.W.Frag} {g : Gh} {σ : L2.St} {H : Hp} {s : Sta} (h : StOk K g σ H s) {a : Addr} (w : Ow g s a) : H a ≠ none := by
  rcases w with ⟨i, hi, rfl⟩ | ⟨hs, rfl | rfl⟩
  · cases e : s.g[i]? with
    | none => rw [e] at hi; exact hi.elim
    | some x =>
      have q := h.slot i x e
      rw [e] at hi
      cases x with
      | own xs =>
        obtain ⟨_, vs, h1, _⟩ := q
        rw [h1]; simp
      | dct xs =>
        obtain ⟨_, vs, h1, _⟩ := q
        rw [h1]; simp
      | no => exact hi.elim
      | v d => exact hi.elim
      | dr => exact hi.elim
      | drr => exact hi.elim
      | scr _ => exact hi.elim
  · obtain ⟨S, e⟩ := Option.isSome_iff_exists.mp hs
    obtain ⟨_, ⟨c, h1, _⟩, _⟩ := h.dro S e
    rw [h1]; simp
  · obtain ⟨S, e⟩ := Option.isSome_iff_exists.mp hs
    obtain ⟨_, _, h1⟩ := h.dro S e
    rw [h1]; simp

theorem SlotOk.pure {K : PySem.W.Frag} {g : Gh} {H G' H' : Hp} {o : Option (Option V)} {i : Nat} {x : Slot} (h : SlotOk K g H o i x) (m : Same g.G G') (k : Same H H') : SlotOk K (g.wG G') H' o i x := by
  cases x with
  | no => trivial
  | v d =>
    obtain ⟨v, e, q⟩ := h
    exact ⟨v, e, q.mono m⟩
  | own xs =>
    obtain ⟨e, vs, h1, h2⟩ := h
    exact ⟨e, vs, k _ _ h1, h2.mono m⟩
  | dct xs =>
    obtain ⟨e, vs, h1, h2⟩ := h
    exact ⟨e, vs, k _ _ h1, h2.mono m⟩
  | dr => exact h
  | drr => exact h
  | scr ns =>
    obtain ⟨a, e, q⟩ := h
    exact ⟨a, e, m.seq q⟩

theorem DrOk.pure {K : PySem.W.Frag} {g : Gh} {H G' H' : Hp} {S : DS} (h : DrOk K g H S) (m : Same g.G G') (k : Same H H') : DrOk K (g.wG G') H' S := by
  obtain ⟨n, ⟨c, h1, h2⟩, h3⟩ := h
  exact ⟨n, ⟨c, k _ _ h1, h2.mono m⟩, k _ _ h3⟩

theorem StOk.pure {K : PySem.W.Frag} {g : Gh} {σ : L2.St} {H G' H' : Hp} {s : Sta} (h : StOk K g σ H s) (p : Pure g.G H G' H') : StOk K (g.wG G') σ H' s where
  same := p.s
  len := h.len
  slot := fun i x e => (h.slot i x e).pure p.m p.h
  inj := h.inj
  sep := fun a w => by
    cases q : G' a with
    | none => exact q
    | some o =>
      rcases p.n a (by rw [q]; simp) with z | z
      · exact absurd (h.sep a w) z
      · exact absurd z (h.there w)
  dro := fun S e => (h.dro S e).pure p.m p.h
  drw := h.drw
  drs := h.drs
theorem Pure.ext {g : Gh} {s : Sta} {H G' H' : Hp} (p : Pure g.G H G' H') : Ext g s H (g.wG G') s H' where
  mono := p.m
  keep := fun b o h _ => p.h b o h
  newG := fun b h => (p.n b h).elim .inl fun z => .inr (.inl z)
  own := fun b h => .inl h
  trk := fun b h => p.h.free h
  dr := fun h => ⟨h, rfl, rfl⟩

theorem freeze {K : PySem.W.Frag} {g0 g : Gh} {σ : L2.St} {H H0 : Hp} {s0 s : Sta} {v : V} {r a : Rv} (h : StOk K g σ H s) (x : Ext g0 s0 H0 g s H) (q : RvOk K g s H H0 v r) (e : r.arg = some a) :
    ∃ g', StOk K g' σ H s ∧ Ext g0 s0 H0 g' s H ∧ RvOk K g' s H H0 v a ∧ Same g.G g'.G := by
  cases r with
  | v d =>
    cases e
    exact ⟨g, h, x, q, Same.refl _⟩
  | dr =>
    cases e
    exact ⟨g, h, x, q, Same.refl _⟩
  | fd _ => cases e
  | scr ns =>
    cases e
    exact ⟨g, h, x, q, Same.refl _⟩
  | f xs =>
    cases e
    obtain ⟨p, vs, rfl, h1, h2, h3, h4, h5⟩ := q
    have m : Same g.G (upd g.G p (.lst vs)) := same_new h3
    refine ⟨g.wG (upd g.G p (.lst vs)), ⟨fun b o e => ?_, h.len, fun i y e => (h.slot i y e).pure m (Same.refl _), h.inj, fun b w => ?_, fun S e => (h.dro S e).pure m (Same.refl _), h.drw, h.drs⟩, ⟨x.mono.trans m, x.keep, fun b e => ?_, x.own, x.trk, x.dr⟩, ?_, m⟩
    · by_cases hb : b = p
      · subst hb
        have e' : some (HO.lst vs) = some o := by rw [← e]; exact upd_same.symm
        rw [h1]; exact e'
      · have e' : g.G b = some o := by rw [← e]; exact (upd_ne hb).symm
        exact h.same _ _ e'
    · have hb : b ≠ p := fun z => h4 (z ▸ w)
      show upd g.G p (.lst vs) b = none
      rw [upd_ne hb]
      exact h.sep b w
    · by_cases hb : b = p
      · subst hb
        exact .inr (.inl h5)
      · have e' : g.G b ≠ none := fun z => e (by show upd g.G p (.lst vs) b = none; rw [upd_ne hb]; exact z)
        exact x.newG b e'
    · exact Den.lst upd_same (h2.mono m)
theorem arg_of_d {r : Rv} {d : D} (h : r.d = some d) : r.arg = some (.v d) := by
  cases r with
  | v x => cases h; rfl
  | f xs => cases h; rfl
  | fd _ => cases h
  | dr => cases h
  | scr _ => cases h
theorem freezeD {K : PySem.W.Frag} {g0 g : Gh} {σ : L2.St} {H H0 : Hp} {s0 s : Sta} {v : V} {r : Rv} {d : D} (h : StOk K g σ H s) (x : Ext g0 s0 H0 g s H) (q : RvOk K g s H H0 v r) (e : r.d = some d) :
    ∃ g', StOk K g' σ H s ∧ Ext g0 s0 H0 g' s H ∧ Den K g'.G v d ∧ Same g.G g'.G := freeze h x q (arg_of_d e)

def Cur (K : PySem.W.Frag) (G H : Hp) (v : V) (d : D) : Prop := Den K G v d ∨ ∃ a vs xs, v = .ref a ∧ d = .list xs ∧ H a = some (.lst vs) ∧ Dens K G vs xs
theorem RvOk.cur {K : PySem.W.Frag} {g : Gh} {s : Sta} {H H0 : Hp} {v : V} {r : Rv} {d : D} (q : RvOk K g s H H0 v r) (e : r.d = some d) : Cur K g.G H v d := by
  cases r with
  | v x => cases e; exact .inl q
  | f xs =>
    cases e
    obtain ⟨p, vs, rfl, h1, h2, _⟩ := q
    exact .inr ⟨p, vs, xs, rfl, rfl, h1, h2⟩
  | fd _ => cases e
  | dr => cases e
  | scr _ => cases e
theorem Cur.den {K : PySem.W.Frag} {G H : Hp} {v : V} {d : D} (c : Cur K G H v d) (s : Same G H) : Den K H v d := by
  rcases c with c | ⟨a, vs, xs, rfl, rfl, h1, h2⟩
  · exact c.mono s
  · exact .lst h1 (h2.mono s)
theorem Cur.list {K : PySem.W.Frag} {G H : Hp} {v : V} {xs : List D} (c : Cur K G H v (.list xs)) (s : Same G H) : ∃ a vs, v = .ref a ∧ H a = some (.lst vs) ∧ Dens K G vs xs := by
  rcases c with c | ⟨a, vs, ys, rfl, e, h1, h2⟩
  · cases c with
    | lst h k => exact ⟨_, _, rfl, s _ _ h, k⟩
  · cases e
    exact ⟨a, vs, rfl, h1, h2⟩
theorem Cur.tuple {K : PySem.W.Frag} {G H : Hp} {v : V} {xs : List D} (c : Cur K G H v (.tuple xs)) (s : Same G H) : ∃ a vs, v = .ref a ∧ SqT K H a vs ∧ Dens K G vs xs := by
  rcases c with c | ⟨a, vs, ys, rfl, e, h1, h2⟩
  · cases c with
    | tup h k => exact ⟨_, _, rfl, same_tup s h, k⟩
  · cases e
theorem Cur.tup {K : PySem.W.Frag} {G H : Hp} {v : V} {xs : List D} (c : Cur K G H v (.tuple xs)) : Den K G v (.tuple xs) := by
  rcases c with c | ⟨a, vs, ys, rfl, e, h1, h2⟩
  · exact c
  · cases e
theorem Cur.int {K : PySem.W.Frag} {G H : Hp} {v : V} {i : Int} (c : Cur K G H v (.int i)) : v = .int i := by
  rcases c with c | ⟨a, vs, ys, rfl, e, h1, h2⟩
  · cases c; rfl
  · cases e
theorem Cur.bool {K : PySem.W.Frag} {G H : Hp} {v : V} {i : Bool} (c : Cur K G H v (.bool i)) : v = .bl i := by
  rcases c with c | ⟨a, vs, ys, rfl, e, h1, h2⟩
  · cases c; rfl
  · cases e
theorem Cur.str {K : PySem.W.Frag} {G H : Hp} {v : V} {i : Str} (c : Cur K G H v (.str i)) : v = .str i := by
  rcases c with c | ⟨a, vs, ys, rfl, e, h1, h2⟩
  · cases c; rfl
  · cases e
theorem Cur.none {K : PySem.W.Frag} {G H : Hp} {v : V} (c : Cur K G H v .none) : v = .non := by
  rcases c with c | ⟨a, vs, ys, rfl, e, h1, h2⟩
  · cases c; rfl
  · cases e

def ResOk (K : PySem.W.Frag) (G' H' H : Hp) (v : V) : Rv → Prop
  | .v d => Den K G' v d
  | .f xs => ∃ a vs, v = .ref a ∧ H' a = some (.lst vs) ∧ Dens K G' vs xs ∧ G' a = none ∧ H a = none
  | .fd kvs => ∃ a ks, v = .ref a ∧ H' a = some (.dK ks) ∧ KDen K G' ks kvs ∧ G' a = none ∧ H a = none
  | .dr => False
  | .scr _ => False
theorem ResOk.rv {K : PySem.W.Frag} {g : Gh} {σ : L2.St} {H G' H' : Hp} {s : Sta} {v : V} {r : Rv} (h : StOk K g σ H s) (q : ResOk K G' H' H v r) : RvOk K (g.wG G') s H' H v r := by
  cases r with
  | v d => exact q
  | f xs =>
    obtain ⟨a, vs, e, h1, h2, h3, h4⟩ := q
    exact ⟨a, vs, e, h1, h2, h3, fun w => h.there w h4, h4⟩
  | fd xs =>
    obtain ⟨a, vs, e, h1, h2, h3, h4⟩ := q
    exact ⟨a, vs, e, h1, h2, h3, fun w => h.there w h4, h4⟩
  | dr => exact q.elim
  | scr _ => exact q.elim
def Fin (K : PySem.W.Frag) (G H : Hp) (r : Rv) (Q : VK) : Prop := ∀ v G' H', Pure G H G' H' → ResOk K G' H' H v r → Q v H'
theorem Fin.now {K : PySem.W.Frag} {G H : Hp} {d : D} {Q : VK} {v : V} (f : Fin K G H (.v d) Q) (s : Same G H) (h : Den K G v d) : Q v H := f v G H (.refl s) h
theorem Fin.newT {K : PySem.W.Frag} {G H : Hp} {xs : List D} {Q : VK} {vs : List V} (f : Fin K G H (.v (.tuple xs)) Q) (s : Same G H) (h : Dens K G vs xs) (p : Addr) (hp : H p = none) : Q (.ref p) (upd H p (.tup vs)) :=
  f (.ref p) _ _ (.both s hp) (Den.tup (.inl (.inl upd_same)) (h.mono (same_new (s.free hp))))
theorem Fin.newL {K : PySem.W.Frag} {G H : Hp} {xs : List D} {Q : VK} {vs : List V} (f : Fin K G H (.f xs) Q) (s : Same G H) (h : Dens K G vs xs) (p : Addr) (hp : H p = none) : Q (.ref p) (upd H p (.lst vs)) :=
  f (.ref p) _ _ (.one s hp) ⟨p, vs, rfl, upd_same, h, s.free hp, hp⟩
end Tl

namespace Tl
open PySem L2

theorem pe_imp {X : Cx} {e : Expr} {t t' : TE} (h : PE X e t) (k : ∀ σ H Q, t' σ H Q → t σ H Q) : PE X e t' := ⟨fun pins s σ H Q I w => h.run pins s σ H Q I (k σ H Q w)⟩
theorem pt_imp {X : Cx} {e : Expr} {t t' : TT} (h : PT X e t) (k : ∀ σ H Q, t' σ H Q → t σ H Q) : PT X e t' := ⟨fun pins s σ H Q I w => h.run pins s σ H Q I (k σ H Q w)⟩

theorem lim_line : LIM ≤ sizeLine := by decide
theorem small_spec {i : Int} (h : small i = true) : -(2 ^ 62) < i ∧ i < 2 ^ 62 := by
  have h := of_decide_eq_true h
  omega

def rD (K : PySem.W.Frag) (op : D → D → Option Rv) : R2 := fun x y H Q => ∃ G dx dy rv, Same G H ∧ Cur K G H x dx ∧ Cur K G H y dy ∧ op dx dy = some rv ∧ Fin K G H rv Q

variable {X : Cx}
theorem op_Add : OpR X (binaryOp .Add) (rD X.K (binR .Add)) := by
  intro pins s σ H x y v u Q I rx ry h
  obtain ⟨G, dx, dy, rv, sm, cx, cy, e, f⟩ := h
  cases dx <;> cases dy <;> first | (simp only [binR, reduceCtorEq] at e; done) | skip
  case int.int i j =>
    cases e
    exact op_add pins s σ H x y v u Q I rx ry ⟨_, _, cx.int, cy.int, f.now sm (.int _)⟩
  case list.list xs ys =>
    simp only [binR] at e
    split at e
    · rename_i hz
      cases e
      obtain ⟨a, vs, ea, ha, da⟩ := cx.list sm
      obtain ⟨b, ws, eb, hb, db⟩ := cy.list sm
      refine op_cat pins s σ H x y v u Q I rx ry ⟨a, b, vs, ws, ea, eb, ha, hb, ?_, fun p hp => f.newL sm (da.app db) p hp⟩
      rw [da.len, db.len]
      exact Nat.le_trans (of_decide_eq_true hz) lim_line
    · cases e
  case tuple.tuple xs ys =>
    simp only [binR] at e
    split at e
    · rename_i hz
      cases e
      obtain ⟨a, vs, ea, ha, da⟩ := cx.tuple sm
      obtain ⟨b, ws, eb, hb, db⟩ := cy.tuple sm
      refine op_catA pins s σ H x y v u Q I rx ry ⟨a, b, vs, ws, ea, eb, ha, hb, ?_, fun z => ?_, fun _ z => ?_, fun _ _ p hp => f.newT sm (da.app db) p hp⟩
      · rw [da.len, db.len]
        exact Nat.le_trans (of_decide_eq_true hz) lim_line
      · subst z
        cases da
        rw [← eb]
        exact f.now sm cy.tup
      · subst z
        cases db
        rw [← ea]
        rw [List.append_nil] at f
        exact f.now sm cx.tup
    · cases e
theorem op_Sub : OpR X (binaryOp .Sub) (rD X.K (binR .Sub)) := by
  intro pins s σ H x y v u Q I rx ry h
  obtain ⟨G, dx, dy, rv, sm, cx, cy, e, f⟩ := h
  cases dx <;> cases dy <;> first | (simp only [binR, reduceCtorEq] at e; done) | skip
  cases e
  exact op_sub pins s σ H x y v u Q I rx ry ⟨_, _, cx.int, cy.int, f.now sm (.int _)⟩
theorem dens_rep {K : PySem.W.Frag} {G : Hp} {vs : List V} {xs : List D} (h : Dens K G vs xs) : ∀ n : Nat, Dens K G (List.replicate n vs).flatten (List.replicate n xs).flatten
  | 0 => .nil
  | n + 1 => by
    rw [List.replicate_succ, List.replicate_succ, List.flatten_cons, List.flatten_cons]
    exact h.app (dens_rep h n)
theorem op_Mult : OpR X (binaryOp .Mult) (rD X.K (binR .Mult)) := by
  intro pins s σ H x y v u Q I rx ry h
  obtain ⟨G, dx, dy, rv, sm, cx, cy, e, f⟩ := h
  cases dx <;> cases dy <;> first | (simp only [binR, reduceCtorEq] at e; done) | skip
  case int.int i j =>
    simp only [binR] at e
    split at e
    · rename_i hz
      cases e
      refine op_mul pins s σ H x y v u Q I rx ry ⟨_, _, cx.int, cy.int, ?_, f.now sm (.int _)⟩
      rcases (Bool.or_eq_true _ _).mp hz with z | z
      · have := small_spec z
        exact .inl ⟨by omega, by omega⟩
      · have := small_spec z
        exact .inr ⟨by omega, by omega⟩
    · cases e
  case list.int xs k =>
    simp only [binR] at e
    split at e
    · rename_i hz
      cases e
      obtain ⟨z1, z2⟩ := (Bool.and_eq_true _ _).mp hz
      have z3 := small_spec z2
      obtain ⟨a, vs, ea, ha, da⟩ := cx.list sm
      refine op_rep pins s σ H x y v u Q I rx ry ⟨a, k, vs, ea, cy.int, ha, by omega, by omega, ?_, fun p hp => f.newL sm (dens_rep da _) p hp⟩
      rw [da.len]
      exact Nat.le_trans (of_decide_eq_true z1) lim_line
    · cases e
theorem op_FloorDiv : OpR X (binaryOp .FloorDiv) (rD X.K (binR .FloorDiv)) := by
  intro pins s σ H x y v u Q I rx ry h
  obtain ⟨G, dx, dy, rv, sm, cx, cy, e, f⟩ := h
  cases dx <;> cases dy <;> first | (simp only [binR, reduceCtorEq] at e; done) | skip
  simp only [binR] at e
  split at e
  · rename_i hz
    cases e
    obtain ⟨z1, z2⟩ := (Bool.and_eq_true _ _).mp hz
    exact op_fdivW pins s σ H x y v u Q I rx ry ⟨_, _, cx.int, cy.int, wide_div (of_decide_eq_true z1) (of_decide_eq_true z2) (by decide) (by decide), f.now sm (.int _)⟩
  · cases e
theorem op_Mod : OpR X (binaryOp .Mod) (rD X.K (binR .Mod)) := by
  intro pins s σ H x y v u Q I rx ry h
  obtain ⟨G, dx, dy, rv, sm, cx, cy, e, f⟩ := h
  cases dx <;> cases dy <;> first | (simp only [binR, reduceCtorEq] at e; done) | skip
  simp only [binR] at e
  split at e
  · rename_i hz
    cases e
    exact op_mod pins s σ H x y v u Q I rx ry ⟨_, _, cx.int, cy.int, of_decide_eq_true hz, f.now sm (.int _)⟩
  · cases e
theorem op_Pow : OpR X (binaryOp .Pow) (rD X.K (binR .Pow)) := by
  intro pins s σ H x y v u Q I rx ry h
  obtain ⟨G, dx, dy, rv, sm, cx, cy, e, f⟩ := h
  cases dx <;> cases dy <;> first | (simp only [binR, reduceCtorEq] at e; done) | skip
  simp only [binR] at e
  split at e
  · rename_i hz
    cases e
    obtain ⟨z0, z2⟩ := (Bool.and_eq_true _ _).mp hz
    obtain ⟨z1, z3⟩ := (Bool.and_eq_true _ _).mp z0
    have z4 := of_decide_eq_true z3
    have z5 := small_spec z2
    exact op_pow pins s σ H x y v u Q I rx ry ⟨_, _, cx.int, cy.int, ⟨of_decide_eq_true z1, by omega, by omega⟩, f.now sm (.int _)⟩
  · cases e
theorem op_LShift : OpR X (binaryOp .LShift) (rD X.K (binR .LShift)) := by
  intro pins s σ H x y v u Q I rx ry h
  obtain ⟨G, dx, dy, rv, sm, cx, cy, e, f⟩ := h
  cases dx <;> cases dy <;> first | (simp only [binR, reduceCtorEq] at e; done) | skip
  simp only [binR] at e
  split at e
  · rename_i hz
    cases e
    obtain ⟨z0, z2⟩ := (Bool.and_eq_true _ _).mp hz
    obtain ⟨z1, z3⟩ := (Bool.and_eq_true _ _).mp z0
    have z4 := of_decide_eq_true z3
    have z5 := small_spec z2
    exact op_shl pins s σ H x y v u Q I rx ry ⟨_, _, cx.int, cy.int, ⟨of_decide_eq_true z1, by omega, by omega⟩, f.now sm (.int _)⟩
  · cases e
theorem op_RShift : OpR X (binaryOp .RShift) (rD X.K (binR .RShift)) := by
  intro pins s σ H x y v u Q I rx ry h
  obtain ⟨G, dx, dy, rv, sm, cx, cy, e, f⟩ := h
  cases dx <;> cases dy <;> first | (simp only [binR, reduceCtorEq] at e; done) | skip
  simp only [binR] at e
  split at e
  · rename_i hz
    cases e
    exact op_shr pins s σ H x y v u Q I rx ry ⟨_, _, cx.int, cy.int, of_decide_eq_true hz, f.now sm (.int _)⟩
  · cases e
theorem op_BitAnd : OpR X (binaryOp .BitAnd) (rD X.K (binR .BitAnd)) := by
  intro pins s σ H x y v u Q I rx ry h
  obtain ⟨G, dx, dy, rv, sm, cx, cy, e, f⟩ := h
  cases dx <;> cases dy <;> first | (simp only [binR, reduceCtorEq] at e; done) | skip
  cases e
  exact op_and pins s σ H x y v u Q I rx ry ⟨_, _, cx.int, cy.int, f.now sm (.int _)⟩
theorem op_none {f : Value → Value → Sem Value} {op : D → D → Option Rv} (h : ∀ x y, op x y = none) : OpR X f (rD X.K op) := by
  intro pins s σ H x y v u Q I rx ry z
  obtain ⟨G, dx, dy, rv, sm, cx, cy, e, f⟩ := z
  rw [h] at e
  cases e
theorem op_any : ∀ op : Operator, OpR X (binaryOp op) (rD X.K (binR op))
  | .Add => op_Add
  | .Sub => op_Sub
  | .Mult => op_Mult
  | .FloorDiv => op_FloorDiv
  | .Mod => op_Mod
  | .Pow => op_Pow
  | .MatMult => op_none fun x y => by cases x <;> cases y <;> rfl
  | .Div => op_none fun x y => by cases x <;> cases y <;> rfl
  | .LShift => op_LShift
  | .RShift => op_RShift
  | .BitOr => op_none fun x y => by cases x <;> cases y <;> rfl
  | .BitXor => op_none fun x y => by cases x <;> cases y <;> rfl
  | .BitAnd => op_BitAnd

mutual
theorem Den.dp {K : PySem.W.Frag} {G : Hp} : ∀ {v : V} {d : D}, Den K G v d → Dp K G v d
  | _, _, .non => .non
  | _, _, .bl b => .bl b
  | _, _, .int i => .int i
  | _, _, .str x => .str x
  | _, _, .lst h k => .lst (.inl (.inl h)) (Dens.dp k)
  | _, _, .tup h k => .tup h (Dens.dp k)
theorem Dens.dp {K : PySem.W.Frag} {G : Hp} : ∀ {vs : List V} {ds : List D}, Dens K G vs ds → DpAll K G vs ds
  | _, _, .nil => .nil
  | _, _, .cons h k => .cons (Den.dp h) (Dens.dp k)
end
def rC (K : PySem.W.Frag) (op : D → D → Option Bool) : R2 := fun x y H Q => ∃ G dx dy b, Same G H ∧ Cur K G H x dx ∧ Cur K G H y dy ∧ op dx dy = some b ∧ Q (.bl b) H

theorem Den.flE {K : PySem.W.Frag} {G : Hp} {v : V} {d : D} (h : Den K G v d) : flatV v = flat d := by cases h <;> rfl
theorem Dens.flE {K : PySem.W.Frag} {G : Hp} : ∀ {vs : List V} {ds : List D}, Dens K G vs ds → vs.all flatV = ds.all Tl.flat
  | _, _, .nil => rfl
  | _, _, .cons h k => by rw [List.all_cons, List.all_cons, h.flE, Dens.flE k]
theorem Den.eqE {K : PySem.W.Frag} {G : Hp} {v w : V} {d e : D} (h : Den K G v d) (k : Den K G w e) (f : flat d = true) (g : flat e = true) : L2.eqV v w = PyData.eqv d e := by
  cases h <;> first | (cases f; done) | (cases k <;> first | (cases g; done) | rfl | (simp only [L2.eqV, PyData.eqv]) )
theorem Dens.inE {K : PySem.W.Frag} {G : Hp} {v : V} {d : D} (h : Den K G v d) (f : Tl.flat d = true) : ∀ {vs : List V} {ds : List D}, Dens K G vs ds → ds.all Tl.flat = true → L2.inV v vs = inD d ds
  | _, _, .nil, _ => rfl
  | _, _, .cons (v := w) (vs := vs) (d := e) (ds := ds) a k, g => by
    obtain ⟨g1, g2⟩ := (Bool.and_eq_true _ _).mp g
    show (L2.eqV w v || L2.inV v vs) = (PyData.eqv e d || inD d ds)
    rw [a.eqE h g1 f, Dens.inE h f k g2]
theorem Cur.flatD {K : PySem.W.Frag} {G H : Hp} {v : V} {d : D} (c : Cur K G H v d) (f : flat d = true) : Den K G v d := by
  rcases c with c | ⟨a, vs, xs, rfl, rfl, h1, h2⟩
  · exact c
  · cases f

theorem lexLe_at : ∀ (ns ms : List Int) (i : Nat) (k : Nat), k = min ns.length ms.length - i → i ≤ min ns.length ms.length →
    Ob.lexAt (fun j => decide (ns.getD j 0 = ms.getD j 0)) (fun j => decide (ns.getD j 0 ≤ ms.getD j 0)) (decide (ns.length ≤ ms.length)) i k = lexLe (ns.drop i) (ms.drop i) := by
  intro ns ms i k
  induction k generalizing i with
  | zero =>
    intro hk hi
    rw [Ob.lexAt_zero]
    have : i = min ns.length ms.length := by omega
    by_cases h : ns.length ≤ ms.length
    · rw [decide_eq_true h, List.drop_of_length_le (show ns.length ≤ i by omega)]
      rfl
    · rw [decide_eq_false h, List.drop_of_length_le (l := ms) (show ms.length ≤ i by omega)]
      cases e : ns.drop i with
      | nil =>
        have := congrArg List.length e
        rw [List.length_drop] at this
        simp only [List.length_nil] at this
        omega
      | cons a r => rfl
  | succ k ih =>
    intro hk hi
    have h1 : i < ns.length := by omega
    have h2 : i < ms.length := by omega
    rw [Ob.lexAt_succ, ih (i + 1) (by omega) (by omega), List.drop_eq_getElem_cons h1, List.drop_eq_getElem_cons h2]
    have e1 : ns.getD i 0 = ns[i] := by simp [List.getD, h1]
    have e2 : ms.getD i 0 = ms[i] := by simp [List.getD, h2]
    rw [e1, e2]
    show _ = if ns[i] = ms[i] then lexLe (ns.drop (i + 1)) (ms.drop (i + 1)) else decide (ns[i] < ms[i])
    by_cases h : ns[i] = ms[i]
    · rw [if_pos h, if_pos (decide_eq_true h)]
    · rw [if_neg h, if_neg (by simpa using h)]
      by_cases hl : ns[i] < ms[i]
      · rw [decide_eq_true hl, decide_eq_true (by omega)]
      · rw [decide_eq_false hl, decide_eq_false (by omega)]

theorem cmp_Eq (hu : X.A.units + 64 < cLine) : OpR X (compareOp .Eq) (rC X.K (cmpD .Eq)) := by
  intro pins s σ H x y v u Q I rx ry h
  obtain ⟨G, dx, dy, b, sm, cx, cy, e, q⟩ := h
  have gen : (if shp dx && shp dy then some (PyData.eqv dx dy) else none) = some b → wpAny (model X.prog X.w) X.A (compareOp .Eq v u) (EP X pins σ Q) X.xe s := fun e => by
    split at e
    · rename_i hz
      cases e
      obtain ⟨z1, z2⟩ := (Bool.and_eq_true _ _).mp hz
      exact op_eqD hu pins s σ H x y v u Q I rx ry ⟨dx, dy, (cx.den sm).dp, (cy.den sm).dp, z1, z2, q⟩
    · cases e
  cases dx <;> cases dy <;> first | exact gen e | skip
  cases e
  refine op_eq pins s σ H x y v u Q I rx ry ⟨?_, ?_⟩
  · rw [cx.str, cy.str]; rfl
  · rw [cx.str, cy.str, dec_str, Bool.beq_eq_decide_eq]
    exact q
theorem cmp_NotEq (hu : X.A.units + 64 < cLine) : OpR X (compareOp .NotEq) (rC X.K (cmpD .NotEq)) := by
  intro pins s σ H x y v u Q I rx ry h
  obtain ⟨G, dx, dy, b, sm, cx, cy, e, q⟩ := h
  have gen : (if shp dx && shp dy then some (!PyData.eqv dx dy) else none) = some b → wpAny (model X.prog X.w) X.A (compareOp .NotEq v u) (EP X pins σ Q) X.xe s := fun e => by
    split at e
    · rename_i hz
      cases e
      obtain ⟨z1, z2⟩ := (Bool.and_eq_true _ _).mp hz
      exact op_neD hu pins s σ H x y v u Q I rx ry ⟨dx, dy, (cx.den sm).dp, (cy.den sm).dp, z1, z2, q⟩
    · cases e
  cases dx <;> cases dy <;> first | exact gen e | skip
  cases e
  refine op_ne pins s σ H x y v u Q I rx ry ⟨?_, ?_⟩
  · rw [cx.str, cy.str]; rfl
  · rw [cx.str, cy.str, dec_str, Bool.beq_eq_decide_eq]
    exact q
theorem cmp_Lt : OpR X (compareOp .Lt) (rC X.K (cmpD .Lt)) := by
  intro pins s σ H x y v u Q I rx ry h
  obtain ⟨G, dx, dy, b, sm, cx, cy, e, q⟩ := h
  cases dx <;> cases dy <;> first | (simp only [cmpD, reduceCtorEq] at e; done) | skip
  cases e
  exact op_lt pins s σ H x y v u Q I rx ry ⟨_, _, cx.int, cy.int, q⟩
theorem cmp_Gt : OpR X (compareOp .Gt) (rC X.K (cmpD .Gt)) := by
  intro pins s σ H x y v u Q I rx ry h
  obtain ⟨G, dx, dy, b, sm, cx, cy, e, q⟩ := h
  cases dx <;> cases dy <;> first | (simp only [cmpD, reduceCtorEq] at e; done) | skip
  cases e
  exact op_gt pins s σ H x y v u Q I rx ry ⟨_, _, cx.int, cy.int, q⟩
theorem cmp_GtE : OpR X (compareOp .GtE) (rC X.K (cmpD .GtE)) := by
  intro pins s σ H x y v u Q I rx ry h
  obtain ⟨G, dx, dy, b, sm, cx, cy, e, q⟩ := h
  cases dx <;> cases dy <;> first | (simp only [cmpD, reduceCtorEq] at e; done) | skip
  cases e
  exact op_ge pins s σ H x y v u Q I rx ry ⟨_, _, cx.int, cy.int, q⟩
theorem cmp_LtE (hu : X.A.units + 64 < cLine) : OpR X (compareOp .LtE) (rC X.K (cmpD .LtE)) := by
  intro pins s σ H x y v u Q I rx ry h
  obtain ⟨G, dx, dy, b, sm, cx, cy, e, q⟩ := h
  cases dx <;> cases dy <;> first | (simp only [cmpD, reduceCtorEq] at e; done) | skip
  case int.int i j =>
    cases e
    exact op_le pins s σ H x y v u Q I rx ry ⟨_, _, cx.int, cy.int, q⟩
  case tuple.tuple xs ys =>
    simp only [cmpD] at e
    split at e
    · rename_i ns ms h1 h2
      cases e
      obtain ⟨a, vs, ea, ha, da⟩ := cx.tuple sm
      obtain ⟨b, ws, eb, hb, db⟩ := cy.tuple sm
      have e1 := (da.ints h1).1
      have e2 := (db.ints h2).1
      subst e1 e2
      refine op_leT (by omega) pins s σ H x y v u Q I rx ry ⟨a, b, ns, ms, ea, eb, ha, hb, ?_⟩
      rw [lexLe_at ns ms 0 _ (by omega) (by omega)]
      exact q
    · cases e
theorem cmp_Is : OpR X (compareOp .Is) (rC X.K (cmpD .Is)) := by
  intro pins s σ H x y v u Q I rx ry h
  obtain ⟨G, dx, dy, b, sm, cx, cy, e, q⟩ := h
  cases dy <;> first | (cases dx <;> cases e; done) | skip
  case bool b2 =>
    cases dx <;> first | (cases e; done) | skip
    cases e
    exact op_isBl pins s σ H x y v u Q I rx ry ⟨_, _, cx.bool, cy.bool, q⟩
  refine op_isN pins s σ H x y v u Q I rx ry ⟨cy.none, ?_⟩
  have hx : decide (x = V.non) = b := by
    rcases cx with c | ⟨a, vs, xs, rfl, rfl, h1, h2⟩
    · cases c <;> (cases e; rfl)
    · cases e
      rfl
  rw [hx]
  exact q
theorem cmp_IsNot : OpR X (compareOp .IsNot) (rC X.K (cmpD .IsNot)) := by
  intro pins s σ H x y v u Q I rx ry h
  obtain ⟨G, dx, dy, b, sm, cx, cy, e, q⟩ := h
  cases dy <;> first | (cases dx <;> cases e; done) | skip
  case bool b2 =>
    cases dx <;> first | (cases e; done) | skip
    cases e
    exact op_notBl pins s σ H x y v u Q I rx ry ⟨_, _, cx.bool, cy.bool, q⟩
  refine op_notN pins s σ H x y v u Q I rx ry ⟨cy.none, ?_⟩
  have hx : (!decide (x = V.non)) = b := by
    rcases cx with c | ⟨a, vs, xs, rfl, rfl, h1, h2⟩
    · cases c <;> (cases e; rfl)
    · cases e
      rfl
  rw [hx]
  exact q
theorem cmp_In (hu : X.A.units + 64 < cLine) : OpR X (compareOp .In) (rC X.K (cmpD .In)) := by
  intro pins s σ H x y v u Q I rx ry h
  obtain ⟨G, dx, dy, b, sm, cx, cy, e, q⟩ := h
  cases dy <;> first | (cases dx <;> cases e; done) | skip
  case list ys =>
    have e : (if flat dx && ys.all flat then some (inD dx ys) else none) = some b := by cases dx <;> exact e
    split at e
    · rename_i hz
      cases e
      obtain ⟨z1, z2⟩ := (Bool.and_eq_true _ _).mp hz
      obtain ⟨a, vs, ea, ha, da⟩ := cy.list sm
      have dn := cx.flatD z1
      refine op_in_seq pins s σ H x y v u Q I rx ry ⟨a, vs, ea, .inl (.inl (.inl ha)), by rw [dn.flE]; exact z1, by rw [da.flE]; exact z2, ?_⟩
      rw [if_neg Bool.false_ne_true, Dens.inE dn z1 da z2]
      exact q
    · cases e
  case tuple ys =>
    have e : (if flat dx && ys.all flat then some (inD dx ys) else if shp dx && shp (.tuple ys) && decide (dx.depth ≤ 40) then some (inD dx ys) else none) = some b := by cases dx <;> exact e
    split at e
    · rename_i hz
      cases e
      obtain ⟨z1, z2⟩ := (Bool.and_eq_true _ _).mp hz
      obtain ⟨a, vs, ea, ha, da⟩ := cy.tuple sm
      have dn := cx.flatD z1
      refine op_in_seq pins s σ H x y v u Q I rx ry ⟨a, vs, ea, .inr ha, by rw [dn.flE]; exact z1, by rw [da.flE]; exact z2, ?_⟩
      rw [if_neg Bool.false_ne_true, Dens.inE dn z1 da z2]
      exact q
    · split at e
      · rename_i hz
        cases e
        obtain ⟨z0, z3⟩ := (Bool.and_eq_true _ _).mp hz
        obtain ⟨z1, z2⟩ := (Bool.and_eq_true _ _).mp z0
        have z3 := of_decide_eq_true z3
        obtain ⟨as, r1⟩ := Dp.reads I dx x v (cx.den sm).dp rx
        obtain ⟨bs, r2⟩ := Dp.reads I (.tuple ys) y u (cy.den sm).dp ry
        exact SeqAt.in_tuple_reads r2 r1 (SeqAt.canLay_of_shaped z2) (SeqAt.canLay_of_shaped z1) (by omega) ⟨.bl _, H, I, rfl, q⟩
      · cases e
theorem cmp_NotIn : OpR X (compareOp .NotIn) (rC X.K (cmpD .NotIn)) := by
  intro pins s σ H x y v u Q I rx ry h
  obtain ⟨G, dx, dy, b, sm, cx, cy, e, q⟩ := h
  cases dy <;> first | (cases dx <;> cases e; done) | skip
  case list ys =>
    have e : (if flat dx && ys.all flat then some (!inD dx ys) else none) = some b := by cases dx <;> exact e
    split at e
    · rename_i hz
      cases e
      obtain ⟨z1, z2⟩ := (Bool.and_eq_true _ _).mp hz
      obtain ⟨a, vs, ea, ha, da⟩ := cy.list sm
      have dn := cx.flatD z1
      refine op_notIn_seq pins s σ H x y v u Q I rx ry ⟨a, vs, ea, .inl (.inl (.inl ha)), by rw [dn.flE]; exact z1, by rw [da.flE]; exact z2, ?_⟩
      rw [if_pos rfl, Dens.inE dn z1 da z2]
      exact q
    · cases e
  case tuple ys =>
    have e : (if flat dx && ys.all flat then some (!inD dx ys) else none) = some b := by cases dx <;> exact e
    split at e
    · rename_i hz
      cases e
      obtain ⟨z1, z2⟩ := (Bool.and_eq_true _ _).mp hz
      obtain ⟨a, vs, ea, ha, da⟩ := cy.tuple sm
      have dn := cx.flatD z1
      refine op_notIn_seq pins s σ H x y v u Q I rx ry ⟨a, vs, ea, .inr ha, by rw [dn.flE]; exact z1, by rw [da.flE]; exact z2, ?_⟩
      rw [if_pos rfl, Dens.inE dn z1 da z2]
      exact q
    · cases e
theorem cmp_any (hu : X.A.units + 64 < cLine) : ∀ op : CmpOp, OpR X (compareOp op) (rC X.K (cmpD op))
  | .Eq => cmp_Eq hu
  | .NotEq => cmp_NotEq hu
  | .Lt => cmp_Lt
  | .LtE => cmp_LtE hu
  | .Gt => cmp_Gt
  | .GtE => cmp_GtE
  | .Is => cmp_Is
  | .IsNot => cmp_IsNot
  | .In => cmp_In hu
  | .NotIn => cmp_NotIn
end Tl

namespace Tl
open PySem PyProof.Rows PySem.W
section
variable {prog : Program} {w : World} {A : Around} {E : Value → Shared → Prop} {s : Shared}
theorem collect_tuple {l : Addr} {vs : List Value} {Q : List Value → Shared → Prop} (hl : IsTup s.heap l vs.toArray)
    (h : Q vs { s with heap := (s.heap.push (seqObj "list" #[] 0)).update s.heap.objs.size (Obj.mapSeq (· ++ vs.toArray)) }) (hsz : vs.length ≤ sizeLine) :
    wpAny (model prog w) A (collect (.ref l)) Q E s := by
  obtain ⟨o, ho, hc, n, hd⟩ := id hl
  unfold collect
  refine wpAny_bind (wpAny_runValue (codeAny_builtin entry_proto_collect' ?_))
  show wpAny _ _ (do again (.builtin "list.__iadd__" ⟨[← newList [], .ref l], []⟩)) _ _ s
  refine wpAny_bind (wpAny_newList (wpAny_pure ⟨Code.quiet_builtin _ (by decide +kernel), codeAny_builtin entry_list_iadd' ?_⟩))
  show wpAny _ _ (Builtin.List.listExtendWith (.ref s.heap.objs.size) (.ref l) (.ref s.heap.objs.size)) _ _ { s with heap := s.heap.push (seqObj "list" #[] 0) }
  unfold Builtin.List.listExtendWith
  have ho' : (s.heap.push (seqObj "list" #[] 0)).get? l = some o := Heap.get?_push_of_some _ ho
  refine wpAny_bind (wpAny_typeOf (T := "tuple") ⟨o, ho', hc⟩ ?_)
  have ht : (Value.type "tuple" == Value.type "tuple") = true := by rfl
  rw [if_pos (by rw [ht]; simp)]
  refine wpAny_bind (listItems_at ho' hd ?_)
  refine wpAny_bind (listItems_at (xs := #[]) (n := 0) (Heap.get?_push_size _ rfl) rfl ?_)
  rw [if_neg (by simp)]
  refine wpAny_bind (listUpdate_at (xs := #[]) (n := 0) (Heap.get?_push_size _ rfl) rfl ?_ (Nat.zero_le _) (by show (#[] ++ vs.toArray).size ≤ sizeLine + 1; simp only [Array.size_append, List.size_toArray, List.length_nil]; omega))
  refine wpAny_pure ?_
  show wpAny (model prog w) A (do
      let o ← load s.heap.objs.size
      match o.data with
      | .seq xs _ => pure xs.toList
      | _ => unsupported "internal:collect") Q E { s with heap := (s.heap.push (seqObj "list" #[] 0)).update s.heap.objs.size (Obj.mapSeq (· ++ vs.toArray)) }
  refine wpAny_bind (wpAny_load (get?_update_seq (Heap.get?_push_size _ rfl) _) ?_)
  show wpAny _ _ (pure ((#[] : Array Value) ++ vs.toArray).toList) Q E _
  rw [show ((#[] : Array Value) ++ vs.toArray).toList = vs by simp]
  exact wpAny_pure h
theorem sorted_of_sortT {l : Addr} {vs : List Value} {Q : Value → Shared → Prop} (hl : IsTup s.heap l vs.toArray) (hL : vs.length ≤ sizeLine)
    (body : ∀ E' : Value → Shared → Prop, wpAny (model prog w) A.in1.in1 (Builtin.«list.sort» ⟨[.ref (s.heap.objs.size + 1)], []⟩) (fun f s' => f = .done (.ret .none) ∧ Q (.ref (s.heap.objs.size + 1)) s') E' { s with heap := copyHeap s.heap vs }) :
    wpAny (model prog w) A (call (.builtin "sorted") [.ref l] []) Q E s := by
  refine call_function_entry_kw kind_sorted plain_sorted entry_sorted (args_sorted1 _) ?_
  unfold Builtin.«sorted»
  refine wpAny_bind (m := checkCount "sorted" 1 1 _) (wpAny_pure ?_)
  refine wpAny_bind (collect_tuple hl ?_ hL)
  refine wpAny_bind (wpAny_newList ?_ hL)
  have hsz : ((s.heap.push (seqObj "list" #[] 0)).update s.heap.objs.size (Obj.mapSeq (· ++ vs.toArray))).objs.size = s.heap.objs.size + 1 := by
    rw [Heap.size_update, size_push']
  show wpAny _ _ _ _ _ { s with heap := copyHeap s.heap vs }
  rw [hsz]
  refine wpAny_bind (wpAny_holding (wpAny_call_entry_kw slot_list_sort ⟨_, copyHeap_at s.heap vs, rfl⟩ entry_list_sort ?body (args_list_sort _)))
  case body =>
    show wpAny (model prog w) A.in1.in1 (Builtin.«list.sort» ⟨[.ref (s.heap.objs.size + 1)], []⟩) _ _ _
    refine wpAny_mono (body _) (fun f s' hf => ?_) fun _ _ e => e
    obtain ⟨rfl, hq⟩ := hf
    exact ⟨_, rfl, wpAny_pure ⟨_, rfl, hq⟩⟩
variable {β : Type} {vs : List Value} {bs : List β} {enc : β → PyData} {R : Value → β → Prop}
theorem sorted_dataT {l : Addr} {Q : Value → Shared → Prop} (hl : IsTup s.heap l vs.toArray) (e : EachIs R vs bs) (er : EachIs (fun v b => ∃ as, Reads s.heap v (enc b) as) vs bs) (hal : AllAlike (bs.map enc)) (hk : Sortable (bs.map enc)) (hL : bs.length ≤ sizeLine)
    (hu : ∀ b, b ∈ bs → A.units + 2 + (enc b).depth < cLine) (h : ∀ out, out.length = bs.length → EachIs R out (bs.mergeSort (dataLe false enc)) → Q (.ref (s.heap.objs.size + 1)) { s with heap := sortedAll s.heap vs (List.toArray out) }) :
    wpAny (model prog w) A (call (.builtin "sorted") [.ref l]) Q E s := by
  have er' : EachIs (fun v b => ∃ as, Reads (sortingHeap (copyHeap s.heap vs) (s.heap.objs.size + 1) vs) v (enc b) as) vs bs := er.mono fun _ _ ⟨as, r⟩ => ⟨as, PyProof.Rows.Reads.keeps (fun _ _ => sorting_copy_old) r⟩
  have hv : vs.length ≤ sizeLine := by rw [e.length]; exact hL
  exact sorted_of_sortT hl hv fun _ => list_sort_vals (s := { s with heap := copyHeap s.heap vs }) (copyHeap_at s.heap vs) (SortsAt.data (s := { s with heap := sortingHeap (copyHeap s.heap vs) (s.heap.objs.size + 1) vs }) (each_map (R := fun v d => ∃ as, Reads (sortingHeap (copyHeap s.heap vs) (s.heap.objs.size + 1) vs) v d as) enc er') hal hk (bound_map hu)) hv
    ⟨rfl, h _ (by rw [sortVals_length false rfl]; exact e.length) (sortVals_data false e er' hal)⟩

theorem pick_neg (xs : List Value) (a : Int) : ∀ k : Nat, (k : Int) ≤ a + 1 → a < xs.length → (List.range k).filterMap (fun (m : Nat) => xs.toArray[(a + (m : Int) * (-1)).toNat]?) = ((xs.drop (a + 1 - k).toNat).take k).reverse
  | 0, _, _ => by simp
  | k + 1, h1, h2 => by
    rw [List.range_succ, List.filterMap_append, pick_neg xs a k (by omega) h2]
    have e : (a + (k : Int) * (-1)).toNat = (a + 1 - ((k + 1 : Nat) : Int)).toNat := by omega
    have hlt : (a + 1 - ((k + 1 : Nat) : Int)).toNat < xs.length := by omega
    have e2 : (a + 1 - (k : Int)).toNat = (a + 1 - ((k + 1 : Nat) : Int)).toNat + 1 := by omega
    rw [List.drop_eq_getElem_cons hlt, List.take_succ_cons, List.reverse_cons, ← e2]
    congr 1
    simp only [List.filterMap_cons, List.filterMap_nil, e]
    rw [List.getElem?_toArray, List.getElem?_eq_getElem hlt]
theorem getItem_tuple_neg {t sl : Addr} {xs : List Value} {vl vu vs : Value} {lo hi : Option Int} {Q : Value → Shared → Prop} (ht : IsTup s.heap t xs.toArray) (hs : s.heap.IsSliceOf sl vl vu vs) (pl : IsPart vl lo) (pu : IsPart vu hi) (ps : IsPart vs (some (-1))) {a b : Int}
    (hab : Builtin.Slice.sliceAdjust lo hi (-1) (xs.length : Int) = (a, b)) (hb : -1 ≤ b) (ha : a < xs.length)
    (h : Q (.ref s.heap.objs.size) { s with heap := s.heap.push { cls := .type "tuple", data := .seq ((xs.drop (b + 1).toNat).take (a - b).toNat).reverse.toArray } })
    (hsz : xs.length ≤ sizeLine) : wpAny (model prog w) A (getItem (.ref t) (.ref sl)) Q E s := by
  have htake : sizeOk (.seq ((xs.drop (b + 1).toNat).take (a - b).toNat).reverse.toArray) := by
    show ((xs.drop (b + 1).toNat).take (a - b).toNat).reverse.toArray.size ≤ sizeLine
    rw [List.size_toArray, List.length_reverse, List.length_take, List.length_drop]
    omega
  obtain ⟨os, hos, hcs, hds⟩ := id hs
  have hTs : s.TypeIs (.ref sl) "slice" := ⟨os, hos, hcs⟩
  unfold getItem
  try with_reducible refine wpAny_holding ?_
  first | refine wpAny_bind (wpAny_pure ?_) | skip
  refine wpAny_bind (wpAny_sequenceKey ht.typeIs (by decide) ?_)
  refine wpAny_bind (wpAny_callSpecial?_slot (name := Str.ofString "__getitem__") ht.typeIs PyProof.Rows.slot_tuple_getitem
    (wpAny_call_entry PyProof.Rows.slot_tuple_getitem ht.typeIs entry_tuple_getitem ?_ (args_tuple_getitem _ _)))
  show wpAny _ _ (Builtin.Tuple.tupleItemsOf (.ref t) >>= _) _ _ s
  refine wpAny_bind (tupleItemsOf_ ht ?_)
  refine wpAny_bind (wpAny_typeOf hTs ?_)
  rw [if_pos (by decide)]
  have hpl : Builtin.Slice.slicePlaces a b (-1) = (a - b).toNat := by
    unfold Builtin.Slice.slicePlaces
    have h1 : ¬ ((-1 : Int) > 0) := by decide
    simp only [h1, if_false]
    split
    · rw [show (- -1 : Int) = 1 by decide, Int.ediv_one]; omega
    · omega
  have app : ∀ {Q' : Int × Int × Nat → Shared → Prop} {A' : Around} {E' : Value → Shared → Prop}, Q' (a, -1, (a - b).toNat) s → wpAny (model prog w) A' (Builtin.Slice.sliceApplied (.ref sl) (pure ((xs.toArray.size : Nat) : Int))) Q' E' s := fun {Q' A' E'} hq => by
    unfold Builtin.Slice.sliceApplied Builtin.Slice.sliceFields
    refine wpAny_bind (wpAny_bind (wpAny_field hos hds (x := vl) rfl (wpAny_bind (wpAny_field hos hds (x := vu) rfl (wpAny_bind (wpAny_field hos hds (x := vs) rfl (wpAny_pure ?_)))))))
    refine wpAny_bind (HT.slicePart_ ps ?_)
    show wpAny _ _ (if ((-1 : Int) == 0) = true then _ else _) _ _ s
    rw [if_neg (by decide)]
    refine wpAny_bind (HT.slicePart_ pl (wpAny_bind (HT.slicePart_ pu (wpAny_bind (wpAny_pure ?_)))))
    show wpAny _ _ (match Builtin.Slice.sliceAdjust lo hi (-1) ((xs.toArray.size : Nat) : Int) with | (lo, hi) => pure (lo, (-1 : Int), Builtin.Slice.slicePlaces lo hi (-1))) _ _ s
    rw [List.size_toArray, hab]
    show wpAny _ _ (pure (a, (-1 : Int), Builtin.Slice.slicePlaces a b (-1))) _ _ s
    rw [hpl]
    exact wpAny_pure hq
  refine wpAny_bind (app ?_)
  have hno : ¬ ((a == 0 && (-1 : Int) == 1 && (a - b).toNat == xs.toArray.size) = true) := by
    intro q
    rw [Bool.and_eq_true, Bool.and_eq_true] at q
    exact absurd q.1.2 (by decide)
  show wpAny _ _ (if (a == 0 && (-1 : Int) == 1 && (a - b).toNat == xs.toArray.size) = true then _ else _) _ _ s
  rw [if_neg hno]
  have hk : ((List.range (a - b).toNat).filterMap fun (m : Nat) => xs.toArray[(a + (m : Int) * (-1)).toNat]?) = ((xs.drop (b + 1).toNat).take (a - b).toNat).reverse := by
    by_cases hab' : b ≤ a
    · rw [pick_neg xs a _ (by omega) ha]
      congr 3
      omega
    · have : (a - b).toNat = 0 := by omega
      rw [this]; simp
  rw [hk]
  first
    | exact wpAny_bind (m := Builtin.Tuple.tupleExact _) (wpAny_newObj_type (wpAny_pure ⟨_, rfl, wpAny_pure h⟩) htake)
    | exact wpAny_bind (m := Builtin.Tuple.tupleExact _) (wpAny_newObj_type (wpAny_bind (wpAny_pure (wpAny_pure ⟨_, rfl, wpAny_pure h⟩))) htake)
    | exact wpAny_bind (wpAny_bind (m := Builtin.Tuple.tupleExact _) (wpAny_newObj_type (wpAny_pure (wpAny_pure ⟨_, rfl, wpAny_pure h⟩)) htake))
    | exact wpAny_bind (wpAny_bind (m := Builtin.Tuple.tupleExact _) (wpAny_newObj_type (wpAny_pure ⟨_, rfl, wpAny_pure h⟩) htake))
end

theorem mem_nub {α : Type} [DecidableEq α] : ∀ {l : List α} {x : α}, x ∈ nub l ↔ x ∈ l
  | [], x => Iff.rfl
  | y :: r, x => by
    unfold nub
    split
    · rename_i h
      rw [mem_nub, List.mem_cons]
      exact ⟨.inr, fun z => z.elim (fun e => by rw [e]; exact h) id⟩
    · rw [List.mem_cons, List.mem_cons, mem_nub]
theorem nub_nodup {α : Type} [DecidableEq α] : ∀ l : List α, (nub l).Nodup
  | [] => List.nodup_nil
  | y :: r => by
    unfold nub
    split
    · exact nub_nodup r
    · rename_i h
      exact List.nodup_cons.mpr ⟨fun z => h (mem_nub.mp z), nub_nodup r⟩
theorem nodup_le {α : Type} [DecidableEq α] : ∀ {l m : List α}, l.Nodup → (∀ x ∈ l, x ∈ m) → l.length ≤ m.length
  | [], _, _, _ => Nat.zero_le _
  | x :: r, m, h, k => by
    obtain ⟨h1, h2⟩ := List.nodup_cons.mp h
    have hx := k x List.mem_cons_self
    have := nodup_le (m := m.erase x) h2 fun y hy => (List.mem_erase_of_ne (fun (e : y = x) => h1 (by rw [← e]; exact hy))).mpr (k y (List.mem_cons_of_mem _ hy))
    rw [List.length_erase_of_mem hx] at this
    have : 0 < m.length := List.length_pos_of_mem hx
    rw [List.length_cons]
    omega
theorem nub_len {α : Type} [DecidableEq α] {l m : List α} (h : m.Nodup) (k : ∀ x, x ∈ m ↔ x ∈ l) : m.length = (nub l).length :=
  Nat.le_antisymm (nodup_le h fun x hx => mem_nub.mpr ((k x).mp hx)) (nodup_le (nub_nodup l) fun x hx => (k x).mpr (mem_nub.mp hx))
theorem met_ok (val : Nat → Int) : ∀ i, (firstMet val i).Nodup ∧ ∀ x, x ∈ firstMet val i ↔ ∃ j, j < i ∧ val j = x
  | 0 => ⟨by rw [firstMet_zero]; exact List.nodup_nil, fun x => by rw [firstMet_zero]; simp⟩
  | i + 1 => by
    obtain ⟨h1, h2⟩ := met_ok val i
    rw [firstMet_succ]
    unfold step_dedup
    have hm : ((firstMet val i).any (· == val i) = true) ↔ val i ∈ firstMet val i := by simp
    by_cases h : (firstMet val i).any (· == val i) = true
    · rw [if_pos h]
      refine ⟨h1, fun x => ?_⟩
      rw [h2]
      refine ⟨fun ⟨j, a, b⟩ => ⟨j, by omega, b⟩, fun ⟨j, a, b⟩ => ?_⟩
      by_cases e : j = i
      · subst e
        obtain ⟨j', a', b'⟩ := (h2 _).mp (hm.mp h)
        exact ⟨j', a', b'.trans b⟩
      · exact ⟨j, by omega, b⟩
    · rw [if_neg h]
      have hn : val i ∉ firstMet val i := fun z => h (hm.mpr z)
      refine ⟨List.nodup_append.mpr ⟨h1, by simp, fun a ha b hb e => ?_⟩, fun x => ?_⟩
      · rw [List.mem_singleton] at hb
        subst hb
        exact hn (e ▸ ha)
      · rw [List.mem_append, h2, List.mem_singleton]
        refine ⟨fun z => z.elim (fun ⟨j, a, b⟩ => ⟨j, by omega, b⟩) fun e => ⟨i, by omega, e.symm⟩, fun ⟨j, a, b⟩ => ?_⟩
        by_cases e : j = i
        · subst e; exact .inr b.symm
        · exact .inl ⟨j, by omega, b⟩
theorem met_len (ns : List Int) : (firstMet (fun i => ns.getD i 0) ns.length).length = (nub ns).length := by
  obtain ⟨h1, h2⟩ := met_ok (fun i => ns.getD i 0) ns.length
  refine nub_len h1 fun x => ?_
  rw [h2]
  refine ⟨fun ⟨j, a, b⟩ => ?_, fun h => ?_⟩
  · rw [← b, List.getD_eq_getElem?_getD, List.getElem?_eq_getElem a]
    exact List.getElem_mem a
  · obtain ⟨j, a, b⟩ := List.getElem_of_mem h
    exact ⟨j, a, by show ns.getD j 0 = x; rw [List.getD_eq_getElem?_getD, List.getElem?_eq_getElem a]; exact b⟩
def SetN (h : Heap) (a : Addr) (n : Nat) : Prop := ∃ o es ep t, h.get? a = some o ∧ o.ExactSet ∧ o.data = .set es ep t ∧ t.fits es.size = true ∧ es.size = n
section
variable {prog : Program} {w : World} {A : Around} {E : Value → Shared → Prop} {s : Shared}
theorem set_listI {l : Addr} {items : Array Value} {ns : List Int} {Q : Value → Shared → Prop} (hh : A.handled = none) (hl : s.heap.IsList l items) (hi : IntsAre items.toList ns) (hb : ns.length < 64)
    (h : ∀ (h' : Heap) (tk : Nat), SetN h' s.heap.objs.size (nub ns).length → (∀ b o, s.heap.get? b = some o → h'.get? b = some o) → Q (.ref s.heap.objs.size) { s with heap := h', toks := tk }) :
    wpAny (model prog w) A (call (.type "set") [.ref l]) Q E s := by
  have hn : items.size = ns.length := by
    have q := IntsAre.length hi
    rw [Array.length_toList] at q
    exact q
  refine call_set_list hh hl hi (by unfold scanBound; omega) fun h' tk hS hk => ?_
  rw [hn, met_len] at hS
  obtain ⟨o, es, ep, t, ho, hex, hd, _, _, _, hf, hn⟩ := hS
  exact h h' tk ⟨o, es, ep, t, ho, hex, hd, hf, hn⟩ fun b o e => hk b o (Heap.lt_size e) e
theorem set_tupI {l : Addr} {items : Array Value} {ns : List Int} {Q : Value → Shared → Prop} (hh : A.handled = none) (hl : s.heap.IsTuple l items) (hi : IntsAre items.toList ns) (hb : ns.length < 64)
    (h : ∀ (h' : Heap) (tk : Nat), SetN h' s.heap.objs.size (nub ns).length → L2.SetR w h' s.heap.objs.size (fun j => decide (j ∈ ns)) (nub ns).length → (∀ b o, s.heap.get? b = some o → h'.get? b = some o) → Q (.ref s.heap.objs.size) { s with heap := h', toks := tk }) :
    wpAny (model prog w) A (call (.type "set") [.ref l]) Q E s := by
  refine L2.call_set_tupI ns hh hl hi (by unfold scanBound; omega) fun h' tk c R hc k => ?_
  have R' := R
  obtain ⟨o, es, ep, t, ho, hex, hd, g, nd, hm, hb, hf, hn, hr, hl⟩ := R
  have e : c = (nub ns).length := by
    rw [← hn]
    have := nub_len (l := ns) nd fun x => by rw [← hm]; simp
    rw [List.length_map, Array.length_toList] at this
    exact this
  subst e
  exact h h' tk ⟨o, es, ep, t, ho, hex, hd, hf, hn⟩ R' k
theorem set_listT {l : Addr} {items : Array Value} (ks : List (Addr × List Int)) {Q : Value → Shared → Prop} (hh : A.handled = none) (hl : s.heap.IsList l items) (hit : items.toList = ks.map fun p => Value.ref p.1)
    (hk : ∀ p ∈ ks, L2.IsT prog w s.heap p.2 p.1) (hb : ks.length < 64) (hu : A.units + 3 < cLine)
    (h : ∀ (h' : Heap) (tk : Nat), SetN h' s.heap.objs.size (nub (ks.map (·.2))).length → (∀ b o, s.heap.get? b = some o → h'.get? b = some o) → Q (.ref s.heap.objs.size) { s with heap := h', toks := tk }) :
    wpAny (model prog w) A (call (.type "set") [.ref l]) Q E s := by
  refine L2.call_set_tups ks hh hl hit hk hb hu fun h' tk L es ep t R g k => ?_
  have R1 : L2.SetTR prog w ({ s with heap := h' } : Shared).heap s.heap.objs.size L es ep t := R
  obtain ⟨o, ho, hex, hd⟩ := R.ob
  refine h h' tk ⟨o, es, ep, t, ho, hex, hd, R1.fits, ?_⟩ k
  rw [R1.size]
  have := nub_len (l := ks.map (·.2)) R.nd fun x => ⟨fun hx => ?_, fun hx => ?_⟩
  · rw [List.length_map] at this
    exact this
  · obtain ⟨p, hp, rfl⟩ := List.mem_map.mp hx
    exact List.mem_map.mpr ⟨p, List.mem_of_mem_take (g.sub p hp), rfl⟩
  · obtain ⟨p, hp, rfl⟩ := List.mem_map.mp hx
    exact g.all p (by rw [List.take_length]; exact hp)
end
end Tl

namespace Tl
open PySem L2

section
variable {α : Type} {le : α → α → Bool}
theorem insD_perm (x : α) : ∀ l : List α, (insD le x l).Perm (x :: l)
  | [] => List.Perm.refl _
  | y :: r => by
    unfold insD
    split
    · exact List.Perm.refl _
    · exact ((insD_perm x r).cons y).trans (List.Perm.swap x y r)
theorem sortD_perm : ∀ l : List α, (sortD le l).Perm l
  | [] => List.Perm.refl _
  | x :: r => (insD_perm x _).trans ((sortD_perm r).cons x)
theorem insD_sorted (tot : ∀ a b, le a b = true ∨ le b a = true) (tr : ∀ a b c, le a b = true → le b c = true → le a c = true) (x : α) : ∀ l : List α, l.Pairwise (fun a b => le a b = true) → (insD le x l).Pairwise (fun a b => le a b = true)
  | [], _ => List.pairwise_singleton _ _
  | y :: r, h => by
    unfold insD
    rw [List.pairwise_cons] at h
    split
    · rename_i e
      refine List.pairwise_cons.mpr ⟨fun z hz => ?_, List.pairwise_cons.mpr h⟩
      rcases List.mem_cons.mp hz with rfl | hz
      · exact e
      · exact tr _ _ _ e (h.1 z hz)
    · rename_i e
      refine List.pairwise_cons.mpr ⟨fun z hz => ?_, insD_sorted tot tr x r h.2⟩
      rcases List.mem_cons.mp ((insD_perm x r).mem_iff.mp hz) with rfl | hz
      · exact (tot y z).resolve_right e
      · exact h.1 z hz
theorem sortD_sorted (tot : ∀ a b, le a b = true ∨ le b a = true) (tr : ∀ a b c, le a b = true → le b c = true → le a c = true) : ∀ l : List α, (sortD le l).Pairwise (fun a b => le a b = true)
  | [] => List.Pairwise.nil
  | x :: r => insD_sorted tot tr x _ (sortD_sorted tot tr r)
end
theorem sortI_perm (ns : List Int) : (sortI ns).Perm ns := sortD_perm ns
theorem sortI_sorted (ns : List Int) : (sortI ns).Pairwise (· ≤ ·) :=
  (sortD_sorted (le := fun a b : Int => decide (a ≤ b)) (fun a b => by simp only [decide_eq_true_eq]; omega) (fun a b c => by simp only [decide_eq_true_eq]; omega) ns).imp fun h => of_decide_eq_true h
theorem sortI_eq {ns ms : List Int} (p : ms.Perm ns) (h : ms.Pairwise (· ≤ ·)) : ms = sortI ns := PySem.W.ksm_same (p.trans (sortI_perm ns).symm) h (sortI_sorted ns)
theorem lexLe_total : ∀ a b : List Int, lexLe a b = true ∨ lexLe b a = true
  | [], _ => .inl rfl
  | _ :: _, [] => .inr rfl
  | x :: xs, y :: ys => by
    unfold lexLe
    by_cases h : x = y
    · subst h
      rw [if_pos rfl, if_pos rfl]
      exact lexLe_total xs ys
    · rw [if_neg h, if_neg (fun z => h z.symm)]
      simp only [decide_eq_true_eq]
      omega
theorem lexLe_trans : ∀ a b c : List Int, lexLe a b = true → lexLe b c = true → lexLe a c = true
  | [], _, _, _, _ => rfl
  | _ :: _, [], _, h, _ => by cases h
  | _ :: _, _ :: _, [], _, h => by cases h
  | x :: xs, y :: ys, z :: zs, h, k => by
    unfold lexLe at h k ⊢
    by_cases e : x = y
    · subst e
      rw [if_pos rfl] at h
      by_cases e2 : x = z
      · subst e2
        rw [if_pos rfl] at k ⊢
        exact lexLe_trans xs ys zs h k
      · rw [if_neg e2] at k ⊢
        exact k
    · rw [if_neg e] at h
      have h := of_decide_eq_true h
      by_cases e2 : y = z
      · subst e2
        rw [if_neg e]
        exact decide_eq_true h
      · rw [if_neg e2] at k
        have k := of_decide_eq_true k
        rw [if_neg (by omega)]
        exact decide_eq_true (by omega)
theorem lexLe_anti : ∀ a b : List Int, lexLe a b = true → lexLe b a = true → a = b
  | [], [], _, _ => rfl
  | [], _ :: _, _, h => by cases h
  | _ :: _, [], h, _ => by cases h
  | x :: xs, y :: ys, h, k => by
    unfold lexLe at h k
    by_cases e : x = y
    · subst e
      rw [if_pos rfl] at h k
      rw [lexLe_anti xs ys h k]
    · rw [if_neg e] at h
      rw [if_neg (fun z => e z.symm)] at k
      have h := of_decide_eq_true h
      have k := of_decide_eq_true k
      omega
theorem sortT_perm (ls : List (List Int)) : (sortT ls).Perm ls := sortD_perm ls
theorem sortT_sorted (ls : List (List Int)) : (sortT ls).Pairwise (fun a b => lexLe a b = true) := sortD_sorted lexLe_total lexLe_trans ls
theorem sortT_eq {ns ms : List (List Int)} (p : ms.Perm ns) (h : ms.Pairwise (fun a b => lexLe a b = true)) : ms = sortT ns :=
  (p.trans (sortT_perm ns).symm).eq_of_pairwise (fun a b _ _ h1 h2 => lexLe_anti a b h1 h2) h (sortT_sorted ns)
theorem code_lex {B : Int} : ∀ {a b : List Int}, a.length = b.length → TS.Bd B a → TS.Bd B b → TS.code B a ≤ TS.code B b → lexLe a b = true
  | [], _, _, _, _, _ => rfl
  | _ :: _, [], hl, _, _, _ => by cases hl
  | x :: xs, y :: ys, hl, ha, hb, h => by
    have hl' : xs.length = ys.length := Nat.succ.inj hl
    unfold lexLe
    by_cases e : x = y
    · subst e
      rw [if_pos rfl]
      refine code_lex hl' ha.tail hb.tail ?_
      have e : ¬ TS.code B ys < TS.code B xs := fun z => by
        have := (TS.code_same (d := x) hl'.symm).mpr z
        omega
      omega
    · rw [if_neg e]
      refine decide_eq_true ?_
      have : ¬ y < x := fun z => by
        have := TS.code_lt hl'.symm hb.tail ha.tail z
        omega
      omega

theorem maxI_spec : ∀ (ns : List Int) (m : Int), maxI m ns ∈ m :: ns ∧ ∀ y ∈ m :: ns, y ≤ maxI m ns
  | [], m => by simp [maxI]
  | x :: r, m => by
    obtain ⟨h1, h2⟩ := maxI_spec r (if x > m then x else m)
    unfold maxI
    refine ⟨?_, fun y hy => ?_⟩
    · rcases List.mem_cons.mp h1 with e | e
      · rw [e]
        split <;> simp
      · exact List.mem_cons_of_mem _ (List.mem_cons_of_mem _ e)
    · have h3 := h2 (if x > m then x else m) List.mem_cons_self
      rcases List.mem_cons.mp hy with rfl | hy
      · by_cases hx : x > y
        · rw [if_pos hx] at h3 ⊢; omega
        · rw [if_neg hx] at h3 ⊢; omega
      · rcases List.mem_cons.mp hy with rfl | hy
        · by_cases hx : y > m
          · rw [if_pos hx] at h3 ⊢; omega
          · rw [if_neg hx] at h3 ⊢; omega
        · exact h2 y (List.mem_cons_of_mem _ hy)
theorem minI_spec : ∀ (ns : List Int) (m : Int), minI m ns ∈ m :: ns ∧ ∀ y ∈ m :: ns, minI m ns ≤ y
  | [], m => by simp [minI]
  | x :: r, m => by
    obtain ⟨h1, h2⟩ := minI_spec r (if x < m then x else m)
    unfold minI
    refine ⟨?_, fun y hy => ?_⟩
    · rcases List.mem_cons.mp h1 with e | e
      · rw [e]
        split <;> simp
      · exact List.mem_cons_of_mem _ (List.mem_cons_of_mem _ e)
    · have h3 := h2 (if x < m then x else m) List.mem_cons_self
      rcases List.mem_cons.mp hy with rfl | hy
      · by_cases hx : x < y
        · rw [if_pos hx] at h3 ⊢; omega
        · rw [if_neg hx] at h3 ⊢; omega
      · rcases List.mem_cons.mp hy with rfl | hy
        · by_cases hx : y < m
          · rw [if_pos hx] at h3 ⊢; omega
          · rw [if_neg hx] at h3 ⊢; omega
        · exact h2 y (List.mem_cons_of_mem _ hy)

variable {X : Cx}
theorem Dens.at {K : PySem.W.Frag} {G : Hp} {vs : List V} {ds : List D} {i : Int} {d : D} (h : Dens K G vs ds) (e : atD ds i = some d) : ∃ v, atI vs i = some v ∧ Den K G v d := by
  unfold atD at e
  unfold atI
  have e1 : ∀ n, ixN n i = ixD n i := fun n => rfl
  rw [e1, h.len]
  cases q : ixD ds.length i with
  | none => rw [q] at e; cases e
  | some j =>
    rw [q] at e
    exact h.get e
theorem ix_any : IxR X (rD X.K fun x y => (subD x y).map .v) := by
  intro value slice pins s σ H x y v u Q I rx ry h hs
  obtain ⟨G, dx, dy, rv, sm, cx, cy, e, f⟩ := h
  obtain ⟨d, e1, e2⟩ := Option.map_eq_some_iff.mp e
  subst e2
  clear e
  cases dx <;> cases dy <;> first | (cases e1; done) | skip
  · obtain ⟨a, vs, ea, ha, da⟩ := cx.list sm
    obtain ⟨w, h1, h2⟩ := da.at e1
    exact ix_list value slice pins s σ H x y v u Q I rx ry ⟨a, vs, _, w, ea, cy.int, .inl (.inl ha), h1, f.now sm h2⟩ hs
  · obtain ⟨a, vs, ea, ha, da⟩ := cx.tuple sm
    obtain ⟨w, h1, h2⟩ := da.at e1
    exact ix_tup value slice pins s σ H x y v u Q I rx ry ⟨a, vs, _, w, ea, cy.int, ha, h1, f.now sm h2⟩ hs

def rSlD (K : PySem.W.Frag) : V → Option Int → Option Int → Hp → VK → Prop := fun x lo hi H Q => ∃ G dx rv, Same G H ∧ Cur K G H x dx ∧ sliceR dx lo hi = some rv ∧ Fin K G H rv Q
theorem sl_any : SlR X (rSlD X.K) := by
  intro pins s σ H x v vl vu lo hi sl Q I rx h1 h2 h3 h
  obtain ⟨G, dx, rv, sm, cx, e, f⟩ := h
  cases dx <;> first | (cases e; done) | skip
  · cases e
    obtain ⟨a, vs, ea, ha, da⟩ := cx.list sm
    exact sl_list pins s σ H x v vl vu lo hi sl Q I rx h1 h2 h3 ⟨a, vs, ea, .inl (.inl ha), fun p hp => f.newL sm (da.cut lo hi) p hp⟩
  · rename_i xs
    cases e
    obtain ⟨a, vs, ea, ha, da⟩ := cx.tuple sm
    refine sl_tupA pins s σ H x v vl vu lo hi sl Q I rx h1 h2 h3 ⟨a, vs, ea, ha, fun z => ?_, fun _ p hp => f.newT sm (da.cut lo hi) p hp⟩
    have c : cutD xs lo hi = xs := by
      have e : ∀ n d o, HT.sIx n d o = sIxD n d o := fun n d o => by cases o <;> rfl
      rw [e, e, da.len] at z
      unfold cutD
      rw [z.1, z.2, List.drop_zero, Nat.sub_zero, List.take_length]
    rw [c] at f
    rw [← ea]
    exact f.now sm cx.tup
theorem ints_cut (ns : List Int) (lo hi : Option Int) : cutV (ns.map V.int) lo hi = (cutD ns lo hi).map V.int := by
  have e : ∀ n d o, HT.sIx n d o = sIxD n d o := fun n d o => by cases o <;> rfl
  unfold cutV cutD
  rw [e, e, List.length_map, List.map_take, List.map_drop]

def rB (K : PySem.W.Frag) (b : BI) : List V → Hp → VK → Prop := fun vs H Q => ∃ G ds rv, Same G H ∧ Dens K G vs ds ∧ biR b ds = some rv ∧ Fin K G H rv Q
theorem dens1 {K : PySem.W.Frag} {G : Hp} {vs : List V} {d : D} (h : Dens K G vs [d]) : ∃ v, vs = [v] ∧ Den K G v d := by
  cases h with
  | cons a r => cases r; exact ⟨_, rfl, a⟩
theorem bi_one {b : BI} {ds : List D} {rv : Rv} (h : biR b ds = some rv) (hb : b ≠ .max2) (hb2 : b ≠ .min2) (hb3 : b ≠ .min3 := by decide) : ∃ d, ds = [d] := by
  cases b <;> first | exact absurd rfl hb | exact absurd rfl hb2 | exact absurd rfl hb3 | skip
  all_goals
    cases ds with
    | nil => cases h
    | cons d r =>
      cases r with
      | nil => exact ⟨d, rfl⟩
      | cons e r => cases d <;> cases h
theorem call_Len : CallR X (.builtin "len") (rB X.K .len) := by
  intro pins s σ H vs us Q I rv h
  obtain ⟨G, ds, r, sm, hd, e, f⟩ := h
  obtain ⟨d, rfl⟩ := bi_one e (by decide) (by decide)
  obtain ⟨v, rfl, hv⟩ := dens1 hd
  obtain ⟨n, e, rfl⟩ := Option.map_eq_some_iff.mp e
  cases hv with
  | lst h k =>
    cases e
    refine call_len pins s σ H _ us Q I rv ⟨_, _, rfl, .inl ⟨_, .inl (.inl (sm _ _ h)), k.len.symm⟩, f.now sm (.int _)⟩
  | tup h k =>
    cases e
    refine call_len pins s σ H _ us Q I rv ⟨_, _, rfl, .inr ⟨_, same_tup sm h, k.len.symm⟩, f.now sm (.int _)⟩
  | non => cases e
  | bl _ => cases e
  | int _ => cases e
  | str _ => cases e
theorem call_Max2 (hc : X.calm = true) : CallR X (.builtin "max") (rB X.K .max2) := by
  intro pins s σ H vs us Q I rv h
  obtain ⟨G, ds, r, sm, hd, e, f⟩ := h
  cases hd with
  | nil => cases e
  | cons a hd =>
    cases hd with
    | nil => cases a <;> cases e
    | cons b hd =>
      cases hd with
      | cons _ _ => cases a <;> first | (cases e; done) | (cases b <;> cases e)
      | nil =>
        cases a <;> cases b <;> first | (cases e; done) | skip
        cases e
        exact call_max2 hc pins s σ H _ us Q I rv ⟨_, _, rfl, f.now sm (.int _)⟩
theorem call_Min2 (hc : X.calm = true) : CallR X (.builtin "min") (rB X.K .min2) := by
  intro pins s σ H vs us Q I rv h
  obtain ⟨G, ds, r, sm, hd, e, f⟩ := h
  cases hd with
  | nil => cases e
  | cons a hd =>
    cases hd with
    | nil => cases a <;> cases e
    | cons b hd =>
      cases hd with
      | cons _ _ => cases a <;> first | (cases e; done) | (cases b <;> cases e)
      | nil =>
        cases a <;> cases b <;> first | (cases e; done) | skip
        cases e
        exact call_min2 hc pins s σ H _ us Q I rv ⟨_, _, rfl, f.now sm (.int _)⟩
theorem call_Min3 (hc : X.calm = true) : CallR X (.builtin "min") (rB X.K .min3) := by
  intro pins s σ H vs us Q I rv h
  obtain ⟨G, ds, r, sm, hd, e, f⟩ := h
  cases hd with
  | nil => cases e
  | cons a hd =>
    cases hd with
    | nil => cases a <;> cases e
    | cons b hd =>
      cases hd with
      | nil => cases a <;> first | (cases e; done) | (cases b <;> cases e)
      | cons c hd =>
        cases hd with
        | cons _ _ => cases a <;> first | (cases e; done) | (cases b <;> first | (cases e; done) | (cases c <;> cases e))
        | nil =>
          cases a <;> cases b <;> cases c <;> first | (cases e; done) | skip
          rename_i i j k
          cases e
          refine call_min3Nu hc pins s σ H _ us Q I rv ⟨_, _, _, .int (if k < (if j < i then j else i) then k else if j < i then j else i), rfl, ?_, f.now sm (.int _)⟩
          have e1 : nuMin2 (.int i) (.int j) = some (.int (if j < i then j else i)) := by
            show some (if decide (j < i) = true then V.int j else V.int i) = _
            by_cases h : j < i
            · rw [if_pos (decide_eq_true h), if_pos h]
            · rw [if_neg (by simpa using h), if_neg h]
          have e2 : ∀ m, nuMin2 (.int m) (.int k) = some (.int (if k < m then k else m)) := fun m => by
            show some (if decide (k < m) = true then V.int k else V.int m) = _
            by_cases h : k < m
            · rw [if_pos (decide_eq_true h), if_pos h]
            · rw [if_neg (by simpa using h), if_neg h]
          show (nuMin2 (.int i) (.int j)).bind (fun m => nuMin2 m (.int k)) = _
          rw [e1, Option.bind_some, e2]
theorem seq_ints {K : PySem.W.Frag} {G : Hp} {v : V} {d : D} {ns : List Int} (hv : Den K G v d) (e : (seqD d).bind allInts = some ns) : ∃ a, v = .ref a ∧ (G a = some (.lst (ns.map V.int)) ∨ SqT K G a (ns.map V.int)) := by
  cases hv with
  | lst h k =>
    have e1 := (k.ints e).1
    subst e1
    exact ⟨_, rfl, .inl h⟩
  | tup h k =>
    have e1 := (k.ints e).1
    subst e1
    exact ⟨_, rfl, .inr h⟩
  | non => cases e
  | bl _ => cases e
  | int _ => cases e
  | str _ => cases e
theorem alike_ints (n : Int) (ns : List Int) : PySem.W.AlikeAll (.int n :: ns.map .int) := by
  rw [← List.map_cons (f := PyData.int)]
  refine ⟨fun x hx y hy => ?_, fun x hx => ?_⟩
  · obtain ⟨i, _, rfl⟩ := List.mem_map.mp hx
    obtain ⟨j, _, rfl⟩ := List.mem_map.mp hy
    rfl
  · obtain ⟨i, _, rfl⟩ := List.mem_map.mp hx
    exact fun z => nomatch z
theorem fold_max : ∀ (ns : List Int) (n : Int), ns.foldl max n = maxI n ns
  | [], n => rfl
  | x :: r, n => by
    rw [List.foldl_cons, fold_max r, maxI]
    congr 1
    split <;> omega
theorem fold_min : ∀ (ns : List Int) (n : Int), ns.foldl min n = minI n ns
  | [], n => rfl
  | x :: r, n => by
    rw [List.foldl_cons, fold_min r, minI]
    congr 1
    split <;> omega
theorem call_MaxL (hc : X.calm = true) (hu : X.A.units + 64 < cLine) : CallR X (.builtin "max") (rB X.K .maxL) := by
  intro pins s σ H vs us Q I rv h
  obtain ⟨G, ds, r, sm, hd, e, f⟩ := h
  obtain ⟨d, rfl⟩ := bi_one e (by decide) (by decide)
  obtain ⟨v, rfl, hv⟩ := dens1 hd
  simp only [biR] at e
  split at e
  · rename_i n ns hi
    cases e
    obtain ⟨a, rfl, h1 | h1⟩ := seq_ints hv hi
    · refine cr_max hc pins s σ H _ us Q I rv ⟨_, n :: ns, rfl, .inl (.inl (sm _ _ h1)), Nat.succ_pos _, fun m hm hy => ?_⟩
      obtain ⟨k1, k2⟩ := maxI_spec ns n
      have : m = maxI n ns := Int.le_antisymm (k2 m hm) (hy _ k1)
      subst this
      exact f.now sm (.int _)
    · obtain ⟨its, rv2, p, _⟩ := I.tuple (same_tup sm h1)
      obtain ⟨as, ra⟩ := Dp.readsAll I ((n :: ns).map .int) _ its (Dens.of_ints (K := X.K) (G := H) (n :: ns)).dp rv2
      rw [Vals.ref1 rv]
      refine PySem.W.max_tuple_data (I.ok.hd hc) (show s.heap.IsTuple a its.toArray from p) (x := .int n) (xs := ns.map .int) (as := as) (by simpa using ra) (alike_ints n ns) (by rw [← List.map_cons (f := PyData.int), PySem.W.depth_ints]; omega) fun i v h' tk bs hv hr hk => ?_
      rw [PySem.W.maxD_ints, fold_max] at hr
      cases hr
      exact ⟨.int _, H, I.kept hk, ⟨_, rfl⟩, f.now sm (.int _)⟩
  · cases e
theorem call_MinL (hc : X.calm = true) (hu : X.A.units + 64 < cLine) : CallR X (.builtin "min") (rB X.K .minL) := by
  intro pins s σ H vs us Q I rv h
  obtain ⟨G, ds, r, sm, hd, e, f⟩ := h
  obtain ⟨d, rfl⟩ := bi_one e (by decide) (by decide)
  obtain ⟨v, rfl, hv⟩ := dens1 hd
  simp only [biR] at e
  split at e
  · rename_i n ns hi
    cases e
    obtain ⟨a, rfl, h1 | h1⟩ := seq_ints hv hi
    · refine cr_min hc pins s σ H _ us Q I rv ⟨_, n :: ns, rfl, .inl (.inl (sm _ _ h1)), Nat.succ_pos _, fun m hm hy => ?_⟩
      obtain ⟨k1, k2⟩ := minI_spec ns n
      have : m = minI n ns := Int.le_antisymm (hy _ k1) (k2 m hm)
      subst this
      exact f.now sm (.int _)
    · obtain ⟨its, rv2, p, _⟩ := I.tuple (same_tup sm h1)
      obtain ⟨as, ra⟩ := Dp.readsAll I ((n :: ns).map .int) _ its (Dens.of_ints (K := X.K) (G := H) (n :: ns)).dp rv2
      rw [Vals.ref1 rv]
      refine PySem.W.min_tuple_data (I.ok.hd hc) (show s.heap.IsTuple a its.toArray from p) (x := .int n) (xs := ns.map .int) (as := as) (by simpa using ra) (alike_ints n ns) (by rw [← List.map_cons (f := PyData.int), PySem.W.depth_ints]; omega) fun i v h' tk bs hv hr hk => ?_
      rw [PySem.W.minD_ints, fold_min] at hr
      cases hr
      exact ⟨.int _, H, I.kept hk, ⟨_, rfl⟩, f.now sm (.int _)⟩
  · cases e
theorem call_Sum (hc : X.calm = true) : CallR X (.builtin "sum") (rB X.K .sumL) := by
  intro pins s σ H vs us Q I rv h
  obtain ⟨G, ds, r, sm, hd, e, f⟩ := h
  obtain ⟨d, rfl⟩ := bi_one e (by decide) (by decide)
  obtain ⟨v, rfl, hv⟩ := dens1 hd
  cases hv with
  | lst h k =>
    obtain ⟨ns, hi, rfl⟩ := Option.map_eq_some_iff.mp e
    have e1 := (k.ints hi).1
    subst e1
    exact cr_sum hc pins s σ H _ us Q I rv ⟨_, ns, rfl, .inl (.inl (sm _ _ h)), f.now sm (.int _)⟩
  | tup h k => cases e
  | non => cases e
  | bl _ => cases e
  | int _ => cases e
  | str _ => cases e
theorem call_All (hc : X.calm = true) : CallR X (.builtin "all") (rB X.K .allL) := by
  intro pins s σ H vs us Q I rv h
  obtain ⟨G, ds, r, sm, hd, e, f⟩ := h
  obtain ⟨d, rfl⟩ := bi_one e (by decide) (by decide)
  obtain ⟨v, rfl, hv⟩ := dens1 hd
  cases hv with
  | lst h k =>
    obtain ⟨ns, hi, rfl⟩ := Option.map_eq_some_iff.mp e
    have e1 := k.bools hi
    subst e1
    exact cr_all hc pins s σ H _ us Q I rv ⟨_, ns, rfl, .inl (.inl (sm _ _ h)), f.now sm (.bl _)⟩
  | tup h k => cases e
  | non => cases e
  | bl _ => cases e
  | int _ => cases e
  | str _ => cases e
theorem call_Any (hc : X.calm = true) : CallR X (.builtin "any") (rB X.K .anyL) := by
  intro pins s σ H vs us Q I rv h
  obtain ⟨G, ds, r, sm, hd, e, f⟩ := h
  obtain ⟨d, rfl⟩ := bi_one e (by decide) (by decide)
  obtain ⟨v, rfl, hv⟩ := dens1 hd
  cases hv with
  | lst h k =>
    obtain ⟨ns, hi, rfl⟩ := Option.map_eq_some_iff.mp e
    have e1 := k.bools hi
    subst e1
    exact cr_any hc pins s σ H _ us Q I rv ⟨_, ns, rfl, .inl (.inl (sm _ _ h)), f.now sm (.bl _)⟩
  | tup h k => cases e
  | non => cases e
  | bl _ => cases e
  | int _ => cases e
  | str _ => cases e
theorem call_List : CallR X (.type "list") (rB X.K .list) := by
  intro pins s σ H vs us Q I rv h
  obtain ⟨G, ds, r, sm, hd, e, f⟩ := h
  obtain ⟨d, rfl⟩ := bi_one e (by decide) (by decide)
  obtain ⟨v, rfl, hv⟩ := dens1 hd
  cases hv with
  | lst h k =>
    cases e
    exact call_list_of pins s σ H _ us Q I rv ⟨_, _, rfl, .inl (.inl (.inl (sm _ _ h))), fun p hp => f.newL sm k p hp⟩
  | tup h k =>
    cases e
    exact call_list_of pins s σ H _ us Q I rv ⟨_, _, rfl, .inr (same_tup sm h), fun p hp => f.newL sm k p hp⟩
  | non => cases e
  | bl _ => cases e
  | int _ => cases e
  | str _ => cases e
theorem call_Tuple : CallR X (.type "tuple") (rB X.K .tuple) := by
  intro pins s σ H vs us Q I rv h
  obtain ⟨G, ds, r, sm, hd, e, f⟩ := h
  obtain ⟨d, rfl⟩ := bi_one e (by decide) (by decide)
  obtain ⟨v, rfl, hv⟩ := dens1 hd
  cases hv with
  | lst h k =>
    cases e
    exact call_tuple_of pins s σ H _ us Q I rv ⟨_, _, rfl, .inl ⟨.inl (.inl (sm _ _ h)), fun p hp => f.newT sm k p hp⟩⟩
  | tup h k =>
    cases e
    exact call_tuple_of pins s σ H _ us Q I rv ⟨_, _, rfl, .inr ⟨same_tup sm h, f.now sm (.tup h k)⟩⟩
  | non => cases e
  | bl _ => cases e
  | int _ => cases e
  | str _ => cases e
theorem call_Int : CallR X (.type "int") (rB X.K .int1) := by
  intro pins s σ H vs us Q I rv h
  obtain ⟨G, ds, r, sm, hd, e, f⟩ := h
  obtain ⟨d, rfl⟩ := bi_one e (by decide) (by decide)
  obtain ⟨v, rfl, hv⟩ := dens1 hd
  cases hv with
  | int i =>
    cases e
    exact call_int1 pins s σ H _ us Q I rv (.inl ⟨i, rfl, f.now sm (.int _)⟩)
  | bl b =>
    cases e
    exact call_int1 pins s σ H _ us Q I rv (.inr ⟨b, rfl, f.now sm (.int _)⟩)
  | lst h k => cases e
  | tup h k => cases e
  | non => cases e
  | str _ => cases e
theorem call_Abs : CallR X (.builtin "abs") (rB X.K .abs1) := by
  intro pins s σ H vs us Q I rv h
  obtain ⟨G, ds, r, sm, hd, e, f⟩ := h
  obtain ⟨d, rfl⟩ := bi_one e (by decide) (by decide)
  obtain ⟨v, rfl, hv⟩ := dens1 hd
  cases hv with
  | int i =>
    cases e
    exact call_abs pins s σ H _ us Q I rv ⟨i, rfl, f.now sm (.int _)⟩
  | bl b => cases e
  | lst h k => cases e
  | tup h k => cases e
  | non => cases e
  | str _ => cases e

inductive Trs (K : PySem.W.Frag) (G : Hp) : List V → List (List Int) → Prop
  | nil : Trs K G [] []
  | cons {v : V} {vs : List V} {n : List Int} {ns : List (List Int)} : Den K G v (tupOf n) → Trs K G vs ns → Trs K G (v :: vs) (n :: ns)
theorem Dens.trs {K : PySem.W.Frag} {G : Hp} : ∀ {vs : List V} {ds : List D} {ls : List (List Int)}, Dens K G vs ds → tupInts ds = some ls → Trs K G vs ls
  | _, _, _, .nil, h => by cases h; exact .nil
  | _, _, _, .cons a r, h => by
    cases a with
    | tup h1 h2 =>
      simp only [tupInts] at h
      split at h
      · rename_i n rs e1 e2
        cases h
        refine .cons ?_ (Dens.trs r e2)
        have e3 := (h2.ints e1).2
        unfold tupOf
        rw [← e3]
        exact .tup h1 h2
      · cases h
    | non => cases h
    | bl _ => cases h
    | int _ => cases h
    | str _ => cases h
    | lst _ _ => cases h
theorem Trs.dens {K : PySem.W.Frag} {G : Hp} : ∀ {vs : List V} {ls : List (List Int)}, Trs K G vs ls → Dens K G vs (ls.map tupOf)
  | _, _, .nil => .nil
  | _, _, .cons a r => .cons a (Trs.dens r)
theorem Trs.mem {K : PySem.W.Frag} {G : Hp} : ∀ {vs : List V} {ls : List (List Int)} {v : V}, Trs K G vs ls → v ∈ vs → ∃ n ∈ ls, Den K G v (tupOf n)
  | _, _, _, .nil, h => by cases h
  | _, _, _, .cons a r, h => by
    rcases List.mem_cons.mp h with rfl | h
    · exact ⟨_, List.mem_cons_self, a⟩
    · obtain ⟨n, h1, h2⟩ := Trs.mem r h
      exact ⟨n, List.mem_cons_of_mem _ h1, h2⟩
theorem Trs.len {K : PySem.W.Frag} {G : Hp} : ∀ {vs : List V} {ls : List (List Int)}, Trs K G vs ls → vs.length = ls.length
  | _, _, .nil => rfl
  | _, _, .cons _ r => congrArg (· + 1) (Trs.len r)
theorem den_tupI {K : PySem.W.Frag} {G H : Hp} {v : V} {n : List Int} (h : Den K G v (tupOf n)) (s : Same G H) : TupI K H v n := by
  unfold tupOf at h
  cases h with
  | tup h1 h2 =>
    have e := (h2.ints (allInts_map n)).1
    subst e
    exact ⟨_, rfl, same_tup s h1⟩
theorem Trs.sorted {K : PySem.W.Frag} {G H : Hp} {B : Int} {d : Nat} (s : Same G H) : ∀ {vs : List V} {ls : List (List Int)}, Trs K G vs ls → (∀ l ∈ ls, l.length = d ∧ TS.Bd B l) → vs.Pairwise (fun x y => ∀ n m, TupI K H x n → TupI K H y m → TS.code B n ≤ TS.code B m) → ls.Pairwise (fun a b => lexLe a b = true)
  | _, _, .nil, _, _ => List.Pairwise.nil
  | _, _, .cons (ns := ns) a r, hb, h => by
    rw [List.pairwise_cons] at h
    have b0 := hb _ List.mem_cons_self
    refine List.pairwise_cons.mpr ⟨fun m hm => ?_, Trs.sorted s r (fun l hl => hb l (List.mem_cons_of_mem _ hl)) h.2⟩
    have b1 := hb m (List.mem_cons_of_mem _ hm)
    obtain ⟨w, hw, dw⟩ : ∃ w ∈ _, Den K G w (tupOf m) := Trs.back r hm
    exact code_lex (b0.1.trans b1.1.symm) b0.2 b1.2 (h.1 w hw _ _ (den_tupI a s) (den_tupI dw s))
where
  Trs.back {K : PySem.W.Frag} {G : Hp} : ∀ {vs : List V} {ls : List (List Int)} {n : List Int}, Trs K G vs ls → n ∈ ls → ∃ v ∈ vs, Den K G v (tupOf n)
    | _, _, _, .nil, h => by cases h
    | _, _, _, .cons a r, h => by
      rcases List.mem_cons.mp h with rfl | h
      · exact ⟨_, List.mem_cons_self, a⟩
      · obtain ⟨v, h1, h2⟩ := Trs.back r h
        exact ⟨v, List.mem_cons_of_mem _ h1, h2⟩
theorem lexLe_lt : ∀ a b : List Int, lexLe a b = !decide (b < a)
  | [], b => by
    have : ¬ b < ([] : List Int) := by simp
    simp [lexLe, this]
  | x :: xs, [] => by simp [lexLe]
  | x :: xs, y :: ys => by
    unfold lexLe
    by_cases h : x = y
    · subst h
      rw [if_pos rfl, lexLe_lt xs ys]
      simp [List.cons_lt_cons_iff]
    · rw [if_neg h]
      have h2 : ¬ y = x := fun z => h z.symm
      simp only [List.cons_lt_cons_iff, h2, false_and, or_false]
      by_cases q : x < y
      · rw [decide_eq_true q]
        simp
        omega
      · rw [decide_eq_false q]
        simp
        omega
theorem dataLt_tupOf (a b : List Int) : PySem.W.dataLt (tupOf a) (tupOf b) = decide (a < b) := by
  unfold tupOf
  rw [PySem.W.dataLt_tuple]
  exact PySem.W.dataLt_ints a b
theorem dataLe_tupF : (PySem.W.dataLe false tupOf : List Int → List Int → Bool) = lexLe := by
  funext a b
  show (!PySem.W.dataLt (tupOf b) (tupOf a)) = _
  rw [dataLt_tupOf, lexLe_lt]
theorem dataLe_tupT : (PySem.W.dataLe true tupOf : List Int → List Int → Bool) = fun a b => lexLe b a := by
  funext a b
  show (!PySem.W.dataLt (tupOf a) (tupOf b)) = _
  rw [dataLt_tupOf, lexLe_lt]
theorem mergeF (ls : List (List Int)) : ls.mergeSort (PySem.W.dataLe false tupOf) = sortT ls := by
  rw [dataLe_tupF]
  exact sortT_eq (List.mergeSort_perm _ _) ((List.pairwise_mergeSort (fun a b c => lexLe_trans a b c) (fun a b => by rw [Bool.or_eq_true]; exact lexLe_total a b) ls).imp fun h => h)
theorem mergeT (ls : List (List Int)) : ls.mergeSort (PySem.W.dataLe true tupOf) = (sortT ls).reverse := by
  rw [dataLe_tupT]
  have h := (List.pairwise_mergeSort (le := fun a b => lexLe b a) (fun a b c h1 h2 => lexLe_trans c b a h2 h1) (fun a b => by rw [Bool.or_eq_true]; exact lexLe_total b a) ls).imp fun h => h
  have e : (ls.mergeSort fun a b => lexLe b a).reverse = sortT ls := sortT_eq ((List.reverse_perm _).trans (List.mergeSort_perm _ _)) (List.pairwise_reverse.mpr h)
  rw [← e, List.reverse_reverse]
theorem each_tr {K : PySem.W.Frag} {G : Hp} : ∀ {vs : List V} {ls : List (List Int)} {us : List Value}, Trs K G vs ls → Vals vs us → PySem.W.EachIs (fun u l => ∃ v, RelV v u ∧ Den K G v (tupOf l)) us ls
  | _, _, _, .nil, r => by cases r; exact .nil
  | _, _, _, .cons a t, r => by
    cases r with
    | cons r1 r2 => exact .cons ⟨_, r1, a⟩ (each_tr t r2)
theorem each_back {K : PySem.W.Frag} {G : Hp} : ∀ {us : List Value} {ls : List (List Int)}, PySem.W.EachIs (fun u l => ∃ v, RelV v u ∧ Den K G v (tupOf l)) us ls → ∃ vs, Vals vs us ∧ Dens K G vs (ls.map tupOf)
  | _, _, .nil => ⟨[], .nil, .nil⟩
  | _, _, .cons ⟨v, r, h⟩ t => by
    obtain ⟨vs, r1, r2⟩ := each_back t
    exact ⟨v :: vs, .cons r r1, .cons h r2⟩
theorem each_reads {pins : List (Addr × Obj)} {σ : L2.St} {G H : Hp} {s : Shared} (I : Inv X pins σ H s) (sm : Same G H) : ∀ {us : List Value} {ls : List (List Int)}, PySem.W.EachIs (fun u l => ∃ v, RelV v u ∧ Den X.K G v (tupOf l)) us ls → PySem.W.EachIs (fun u l => ∃ as, Reads s.heap u (tupOf l) as) us ls
  | _, _, .nil => .nil
  | _, _, .cons ⟨v, r, h⟩ t => .cons (Dp.reads I _ v _ (h.mono sm).dp r) (each_reads I sm t)
theorem alike_tups (ls : List (List Int)) : PySem.W.AllAlike (ls.map tupOf) := PySem.W.AllAlike.of fun a b => by
  show PySem.W.alike (.tuple (a.map .int)) (.tuple (b.map .int)) = true
  rw [PySem.W.alike]
  exact PySem.W.alike_ints a b
theorem sortable_tups {ls : List (List Int)} (h : (ls.all fun l => !l.isEmpty) = true) : PySem.W.Sortable (ls.map tupOf) := .inl fun d hd => by
  obtain ⟨l, hl, rfl⟩ := List.mem_map.mp hd
  have := List.all_eq_true.mp h l hl
  cases l with
  | nil => cases this
  | cons x r => exact ⟨_, _, rfl⟩
theorem depth_tup (l : List Int) : (tupOf l).depth ≤ 1 := by
  unfold tupOf
  rw [PyData.depth, PySem.W.depth_ints]
  omega
theorem laid_new {pins : List (Addr × Obj)} {σ : L2.St} {G H : Hp} {s : Shared} {Q : VK} {its out : List Value} {vs : List V} {ys : List D} (I : Inv X pins σ H s) (sm : Same G H) (f : Fin X.K G H (.f ys) Q) (r : Vals vs out) (dn : Dens X.K G vs ys) (hl : vs.length ≤ sizeLine) :
    EP X pins σ Q (.ref (s.heap.objs.size + 1)) { s with heap := PyProof.Rows.sortedAll s.heap its out.toArray } := by
  obtain ⟨ep, he'⟩ := PyProof.Rows.sortedAll_at s.heap its out.toArray
  exact ⟨.ref _, upd H (s.heap.objs.size + 1) (.lst vs), I.laid (t' := s.toks) (fun _ _ => PyProof.Rows.sortedAll_old) (Nat.le_succ _) ⟨hl, out, ep, r, he'⟩, rfl, f.newL sm dn _ (I.hok.fresh (Nat.le_succ _))⟩
theorem each_d {K : PySem.W.Frag} {G : Hp} : ∀ {vs : List V} {ls : List D} {us : List Value}, Dens K G vs ls → Vals vs us → PySem.W.EachIs (fun u l => ∃ v, RelV v u ∧ Den K G v l) us ls
  | _, _, _, .nil, r => by cases r; exact .nil
  | _, _, _, .cons a t, r => by
    cases r with
    | cons r1 r2 => exact .cons ⟨_, r1, a⟩ (each_d t r2)
theorem each_dback {K : PySem.W.Frag} {G : Hp} : ∀ {us : List Value} {ls : List D}, PySem.W.EachIs (fun u l => ∃ v, RelV v u ∧ Den K G v l) us ls → ∃ vs, Vals vs us ∧ Dens K G vs ls
  | _, _, .nil => ⟨[], .nil, .nil⟩
  | _, _, .cons ⟨v, r, h⟩ t => by
    obtain ⟨vs, r1, r2⟩ := each_dback t
    exact ⟨v :: vs, .cons r r1, .cons h r2⟩
theorem each_dreads {pins : List (Addr × Obj)} {σ : L2.St} {G H : Hp} {s : Shared} (I : Inv X pins σ H s) (sm : Same G H) : ∀ {us : List Value} {ls : List D}, PySem.W.EachIs (fun u l => ∃ v, RelV v u ∧ Den X.K G v l) us ls → PySem.W.EachIs (fun u l => ∃ as, Reads s.heap u (id l) as) us ls
  | _, _, .nil => .nil
  | _, _, .cons ⟨v, r, h⟩ t => .cons (Dp.reads I _ v _ (h.mono sm).dp r) (each_dreads I sm t)
theorem alike_nest {xs : List D} (h : alikeB xs = true) : PySem.W.AllAlike (xs.map id) := fun a ha b hb => by
  rw [List.map_id] at ha hb
  exact List.all_eq_true.mp (List.all_eq_true.mp h a ha) b hb
theorem sortable_nest {xs : List D} (h : okNs xs = true) : PySem.W.Sortable (xs.map id) ∧ xs.length ≤ LIM ∧ ∀ d ∈ xs, d.depth ≤ 40 := by
  obtain ⟨h1, h2⟩ := (Bool.and_eq_true _ _).mp h
  refine ⟨.inl fun d hd => ?_, of_decide_eq_true h1, fun d hd => ?_⟩
  · rw [List.map_id] at hd
    have q := List.all_eq_true.mp h2 d hd
    split at q
    · exact ⟨_, _, rfl⟩
    · cases q
  · have q := List.all_eq_true.mp h2 d hd
    split at q
    · exact of_decide_eq_true q
    · cases q
theorem each_ints {K : PySem.W.Frag} {G : Hp} : ∀ {ns : List Int} {us : List Value}, Vals (ns.map V.int) us → PySem.W.EachIs (fun u n => RelV (.int n) u) us ns
  | [], _, r => by cases r; exact .nil
  | n :: ns, _, r => by
    cases r with
    | cons r1 r2 => exact .cons r1 (each_ints (K := K) (G := G) r2)
theorem each_iback {K : PySem.W.Frag} {G : Hp} : ∀ {us : List Value} {ns : List Int}, PySem.W.EachIs (fun u n => RelV (.int n) u) us ns → Vals (ns.map V.int) us
  | _, _, .nil => .nil
  | _, _, .cons r t => .cons r (each_iback (K := K) (G := G) t)
theorem each_ireads {s : Shared} : ∀ {us : List Value} {ns : List Int}, PySem.W.EachIs (fun u n => RelV (.int n) u) us ns → PySem.W.EachIs (fun u n => ∃ as, Reads s.heap u (PyData.int n) as) us ns
  | _, _, .nil => .nil
  | _, _, .cons ⟨t, e⟩ r => .cons (by subst e; exact ⟨_, .int _ _⟩) (each_ireads r)
theorem mergeI (ns : List Int) : ns.mergeSort (PySem.W.dataLe false PyData.int) = sortI ns := by
  have e : (PySem.W.dataLe false PyData.int : Int → Int → Bool) = fun a b => decide (a ≤ b) := PySem.W.dataLe_int (β := Int) id
  rw [e]
  exact sortI_eq (List.mergeSort_perm _ _) ((List.pairwise_mergeSort (fun a b c h1 h2 => by simp only [decide_eq_true_eq] at *; omega) (fun a b => by simp only [Bool.or_eq_true, decide_eq_true_eq]; omega) ns).imp fun h => by simpa using h)
theorem alike_i (ns : List Int) : PySem.W.AllAlike (ns.map PyData.int) := fun a ha b hb => by
  obtain ⟨x, _, rfl⟩ := List.mem_map.mp ha
  obtain ⟨y, _, rfl⟩ := List.mem_map.mp hb
  rfl
theorem call_Sorted (hu : X.A.units + 64 < cLine) : CallR X (.builtin "sorted") (rB X.K .sorted) := by
  intro pins s σ H vs us Q I rv h
  obtain ⟨G, ds, r, sm, hd, e, f⟩ := h
  obtain ⟨d, rfl⟩ := bi_one e (by decide) (by decide)
  obtain ⟨v, rfl, hv⟩ := dens1 hd
  cases hv with
  | @lst a ws xs h k =>
    obtain ⟨ys, e1, e2⟩ := Option.map_eq_some_iff.mp e
    subst e2
    clear e
    have e := e1
    clear e1
    unfold sortR at e
    split at e
    · rename_i ns hi
      cases e
      have e1 := (k.ints hi).1
      subst e1
      refine cr_sortedI pins s σ H _ us Q I rv ⟨_, ns, rfl, .inl (.inl (sm _ _ h)), fun ms p hp hs hn => ?_⟩
      rw [sortI_eq hp hs]
      exact f.newL sm (Dens.of_ints _) p hn
    · split at e
      · rename_i ls hi
        split at e
        · rename_i hz
          cases e
          obtain ⟨z1, z2⟩ := (Bool.and_eq_true _ _).mp hz
          have z1 : ls.length ≤ LIM := of_decide_eq_true z1
          have tr := k.trs hi
          obtain ⟨its, rv2, hl, hz2⟩ := I.list (show SqL X.K H a ws from .inl (.inl (sm _ _ h)))
          have ea := each_tr tr rv2
          rw [Vals.ref1 rv]
          refine PySem.W.sorted_data hl.isList ea (each_reads I sm ea) (alike_tups ls) (sortable_tups z2) (Nat.le_trans z1 lim_line) (fun b _ => by have := depth_tup b; omega) fun out ho ee => ?_
          rw [mergeF] at ee
          obtain ⟨vs', r1, r2⟩ := each_back ee
          exact laid_new I sm f r1 r2 (by rw [r1.length, ho]; exact Nat.le_trans z1 lim_line)
        · cases e
      · split at e
        · rename_i hz
          cases e
          obtain ⟨z1, z2⟩ := (Bool.and_eq_true _ _).mp hz
          obtain ⟨y1, y2, y3⟩ := sortable_nest z1
          obtain ⟨its, rv2, hl, hz2⟩ := I.list (show SqL X.K H a ws from .inl (.inl (sm _ _ h)))
          have ea := each_d k rv2
          rw [Vals.ref1 rv]
          refine PySem.W.sorted_data hl.isList ea (each_dreads I sm ea) (alike_nest z2) y1 (Nat.le_trans y2 lim_line) (fun b hb => by have := y3 b hb; show X.A.units + 2 + b.depth < cLine; omega) fun out ho ee => ?_
          obtain ⟨vs', r1, r2⟩ := each_dback ee
          exact laid_new I sm f r1 r2 (by rw [r1.length, ho]; exact Nat.le_trans y2 lim_line)
        · cases e
  | @tup a ws xs h k =>
    obtain ⟨ys, e1, e2⟩ := Option.map_eq_some_iff.mp e
    subst e2
    clear e
    have e := e1
    clear e1
    obtain ⟨its, rv2, hl, hz2⟩ := I.tuple (same_tup sm h)
    unfold sortR at e
    split at e
    · rename_i ns hi
      cases e
      have e1 := (k.ints hi).1
      subst e1
      have ea := each_ints (K := X.K) (G := G) rv2
      have hlen : ns.length ≤ sizeLine := by rw [← ea.length, ← rv2.length]; exact hz2
      rw [Vals.ref1 rv]
      refine sorted_dataT hl ea (each_ireads ea) (alike_i ns) (.inr fun d hd => ?_) hlen (fun b _ => by show X.A.units + 2 + 0 < cLine; omega) fun out ho ee => ?_
      · obtain ⟨x, _, rfl⟩ := List.mem_map.mp hd
        exact ⟨(fun z => nomatch z), fun _ z => nomatch z⟩
      · rw [mergeI] at ee
        have r1 := each_iback (K := X.K) (G := G) ee
        exact laid_new I sm f r1 (Dens.of_ints _) (by rw [r1.length, ho]; exact hlen)
    · split at e
      · rename_i ls hi
        split at e
        · rename_i hz
          cases e
          obtain ⟨z1, z2⟩ := (Bool.and_eq_true _ _).mp hz
          have z1 : ls.length ≤ LIM := of_decide_eq_true z1
          have tr := k.trs hi
          have ea := each_tr tr rv2
          rw [Vals.ref1 rv]
          refine sorted_dataT hl ea (each_reads I sm ea) (alike_tups ls) (sortable_tups z2) (Nat.le_trans z1 lim_line) (fun b _ => by have := depth_tup b; omega) fun out ho ee => ?_
          rw [mergeF] at ee
          obtain ⟨vs', r1, r2⟩ := each_back ee
          exact laid_new I sm f r1 r2 (by rw [r1.length, ho]; exact Nat.le_trans z1 lim_line)
        · cases e
      · split at e
        · rename_i hz
          cases e
          obtain ⟨z1, z2⟩ := (Bool.and_eq_true _ _).mp hz
          obtain ⟨y1, y2, y3⟩ := sortable_nest z1
          have ea := each_d k rv2
          rw [Vals.ref1 rv]
          refine sorted_dataT hl ea (each_dreads I sm ea) (alike_nest z2) y1 (Nat.le_trans y2 lim_line) (fun b hb => by have := y3 b hb; show X.A.units + 2 + b.depth < cLine; omega) fun out ho ee => ?_
          obtain ⟨vs', r1, r2⟩ := each_dback ee
          exact laid_new I sm f r1 r2 (by rw [r1.length, ho]; exact Nat.le_trans y2 lim_line)
        · cases e
  | non => cases e
  | bl _ => cases e
  | int _ => cases e
  | str _ => cases e
def rSrtR (K : PySem.W.Frag) : List V → List V → Hp → VK → Prop := fun vs zs H Q => zs = [.bl true] ∧ ∃ G ds rv, Same G H ∧ Dens K G vs ds ∧ biR .sortedR ds = some rv ∧ Fin K G H rv Q
theorem call_SortedR (hu : X.A.units + 64 < cLine) : CallRK X (.builtin "sorted") [Str.ofString "reverse"] (rSrtR X.K) := by
  intro pins s σ H vs zs us ws' Q I rv rz h
  obtain ⟨rfl, G, ds, r, sm, hd, e, f⟩ := h
  have rz' := rz
  obtain ⟨w1, rfl, e1⟩ := vals1 rz
  obtain rfl : w1 = Value.bool true := e1
  obtain ⟨d, rfl⟩ := bi_one e (by decide) (by decide)
  obtain ⟨v, rfl, hv⟩ := dens1 hd
  cases hv with
  | @lst a ws xs h k =>
    obtain ⟨ys, e1, e2⟩ := Option.map_eq_some_iff.mp e
    subst e2
    clear e
    have e := e1
    clear e1
    unfold sortRR at e
    split at e
    · rename_i ns hi
      cases e
      have e5 := (k.ints hi).1
      subst e5
      refine cr_sortedRev (b := true) pins s σ H _ _ us _ Q I rv rz' ⟨_, ns, rfl, rfl, .inl (.inl (sm _ _ h)), fun ms q hp ho hq => ?_⟩
      have ho : ms.Pairwise (· ≥ ·) := ho
      have : ms = (sortI ns).reverse := by
        have h1 : ms.reverse = sortI ns := sortI_eq ((List.reverse_perm ms).trans hp) (List.pairwise_reverse.mpr ho)
        rw [← h1, List.reverse_reverse]
      rw [this]
      exact f.newL sm (Dens.of_ints _) q hq
    · split at e
      · rename_i ls hi
        split at e
        · rename_i hz
          cases e
          obtain ⟨z1, z2⟩ := (Bool.and_eq_true _ _).mp hz
          have z1 : ls.length ≤ LIM := of_decide_eq_true z1
          have tr := k.trs hi
          obtain ⟨its, rv2, hl, hz2⟩ := I.list (show SqL X.K H a ws from .inl (.inl (sm _ _ h)))
          have ea := each_tr tr rv2
          rw [Vals.ref1 rv]
          refine PySem.W.sorted_rev_data (b := true) hl.isList ea (each_reads I sm ea) (alike_tups ls) (sortable_tups z2) (Nat.le_trans z1 lim_line) (fun b _ => by have := depth_tup b; omega) fun out ho ee => ?_
          rw [mergeT] at ee
          obtain ⟨vs', r1, r2⟩ := each_back ee
          exact laid_new I sm f r1 r2 (by rw [r1.length, ho]; exact Nat.le_trans z1 lim_line)
        · cases e
      · cases e
  | tup h k => cases e
  | non => cases e
  | bl _ => cases e
  | int _ => cases e
  | str _ => cases e

mutual
theorem Den.noDict {K : PySem.W.Frag} {G : Hp} : ∀ {v : V} {d : D}, Den K G v d → d.hasDict = false
  | _, _, .non => rfl
  | _, _, .bl _ => rfl
  | _, _, .int _ => rfl
  | _, _, .str _ => rfl
  | _, _, .lst _ k => by unfold PyData.hasDict; exact Dens.noDict k
  | _, _, .tup _ k => by unfold PyData.hasDict; exact Dens.noDict k
theorem Dens.noDict {K : PySem.W.Frag} {G : Hp} : ∀ {vs : List V} {ds : List D}, Dens K G vs ds → PyData.hasDictAll ds = false
  | _, _, .nil => rfl
  | _, _, .cons h k => by unfold PyData.hasDictAll; rw [Den.noDict h, Dens.noDict k]; rfl
end
theorem call_Repr (hg : X.A.guards = some []) (hu : X.A.units + 64 < cLine) : CallR X (.builtin "repr") (rB X.K .repr) := by
  intro pins s σ H vs us Q I rv h
  obtain ⟨G, ds, r, sm, hd, e, f⟩ := h
  obtain ⟨d, rfl⟩ := bi_one e (by decide) (by decide)
  obtain ⟨v, rfl, hv⟩ := dens1 hd
  simp only [biR] at e
  split at e
  · rename_i hz
    cases e
    obtain ⟨z0, z3⟩ := (Bool.and_eq_true _ _).mp hz
    obtain ⟨z1, z2⟩ := (Bool.and_eq_true _ _).mp z0
    have z2 := of_decide_eq_true z2
    have z3 := of_decide_eq_true z3
    have hl : d.shown.length ≤ sizeLine := Nat.le_trans z2 (by decide)
    obtain ⟨u, rfl, ru⟩ := vals1 rv
    have q : ∀ {s' : Shared} {u : Tok}, Inv X pins σ H s' → EP X pins σ Q (.str d.shown u) s' := fun {s' u} J => ⟨.str d.shown, H, J, ⟨u, rfl⟩, f.now sm (.str _)⟩
    obtain ⟨as, rd⟩ := Dp.reads I d v u (hv.mono sm).dp ru
    have big : ∀ a, u = .ref a → wpAny (model X.prog X.w) X.A (call (.builtin "repr") [u]) (EP X pins σ Q) X.xe s := fun a ea => by
      subst ea
      exact repr_of_reads' rd z1 (PyData.noDict_hsm hv.noDict) hg (by omega) (fun _ _ h => h) (fun h' u tk kk => q (I.kept kk)) hl
    cases hv with
    | lst _ _ => exact big _ ru
    | tup _ _ => exact big _ ru
    | non =>
      cases ru
      exact PySem.P.repr_of_none (q (I.tok _))
    | bl b =>
      cases ru
      exact PySem.P.repr_of_bool (q (I.tok _))
    | int i =>
      obtain ⟨t, rfl⟩ := ru
      exact PySem.P.repr_of_int (of_decide_eq_true z1) (q (I.tok _))
    | str x =>
      obtain ⟨t, rfl⟩ := ru
      exact PySem.P.repr_of_str (q (I.tok _)) hl
  · cases e

def tyName : Ty → String
  | .int => "int"
  | .bool => "bool"
  | .str => "str"
  | .tuple => "tuple"
  | .list => "list"
  | .dict => "dict"
def dTy : D → String
  | .none => "NoneType"
  | .bool _ => "bool"
  | .int _ => "int"
  | .str _ => "str"
  | .list _ => "list"
  | .tuple _ => "tuple"
  | .dict _ => "dict"
theorem sqT_ty {K : PySem.W.Frag} {H : Hp} {a : Addr} {vs : List V} (h : SqT K H a vs) : TyX K H (.ref a) (.type "tuple") := by
  rcases h with (h | ⟨o, h⟩) | ⟨o, its, n, h, hc, _⟩
  · exact .base (.tup h)
  · exact .fTuple h
  · exact .kTuple h hc
theorem Den.ty {K : PySem.W.Frag} {G H : Hp} {v : V} {d : D} (h : Den K G v d) (s : Same G H) : TyX K H v (.type (dTy d)) := by
  cases h with
  | non => exact .base .non
  | bl b => exact .base (.bl b)
  | int i => exact .base (.int i)
  | str x => exact .base (.str x)
  | lst h k => exact .base (.lst (s _ _ h))
  | tup h k => exact sqT_ty (same_tup s h)
theorem kit_all (t : Ty) : ∀ d : D, (∀ l, d ≠ .dict l) → kitB (dTy d) (tyName t) = some (isTy t d)
  | .none, _ => by cases t <;> decide +kernel
  | .bool _, _ => by cases t <;> simp only [dTy, tyName, isTy] <;> decide +kernel
  | .int _, _ => by cases t <;> simp only [dTy, tyName, isTy] <;> decide +kernel
  | .str _, _ => by cases t <;> simp only [dTy, tyName, isTy] <;> decide +kernel
  | .list _, _ => by cases t <;> simp only [dTy, tyName, isTy] <;> decide +kernel
  | .tuple _, _ => by cases t <;> simp only [dTy, tyName, isTy] <;> decide +kernel
  | .dict _, h => absurd rfl (h _)
theorem Den.nodict {K : PySem.W.Frag} {G : Hp} {v : V} {d : D} (h : Den K G v d) : ∀ l, d ≠ .dict l := by
  cases h <;> (intro l e; cases e)
end Tl

namespace Tl
open PySem L2

def Post (K : PySem.W.Frag) (σ : L2.St) (g : Gh) (s : Sta) (H : Hp) (s' : Sta) (rv : Rv) (Q : VK) : Prop :=
  ∀ v g' H', StOk K g' σ H' s' → Ext g s H g' s' H' → RvOk K g' s' H' H v rv → Q v H'
def tE (K : PySem.W.Frag) (F : CallT) (ir : IE) : TE := fun σ H Q => ∃ g s rv s', StOk K g σ H s ∧ evE F ir s = some (rv, s') ∧ Post K σ g s H s' rv Q
def tT (K : PySem.W.Frag) (F : CallT) (ir : IE) : TT := fun σ H Q => ∃ g s b s', StOk K g σ H s ∧ evE F ir s = some (.v (.bool b), s') ∧ ∀ g' H', StOk K g' σ H' s' → Ext g s H g' s' H' → Q b H'

inductive ArgsOk (K : PySem.W.Frag) (g : Gh) (s : Sta) (H H0 : Hp) : List V → List Rv → Prop
  | nil : ArgsOk K g s H H0 [] []
  | cons {v : V} {vs : List V} {r a : Rv} {rs : List Rv} : r.arg = some a → RvOk K g s H H0 v a → ArgsOk K g s H H0 vs rs → ArgsOk K g s H H0 (v :: vs) (a :: rs)
theorem ArgsOk.ext {K : PySem.W.Frag} {g g' : Gh} {s s' : Sta} {H H' H0 : Hp} : ∀ {vs : List V} {rs : List Rv}, ArgsOk K g s H H0 vs rs → Ext g s H g' s' H' → ArgsOk K g' s' H' H0 vs rs
  | _, _, .nil, _ => .nil
  | _, _, .cons e h k, x => .cons e (h.ext x) (ArgsOk.ext k x)
theorem ArgsOk.back {K : PySem.W.Frag} {g : Gh} {s : Sta} {H H0 H1 : Hp} (q : ∀ b, H1 b = none → H0 b = none) : ∀ {vs : List V} {rs : List Rv}, ArgsOk K g s H H1 vs rs → ArgsOk K g s H H0 vs rs
  | _, _, .nil => .nil
  | _, _, .cons e h k => .cons e (h.back q) (ArgsOk.back q k)
theorem ArgsOk.dens {K : PySem.W.Frag} {g : Gh} {s : Sta} {H H0 : Hp} : ∀ {vs : List V} {rs : List Rv} {ds : List D}, ArgsOk K g s H H0 vs rs → dAll rs = some ds → Dens K g.G vs ds
  | _, _, _, .nil, h => by cases h; exact .nil
  | _, _, _, .cons (r := r) (a := a) e h k, q => by
    simp only [dAll, Option.bind_eq_some_iff, Option.map_eq_some_iff] at q
    obtain ⟨d, q1, ds, q2, rfl⟩ := q
    refine .cons ?_ (ArgsOk.dens k q2)
    cases a with
    | v x => cases q1; exact h
    | f xs => cases r <;> cases e
    | fd xs => cases r <;> cases e
    | dr => cases q1
    | scr ns => cases q1
def tAs (K : PySem.W.Frag) (F : CallT) (irs : IEs) : TA := fun σ H Q => ∃ g s rvs s', StOk K g σ H s ∧ evEs F irs s = some (rvs, s') ∧ ∀ vs g' H', StOk K g' σ H' s' → Ext g s H g' s' H' → ArgsOk K g' s' H' H vs rvs → Q vs H'

section
variable {K : PySem.W.Frag} {F : CallT} {σ : L2.St} {H : Hp} {Q : VK} {g : Gh} {s s' : Sta} {rv : Rv}
theorem Post.fin {g2 : Gh} {H2 : Hp} (p : Post K σ g s H s' rv Q) (hs : StOk K g2 σ H2 s') (x : Ext g s H g2 s' H2) : Fin K g2.G H2 rv Q := fun v G' H' pu re =>
  p v (g2.wG G') H' (hs.pure pu) (x.trans pu.ext) ((re.rv hs).back x.trk)
theorem Post.same {g2 : Gh} {H2 : Hp} {v : V} (p : Post K σ g s H s' rv Q) (hs : StOk K g2 σ H2 s') (x : Ext g s H g2 s' H2) (r : RvOk K g2 s' H2 H v rv) : Q v H2 := p v g2 H2 hs x r
theorem seq1 {ia : IE} {R : V → Hp → Prop} {p : Rv × Sta} (hs : StOk K g σ H s) (ha : evE F ia s = some p)
    (k : ∀ x g1 H1, StOk K g1 σ H1 p.2 → Ext g s H g1 p.2 H1 → RvOk K g1 p.2 H1 H x p.1 → R x H1) : tE K F ia σ H R :=
  ⟨g, s, p.1, p.2, hs, ha, k⟩
theorem seq2 {ia ib : IE} {R : V → V → Hp → Prop} {p q : Rv × Sta} (hs : StOk K g σ H s) (ha : evE F ia s = some p) (hb : evE F ib p.2 = some q)
    (k : ∀ x y g2 H2, StOk K g2 σ H2 q.2 → Ext g s H g2 q.2 H2 → RvOk K g2 q.2 H2 H x p.1 → RvOk K g2 q.2 H2 H y q.1 → R x y H2) :
    tE K F ia σ H fun x H1 => tE K F ib σ H1 fun y H2 => R x y H2 :=
  ⟨g, s, p.1, p.2, hs, ha, fun v g1 H1 hs1 x1 r1 => ⟨g1, p.2, q.1, q.2, hs1, hb, fun w g2 H2 hs2 x2 r2 => k v w g2 H2 hs2 (x1.trans x2) (r1.ext x2) (r2.back x1.trk)⟩⟩
end

variable {X : Cx} {F : CallT} {pos : Pos}
abbrev tX (X : Cx) (F : CallT) (ir : IE) : TE := tE X.K F ir
abbrev tXT (X : Cx) (F : CallT) (ir : IE) : TT := tT X.K F ir

theorem asB_eq {r : Rv} {b : Bool} (h : asB r = some b) : r = .v (.bool b) := by
  unfold asB at h
  split at h
  · cases h; rfl
  · cases h
theorem asI_eq {r : Rv} {b : Int} (h : asI r = some b) : r = .v (.int b) := by
  unfold asI at h
  split at h
  · cases h; rfl
  · cases h
theorem rv_bool {K : PySem.W.Frag} {g : Gh} {s : Sta} {H H0 : Hp} {v : V} {b : Bool} (h : RvOk K g s H H0 v (.v (.bool b))) : v = .bl b := by
  cases (show Den K g.G v (.bool b) from h)
  rfl
theorem rv_int {K : PySem.W.Frag} {g : Gh} {s : Sta} {H H0 : Hp} {v : V} {b : Int} (h : RvOk K g s H H0 v (.v (.int b))) : v = .int b := by
  cases (show Den K g.G v (.int b) from h)
  rfl

theorem e_int {i : Int} {j : Nat} : PE X (.Constant (.int i) j pos) (tX X F (.con (.int i))) := pe_imp pe_int fun σ H Q ⟨g, s, rv, s', hs, e, p⟩ => by
  cases e
  exact p.same hs (.refl _ _ _) (Den.int i)
theorem e_bool {i : Bool} {j : Nat} : PE X (.Constant (.bool i) j pos) (tX X F (.con (.bool i))) := pe_imp pe_bl fun σ H Q ⟨g, s, rv, s', hs, e, p⟩ => by
  cases e
  exact p.same hs (.refl _ _ _) (Den.bl i)
theorem e_none {j : Nat} : PE X (.Constant .none j pos) (tX X F (.con .none)) := pe_imp pe_non fun σ H Q ⟨g, s, rv, s', hs, e, p⟩ => by
  cases e
  exact p.same hs (.refl _ _ _) Den.non
theorem e_str {i : Str} {j : Nat} : PE X (.Constant (.str i) j pos) (tX X F (.con (.str i))) := pe_imp pe_str fun σ H Q ⟨g, s, rv, s', hs, e, p⟩ => by
  cases e
  exact p.same hs (.refl _ _ _) (Den.str i)
theorem e_glob {x : Str} {i : Int} {t : Tok} (hg : Gl X x) (hm : X.mg x = some (.int i t)) (hd : (x == ("__debug__" : Str)) = false) : PE X (.Name x pos) (tX X F (.con (.int i))) := pe_imp (pe_glob (v := .int i) hg hm ⟨t, rfl⟩ hd) fun σ H Q ⟨g, s, rv, s', hs, e, p⟩ => by
  cases e
  exact p.same hs (.refl _ _ _) (Den.int i)

section
variable {a b c : Expr} {ia ib ic : IE}
theorem e_bin {op : Operator} (ha : PE X a (tX X F ia)) (hb : PE X b (tX X F ib)) : PE X (.BinOp a op b pos) (tX X F (.bin op ia ib)) := pe_imp (pe_op (op_any op) ha hb) fun σ H Q ⟨g, s, rv, s', hs, e, p⟩ => by
  simp only [evE, Option.bind_eq_some_iff, Option.map_eq_some_iff] at e
  obtain ⟨q1, e1, q2, e2, x, e3, y, e4, r, e5, e6⟩ := e
  cases e6
  exact seq2 hs e1 e2 fun v w g2 H2 hs2 x2 r1 r2 => ⟨g2.G, x, y, _, hs2.same, r1.cur e3, r2.cur e4, e5, p.fin hs2 x2⟩
theorem e_neg (ha : PE X a (tX X F ia)) : PE X (.UnaryOp .USub a pos) (tX X F (.neg ia)) := pe_imp (pe_un un_neg ha) fun σ H Q ⟨g, s, rv, s', hs, e, p⟩ => by
  simp only [evE, Option.bind_eq_some_iff, Option.map_eq_some_iff] at e
  obtain ⟨q1, e1, i, e2, e3⟩ := e
  cases e3
  refine seq1 hs e1 fun v g1 H1 hs1 x1 r1 => ?_
  rw [asI_eq e2] at r1
  exact ⟨i, rv_int r1, p.same hs1 x1 (Den.int _)⟩
theorem e_cmp {op : CmpOp} (hu : X.A.units + 64 < cLine) (ha : PE X a (tX X F ia)) (hb : PE X b (tX X F ib)) (hm : behindInMarks op b = false) : PE X (.Compare a [op] [b] pos) (tX X F (.cmp op ia ib)) := pe_imp (pe_cmpR (cmp_any hu op) ha hb hm) fun σ H Q ⟨g, s, rv, s', hs, e, p⟩ => by
  simp only [evE, Option.bind_eq_some_iff, Option.map_eq_some_iff] at e
  obtain ⟨q1, e1, q2, e2, x, e3, y, e4, r, e5, e6⟩ := e
  cases e6
  exact seq2 hs e1 e2 fun v w g2 H2 hs2 x2 r1 r2 => ⟨g2.G, x, y, _, hs2.same, r1.cur e3, r2.cur e4, e5, p.same hs2 x2 (Den.bl _)⟩
theorem t_cmp {op : CmpOp} (hu : X.A.units + 64 < cLine) (ha : PE X a (tX X F ia)) (hb : PE X b (tX X F ib)) (hm : behindInMarks op b = false) : PT X (.Compare a [op] [b] pos) (tXT X F (.cmp op ia ib)) := pt_imp (pt_cmpR (cmp_any hu op) ha hb hm) fun σ H Q ⟨g, s, rv, s', hs, e, p⟩ => by
  simp only [evE, Option.bind_eq_some_iff, Option.map_eq_some_iff] at e
  obtain ⟨q1, e1, q2, e2, x, e3, y, e4, r, e5, e6⟩ := e
  cases e6
  exact seq2 hs e1 e2 fun v w g2 H2 hs2 x2 r1 r2 => ⟨g2.G, x, y, _, hs2.same, r1.cur e3, r2.cur e4, e5, _, rfl, p _ _ hs2 x2⟩
theorem chain_core {op op' : CmpOp} {σ : L2.St} {H : Hp} {g : Gh} {s s' : Sta} {rv : Rv} {R : V → Hp → Prop} (hs : StOk X.K g σ H s) (e : evE F (.chain op op' ia ib ic) s = some (rv, s'))
    (p : ∀ b g' H', rv = .v (.bool b) → StOk X.K g' σ H' s' → Ext g s H g' s' H' → R (.bl b) H') : tChain (rC X.K (cmpD op)) (rC X.K (cmpD op')) (tX X F ia) (tX X F ib) (tX X F ic) σ H R := by
  simp only [evE, Option.bind_eq_some_iff] at e
  obtain ⟨q1, e1, q2, e2, x, e3, y, e4, k, e5, e6⟩ := e
  refine seq2 hs e1 e2 fun v w g2 H2 hs2 x2 r1 r2 => ⟨g2.G, x, y, k, hs2.same, r1.cur e3, r2.cur e4, e5, k, rfl, ?_⟩
  cases k with
  | false =>
    simp only [Bool.false_eq_true, if_false] at e6 ⊢
    cases e6
    exact p false g2 H2 rfl hs2 x2
  | true =>
    simp only [if_true, Option.bind_eq_some_iff, Option.map_eq_some_iff] at e6 ⊢
    obtain ⟨q3, e7, z, e8, c, e9, e10⟩ := e6
    cases e10
    exact seq1 hs2 e7 fun u g3 H3 hs3 x3 r3 => ⟨g3.G, y, z, c, hs3.same, (r2.ext x3).cur e4, r3.cur e8, e9, p c g3 H3 rfl hs3 (x2.trans x3)⟩
theorem e_chain {op op' : CmpOp} (hu : X.A.units + 64 < cLine) (ha : PE X a (tX X F ia)) (hb : PE X b (tX X F ib)) (hc : PE X c (tX X F ic)) (hm : lastMarks [op, op'] [b, c] = false) : PE X (.Compare a [op, op'] [b, c] pos) (tX X F (.chain op op' ia ib ic)) :=
  pe_imp (pe_chain (cmp_any hu op) (cmp_any hu op') ha hb hc hm) fun σ H Q ⟨g, s, rv, s', hs, e, p⟩ => chain_core hs e fun b g' H' er hs' x => p.same hs' x (er ▸ Den.bl b)
theorem t_chain {op op' : CmpOp} (hu : X.A.units + 64 < cLine) (ha : PE X a (tX X F ia)) (hb : PE X b (tX X F ib)) (hc : PE X c (tX X F ic)) (hm : lastMarks [op, op'] [b, c] = false) : PT X (.Compare a [op, op'] [b, c] pos) (tXT X F (.chain op op' ia ib ic)) :=
  pt_imp (pt_chain (cmp_any hu op) (cmp_any hu op') ha hb hc hm) fun σ H Q ⟨g, s, b0, s', hs, e, p⟩ => chain_core hs e fun b g' H' er hs' x => ⟨b, rfl, by cases er; exact p g' H' hs' x⟩
theorem t_val {ir : IE} (h : PE X a (tX X F ir)) (he : ∀ whole, isTrue a X.env whole = (do let v ← whole; standAt a.pos; holding [v] (truthy v))) : PT X a (tXT X F ir) := pt_imp (pt_val h he) fun σ H Q ⟨g, s, b, s', hs, e, p⟩ =>
  ⟨g, s, _, s', hs, e, fun v g' H' hs' x r => ⟨b, rv_bool r, p g' H' hs' x⟩⟩
theorem e_not (ha : PE X a (tX X F ia)) : PE X (.UnaryOp .Not a pos) (tX X F (.not_ ia)) := pe_imp (pe_not ha) fun σ H Q ⟨g, s, rv, s', hs, e, p⟩ => by
  simp only [evE, Option.bind_eq_some_iff, Option.map_eq_some_iff] at e
  obtain ⟨q1, e1, i, e2, e3⟩ := e
  cases e3
  refine seq1 hs e1 fun v g1 H1 hs1 x1 r1 => ?_
  rw [asB_eq e2] at r1
  exact ⟨i, rv_bool r1, p.same hs1 x1 (Den.bl _)⟩
theorem t_not (ha : PT X a (tXT X F ia)) : PT X (.UnaryOp .Not a pos) (tXT X F (.not_ ia)) := pt_imp (pt_not ha) fun σ H Q ⟨g, s, b, s', hs, e, p⟩ => by
  simp only [evE, Option.bind_eq_some_iff, Option.map_eq_some_iff] at e
  obtain ⟨⟨r1, s1⟩, e1, i, e2, e3⟩ := e
  cases e3
  cases asB_eq e2
  exact ⟨g, s, i, s1, hs, e1, p⟩
theorem e_ite (hc : PT X c (tXT X F ic)) (ha : PE X a (tX X F ia)) (hb : PE X b (tX X F ib)) : PE X (.IfExp c a b pos) (tX X F (.ite ic ia ib)) := pe_imp (pe_ifExp hc ha hb) fun σ H Q ⟨g, s, rv, s', hs, e, p⟩ => by
  simp only [evE, Option.bind_eq_some_iff] at e
  obtain ⟨⟨r1, s1⟩, e1, k, e2, e3⟩ := e
  cases asB_eq e2
  refine ⟨g, s, k, s1, hs, e1, fun g1 H1 hs1 x1 => ?_⟩
  cases k with
  | true => exact ⟨g1, s1, rv, s', hs1, e3, fun v g2 H2 hs2 x2 r2 => p v g2 H2 hs2 (x1.trans x2) (r2.back x1.trk)⟩
  | false => exact ⟨g1, s1, rv, s', hs1, e3, fun v g2 H2 hs2 x2 r2 => p v g2 H2 hs2 (x1.trans x2) (r2.back x1.trk)⟩
variable {rest : List Expr}
theorem e_and (ha : PE X a (tX X F ia)) (hb : PE X (.BoolOp .And (b :: rest) pos) (tX X F ib)) : PE X (.BoolOp .And (a :: b :: rest) pos) (tX X F (.and_ ia ib)) := pe_imp (pe_and ha hb) fun σ H Q ⟨g, s, rv, s', hs, e, p⟩ => by
  simp only [evE, Option.bind_eq_some_iff] at e
  obtain ⟨⟨r1, s1⟩, e1, k, e2, e3⟩ := e
  cases asB_eq e2
  refine seq1 hs e1 fun v g1 H1 hs1 x1 q1 => ⟨k, rv_bool q1, ?_⟩
  cases k with
  | true => exact ⟨g1, s1, rv, s', hs1, e3, fun v g2 H2 hs2 x2 r2 => p v g2 H2 hs2 (x1.trans x2) (r2.back x1.trk)⟩
  | false =>
    cases e3
    exact p.same hs1 x1 (Den.bl _)
theorem e_or (ha : PE X a (tX X F ia)) (hb : PE X (.BoolOp .Or (b :: rest) pos) (tX X F ib)) : PE X (.BoolOp .Or (a :: b :: rest) pos) (tX X F (.or_ ia ib)) := pe_imp (pe_or ha hb) fun σ H Q ⟨g, s, rv, s', hs, e, p⟩ => by
  simp only [evE, Option.bind_eq_some_iff] at e
  obtain ⟨⟨r1, s1⟩, e1, k, e2, e3⟩ := e
  cases asB_eq e2
  refine seq1 hs e1 fun v g1 H1 hs1 x1 q1 => ⟨k, rv_bool q1, ?_⟩
  cases k with
  | false => exact ⟨g1, s1, rv, s', hs1, e3, fun v g2 H2 hs2 x2 r2 => p v g2 H2 hs2 (x1.trans x2) (r2.back x1.trk)⟩
  | true =>
    cases e3
    exact p.same hs1 x1 (Den.bl _)
theorem pw_imp {X : Cx} {e : Expr} {t t' : TT} (h : PW X e t) (k : ∀ σ H Q, t' σ H Q → t σ H Q) : PW X e t' := ⟨fun wh pins s σ H Q I w => h.run wh pins s σ H Q I (k σ H Q w)⟩
theorem w_and (ha : PT X a (tXT X F ia)) (hb : PW X (.BoolOp .And (b :: rest) pos) (tXT X F ib)) : PW X (.BoolOp .And (a :: b :: rest) pos) (tXT X F (.and_ ia ib)) := pw_imp (pw_and ha hb) fun σ H Q ⟨g, s, b0, s', hs, e, p⟩ => by
  simp only [evE, Option.bind_eq_some_iff] at e
  obtain ⟨⟨r1, s1⟩, e1, k, e2, e3⟩ := e
  cases asB_eq e2
  refine ⟨g, s, k, s1, hs, e1, fun g1 H1 hs1 x1 => ?_⟩
  cases k with
  | true => exact ⟨g1, s1, b0, s', hs1, e3, fun g2 H2 hs2 x2 => p g2 H2 hs2 (x1.trans x2)⟩
  | false =>
    cases e3
    exact p g1 H1 hs1 x1
theorem w_or (ha : PT X a (tXT X F ia)) (hb : PW X (.BoolOp .Or (b :: rest) pos) (tXT X F ib)) : PW X (.BoolOp .Or (a :: b :: rest) pos) (tXT X F (.or_ ia ib)) := pw_imp (pw_or ha hb) fun σ H Q ⟨g, s, b0, s', hs, e, p⟩ => by
  simp only [evE, Option.bind_eq_some_iff] at e
  obtain ⟨⟨r1, s1⟩, e1, k, e2, e3⟩ := e
  cases asB_eq e2
  refine ⟨g, s, k, s1, hs, e1, fun g1 H1 hs1 x1 => ?_⟩
  cases k with
  | false => exact ⟨g1, s1, b0, s', hs1, e3, fun g2 H2 hs2 x2 => p g2 H2 hs2 (x1.trans x2)⟩
  | true =>
    cases e3
    exact p g1 H1 hs1 x1
end

theorem pa_imp {es : List Expr} {t t' : TA} (h : PA X es t) (k : ∀ σ H Q, t' σ H Q → t σ H Q) : PA X es t' := ⟨fun ps pins s σ H Q I w => h.run ps pins s σ H Q I (k σ H Q w)⟩
theorem a_nil : PA X [] (tAs X.K F .nil) := pa_imp pa_nil fun σ H Q ⟨g, s, rvs, s', hs, e, p⟩ => by
  cases e
  exact p [] g H hs (.refl _ _ _) .nil
theorem a_cons {e : Expr} {es : List Expr} {ie : IE} {ies : IEs} (he : PE X e (tX X F ie)) (hr : PA X es (tAs X.K F ies)) (hn : starEach (e :: es) X.env = (false, eval e X.env) :: starEach es X.env) : PA X (e :: es) (tAs X.K F (.cons ie ies)) :=
  pa_imp (pa_cons he hr hn) fun σ H Q ⟨g, s, rvs, s', hs, e, p⟩ => by
    simp only [evEs, Option.bind_eq_some_iff, Option.map_eq_some_iff] at e
    obtain ⟨q1, e1, a, e2, q2, e3, e4⟩ := e
    cases e4
    refine seq1 hs e1 fun v g1 H1 hs1 x1 r1 => ?_
    obtain ⟨g1', hs1', x1', r1', _⟩ := freeze hs1 x1 r1 e2
    exact ⟨g1', q1.2, q2.1, q2.2, hs1', e3, fun vs g2 H2 hs2 x2 r2 => p (v :: vs) g2 H2 hs2 (x1'.trans x2) (.cons e2 (r1'.ext x2) (r2.back x1'.trk))⟩
theorem ArgsOk.len {K : PySem.W.Frag} {g : Gh} {s : Sta} {H H0 : Hp} : ∀ {vs : List V} {rs : List Rv}, ArgsOk K g s H H0 vs rs → vs.length = rs.length
  | _, _, .nil => rfl
  | _, _, .cons _ _ k => congrArg (· + 1) (ArgsOk.len k)
def IEs.len : IEs → Nat
  | .nil => 0
  | .cons _ r => r.len + 1
theorem evEs_len {F : CallT} : ∀ {es : IEs} {s : Sta} {p : List Rv × Sta}, evEs F es s = some p → p.1.length = es.len
  | .nil, s, p, h => by
    cases h
    rfl
  | .cons a r, s, p, h => by
    simp only [evEs, Option.bind_eq_some_iff, Option.map_eq_some_iff] at h
    obtain ⟨q1, e1, x, e2, q2, e3, rfl⟩ := h
    show q2.1.length + 1 = r.len + 1
    rw [evEs_len e3]
theorem e_tup {es : List Expr} {ies : IEs} {k : Nat} (h : PA X es (tAs X.K F ies)) (hl : ies.len ≤ LIM) : PE X (.Tuple es k pos) (tX X F (.tup ies)) := pe_imp (pe_tup h) fun σ H Q ⟨g, s, rv, s', hs, e, p⟩ => by
  simp only [evE, Option.bind_eq_some_iff, Option.map_eq_some_iff] at e
  obtain ⟨q1, e1, xs, e2, e3⟩ := e
  cases e3
  refine ⟨g, s, _, _, hs, e1, fun vs g1 H1 hs1 x1 r1 => ⟨?_, fun a ha => (p.fin hs1 x1).newT hs1.same (r1.dens e2) a ha⟩⟩
  rw [r1.len, evEs_len e1]
  exact Nat.le_trans hl lim_line
theorem e_lst {es : List Expr} {ies : IEs} (h : PA X es (tAs X.K F ies)) (hl : ies.len ≤ LIM) : PE X (.List es pos) (tX X F (.lst ies)) := pe_imp (pe_lst h) fun σ H Q ⟨g, s, rv, s', hs, e, p⟩ => by
  simp only [evE, Option.bind_eq_some_iff, Option.map_eq_some_iff] at e
  obtain ⟨q1, e1, xs, e2, e3⟩ := e
  cases e3
  refine ⟨g, s, _, _, hs, e1, fun vs g1 H1 hs1 x1 r1 => ⟨?_, fun a ha => (p.fin hs1 x1).newL hs1.same (r1.dens e2) a ha⟩⟩
  rw [r1.len, evEs_len e1]
  exact Nat.le_trans hl lim_line

def tXs (K : PySem.W.Frag) (F : CallT) (irs : IXs) : TA := fun σ H Q => ∃ g s xs s', StOk K g σ H s ∧ evXs F irs s = some (xs, s') ∧ ∀ vs g' H', StOk K g' σ H' s' → Ext g s H g' s' H' → Dens K g'.G vs xs → Q vs H'
theorem x_nil : PA X [] (tXs X.K F .nil) := pa_imp pa_nil fun σ H Q ⟨g, s, rvs, s', hs, e, p⟩ => by
  cases e
  exact p [] g H hs (.refl _ _ _) .nil
theorem x_cons {e : Expr} {es : List Expr} {ie : IE} {ies : IXs} (he : PE X e (tX X F ie)) (hr : PA X es (tXs X.K F ies)) (hn : starEach (e :: es) X.env = (false, eval e X.env) :: starEach es X.env) : PA X (e :: es) (tXs X.K F (.cons ie ies)) :=
  pa_imp (pa_cons he hr hn) fun σ H Q ⟨g, s, rvs, s', hs, e, p⟩ => by
    simp only [evXs, Option.bind_eq_some_iff, Option.map_eq_some_iff] at e
    obtain ⟨q1, e1, d, e2, q2, e3, e4⟩ := e
    cases e4
    refine seq1 hs e1 fun v g1 H1 hs1 x1 r1 => ?_
    obtain ⟨g1', hs1', x1', dn, _⟩ := freezeD hs1 x1 r1 e2
    exact ⟨g1', q1.2, q2.1, q2.2, hs1', e3, fun vs g2 H2 hs2 x2 r2 => p (v :: vs) g2 H2 hs2 (x1'.trans x2) (.cons (dn.mono x2.mono) r2)⟩
theorem x_star {e : Expr} {es : List Expr} {ie : IE} {ies : IXs} {ps : Pos} (he : PE X e (tX X F ie)) (hr : PA X es (tXs X.K F ies)) (hn : starEach (.Starred e ps :: es) X.env = (true, eval e X.env) :: starEach es X.env) : PA X (.Starred e ps :: es) (tXs X.K F (.star ie ies)) :=
  pa_imp (StX.pa_star he hr hn) fun σ H Q ⟨g, s, rvs, s', hs, e, p⟩ => by
    simp only [evXs, Option.bind_eq_some_iff, Option.map_eq_some_iff] at e
    obtain ⟨q1, e1, d, e2, xs, e5, q2, e3, e4⟩ := e
    cases e4
    refine seq1 hs e1 fun v g1 H1 hs1 x1 r1 => ?_
    obtain ⟨g1', hs1', x1', dn, _⟩ := freezeD hs1 x1 r1 e2
    have fin : ∀ a ws, v = .ref a → (SqT X.K H1 a ws ∨ SqL X.K H1 a ws) → Dens X.K g1'.G ws xs → ∃ p xs, v = V.ref p ∧ (SqT X.K H1 p xs ∨ SqL X.K H1 p xs) ∧ tXs X.K F ies σ H1 fun ys H2 => Q (xs ++ ys) H2 := fun a ws ev hq hd =>
      ⟨a, ws, ev, hq, g1', q1.2, q2.1, q2.2, hs1', e3, fun vs g2 H2 hs2 x2 r2 => p (ws ++ vs) g2 H2 hs2 (x1'.trans x2) ((hd.mono x2.mono).app r2)⟩
    cases dn with
    | lst h k =>
      cases e5
      exact fin _ _ rfl (.inr (.inl (.inl (hs1'.same _ _ h)))) k
    | tup h k =>
      cases e5
      exact fin _ _ rfl (.inl (same_tup hs1'.same h)) k
    | non => cases e5
    | bl _ => cases e5
    | int _ => cases e5
    | str _ => cases e5
theorem e_lstx {es : List Expr} {ies : IXs} (h : PA X es (tXs X.K F ies)) : PE X (.List es pos) (tX X F (.lstx ies)) := pe_imp (pe_lst h) fun σ H Q ⟨g, s, rv, s', hs, e, p⟩ => by
  simp only [evE, Option.bind_eq_some_iff] at e
  obtain ⟨q1, e1, e2⟩ := e
  split at e2
  · rename_i hz
    cases e2
    refine ⟨g, s, _, _, hs, e1, fun vs g1 H1 hs1 x1 r1 => ⟨?_, fun a ha => (p.fin hs1 x1).newL hs1.same r1 a ha⟩⟩
    rw [r1.len]
    exact Nat.le_trans (of_decide_eq_true hz) lim_line
  · cases e2
theorem e_sub {a b : Expr} {ia ib : IE} (ha : PE X a (tX X F ia)) (hb : PE X b (tX X F ib)) (hp : PlainIx b) : PE X (.Subscript a b pos) (tX X F (.sub ia ib)) := pe_imp (pe_ix ix_any ha hb hp) fun σ H Q ⟨g, s, rv, s', hs, e, p⟩ => by
  simp only [evE, Option.bind_eq_some_iff, Option.map_eq_some_iff] at e
  obtain ⟨q1, e1, q2, e2, x, e3, y, e4, r, e5, e6⟩ := e
  cases e6
  exact seq2 hs e1 e2 fun v w g2 H2 hs2 x2 r1 r2 => ⟨g2.G, x, y, _, hs2.same, r1.cur e3, r2.cur e4, by show (subD x y).map Rv.v = _; rw [e5]; rfl, p.fin hs2 x2⟩
def tO (K : PySem.W.Frag) (F : CallT) (io : IO) : TO := fun σ H Q => ∃ g s o s', StOk K g σ H s ∧ evO F io s = some (o, s') ∧ ∀ g' H', StOk K g' σ H' s' → Ext g s H g' s' H' → Q o H'
theorem po_imp {o : Option Expr} {t t' : TO} (h : PO X o t) (k : ∀ σ H Q, t' σ H Q → t σ H Q) : PO X o t' := ⟨fun pins s σ H Q I w => h.run pins s σ H Q I (k σ H Q w)⟩
theorem o_no : PO X none (tO X.K F .no) := po_imp po_none fun σ H Q ⟨g, s, o, s', hs, e, p⟩ => by
  cases e
  exact p g H hs (.refl _ _ _)
theorem o_so {e : Expr} {ie : IE} (he : PE X e (tX X F ie)) : PO X (some e) (tO X.K F (.so ie)) := po_imp (po_some he) fun σ H Q ⟨g, s, o, s', hs, e, p⟩ => by
  simp only [evO, Option.bind_eq_some_iff, Option.map_eq_some_iff] at e
  obtain ⟨q1, e1, i, e2, e3⟩ := e
  cases e3
  refine seq1 hs e1 fun v g1 H1 hs1 x1 r1 => ?_
  rw [asI_eq e2] at r1
  exact ⟨i, rv_int r1, p g1 H1 hs1 x1⟩
theorem e_slice {a : Expr} {lo hi : Option Expr} {ia : IE} {il ih : IO} {p2 : Pos} (ha : PE X a (tX X F ia)) (hl : PO X lo (tO X.K F il)) (hh : PO X hi (tO X.K F ih)) : PE X (.Subscript a (.Slice lo hi none p2) pos) (tX X F (.slice ia il ih)) :=
  pe_imp (pe_slice (SlR.or sl_any sl_list) ha hl hh) fun σ H Q ⟨g, s, rv, s', hs, e, p⟩ => by
    simp only [evE, Option.bind_eq_some_iff, Option.map_eq_some_iff] at e
    obtain ⟨q1, e1, q2, e2, q3, e3, r, e4, e5⟩ := e
    cases e5
    refine seq1 hs e1 fun v g1 H1 hs1 x1 r1 => ⟨g1, q1.2, q2.1, q2.2, hs1, e2, fun g2 H2 hs2 x2 => ⟨g2, q2.2, q3.1, q3.2, hs2, e3, fun g3 H3 hs3 x3 => ?_⟩⟩
    have r3 := r1.ext (x2.trans x3)
    have f := p.fin hs3 (x1.trans (x2.trans x3))
    cases hq : q1.1 with
    | scr ns =>
      rw [hq] at e4 r3
      cases e4
      obtain ⟨a, rfl, h1⟩ := r3
      refine .inr ⟨a, _, rfl, hs3.same.seq h1, fun l hl => ?_⟩
      rw [ints_cut]
      exact f.newL hs3.same (Dens.of_ints _) l hl
    | v d =>
      rw [hq] at e4 r3
      exact .inl ⟨g3.G, d, _, hs3.same, r3.cur rfl, e4, f⟩
    | f xs =>
      rw [hq] at e4 r3
      exact .inl ⟨g3.G, _, _, hs3.same, r3.cur rfl, e4, f⟩
    | fd xs =>
      rw [hq] at e4
      cases e4
    | dr =>
      rw [hq] at e4
      cases e4
def tSlN (K : PySem.W.Frag) (te : TE) (tl th : L2.TO) : TE := fun σ H Q => te σ H fun x H1 => tl σ H1 fun l H2 => th σ H2 fun u H3 =>
  (∃ a xs i j, x = .ref a ∧ SqT K H3 a xs ∧ Builtin.Slice.sliceAdjust l u (-1) (xs.length : Int) = (i, j) ∧ -1 ≤ j ∧ i < xs.length ∧ ∀ p, H3 p = none → Q (.ref p) (upd H3 p (.tup ((xs.drop (j + 1).toNat).take (i - j).toNat).reverse))) ∨
  (∃ a xs i j, x = .ref a ∧ SqL K H3 a xs ∧ sliceBounds l u (some (-1)) xs.length = (i, j, -1) ∧ -1 ≤ j ∧ i < xs.length ∧ ∀ p, H3 p = none → Q (.ref p) (upd H3 p (.lst ((xs.drop (j + 1).toNat).take (i - j).toNat).reverse)))
theorem pick_negL (xs : List Value) {lo hi : Option Int} {i j : Int} (h : sliceBounds lo hi (some (-1)) xs.length = (i, j, -1)) (hj : -1 ≤ j) (hi' : i < xs.length) : slicePick xs.toArray lo hi (some (-1)) = ((xs.drop (j + 1).toNat).take (i - j).toNat).reverse.toArray := by
  unfold slicePick
  rw [List.size_toArray, h]
  congr 1
  show (sliceRange i j (-1)).filterMap (xs.toArray[·]?) = _
  unfold sliceRange
  have h1 : ¬ ((-1 : Int) > 0) := by decide
  simp only [h1, if_false]
  have hc : (if i > j then (i - j - -1 - 1) / (- -1) else 0).toNat = (i - j).toNat := by
    split
    · rw [show (- -1 : Int) = 1 by decide, Int.ediv_one]; omega
    · omega
  rw [hc, List.filterMap_map]
  have e : ((fun x => xs.toArray[x]?) ∘ fun (k : Nat) => (i + -1 * (k : Int)).toNat) = fun (m : Nat) => xs.toArray[(i + (m : Int) * (-1)).toNat]? := by
    funext m
    show xs.toArray[(i + -1 * (m : Int)).toNat]? = _
    rw [Int.mul_comm]
  rw [e]
  by_cases hab : j ≤ i
  · rw [pick_neg xs i _ (by omega) hi']
    congr 3
    omega
  · have : (i - j).toNat = 0 := by omega
    rw [this]; simp
open PySem.Spec PyProof.Rows in
theorem pe_slN {e : Expr} {te : TE} {lo hi : Option Expr} {tl th : L2.TO} {k : Nat} {p1 p2 p3 : Pos} (he : PE X e te) (hl : PO X lo tl) (hu : PO X hi th) : PE X (.Subscript e (.Slice lo hi (some (.UnaryOp .USub (.Constant (.int 1) k p1) p2)) p3) pos) (tSlN X.K te tl th) := by
  refine ⟨fun pins s σ H Q I h => ?_⟩
  refine Subscript_ (thn (he.run pins s σ H _ I h) fun v s1 ⟨x, H1, I1, r1, q1⟩ => ?_)
  have hst : PO X (some (.UnaryOp .USub (.Constant (.int 1) k p1) p2)) (tPart (tUn (rU fun i => .int (-i)) (tC (.int 1)))) := po_some (pe_un un_neg pe_int)
  refine wpAny_Slice (thn (hl.run pins s1 σ H1 _ I1 q1) fun vl s2 ⟨l, H2, I2, pl, q2⟩ => thn (hu.run pins s2 σ H2 _ I2 q2) fun vu s3 ⟨u, H3, I3, pu, q3⟩ => ?_)
  refine thn (hst.run pins s3 σ H3 (fun o H4 => o = some (-1) ∧ H4 = H3) I3 ⟨1, rfl, -1, rfl, rfl, rfl⟩) fun vs s4 ⟨o, H4, I4, ps, eo, e4⟩ => ?_
  subst eo e4
  have I5 : Inv X pins σ H4 { s4 with heap := s4.heap.push { cls := .type "slice", data := .fields #[vl, vu, vs] } } := I4.kept (t' := s4.toks) fun b ob q => Heap.get?_push_of_some _ q
  show wpAny (model X.prog X.w) X.A (subscriptTail e (.Slice lo hi (some (.UnaryOp .USub (.Constant (.int 1) k p1) p2)) p3) v (.ref s4.heap.objs.size)) (EP X pins σ Q) X.xe { s4 with heap := s4.heap.push { cls := .type "slice", data := .fields #[vl, vu, vs] } }
  rcases q3 with ⟨a, xs, i, j, ex, hx, hb, hj, hi', q⟩ | ⟨a, xs, i, j, ex, hx, hb, hj, hi', q⟩
  · subst ex
    cases r1
    obtain ⟨its, r, ht, hz⟩ := I5.tuple hx
    have hlen : its.length = xs.length := r.length.symm
    refine tail_any (ops := [.ref a, .ref s4.heap.objs.size]) ht.typeIs (PyProof.Rows.slot_tuple_getitem.lookup) ?_ (by with_unfolding_all rfl)
    refine getItem_tuple_neg ht (Heap.IsSliceOf.new _ vl vu vs) pl pu ps (by rw [hlen]; exact hb) hj (by rw [hlen]; exact hi') ?_ (by rw [hlen]; exact hz)
    refine ⟨.ref _, _, I5.laid (t' := s4.toks) (o := .tup ((xs.drop (j + 1).toNat).take (i - j).toNat).reverse) (fun b ob q => Heap.get?_push_of_some _ q) (Nat.le_refl _) ?_, rfl, q _ (I5.hok.fresh (Nat.le_refl _))⟩
    exact ⟨by rw [List.length_reverse, List.length_take, List.length_drop]; omega, _, ((r.drop _).take _).reverse, PyProof.Rows.IsTup.new _ _⟩
  · subst ex
    cases r1
    obtain ⟨its, r, ht, hz⟩ := I5.list hx
    have hlen : its.length = xs.length := r.length.symm
    refine tail_any (ops := [.ref a, .ref s4.heap.objs.size]) ht.isList.typeIs (PySem.slot_list_getitem.lookup) ?_ (by with_unfolding_all rfl)
    refine wpAny_getItem_list_slice ht.isList (Heap.IsSliceOf.new _ vl vu vs) pl pu ps (by decide) ?_ (by rw [List.size_toArray]; omega)
    rw [pick_negL its (by rw [hlen]; exact hb) hj (by rw [hlen]; exact hi')]
    refine ⟨.ref _, _, I5.laid (t' := s4.toks) (o := .lst ((xs.drop (j + 1).toNat).take (i - j).toNat).reverse) (fun b ob q => Heap.get?_push_of_some _ q) (Nat.le_refl _) ?_, rfl, q _ (I5.hok.fresh (Nat.le_refl _))⟩
    exact ⟨by rw [List.length_reverse, List.length_take, List.length_drop]; omega, _, 0, ((r.drop _).take _).reverse, Heap.get?_push_size _ rfl⟩
theorem e_rev {a : Expr} {ia : IE} {k : Nat} {p1 p2 p3 : Pos} (ha : PE X a (tX X F ia)) : PE X (.Subscript a (.Slice none none (some (.UnaryOp .USub (.Constant (.int 1) k p1) p2)) p3) pos) (tX X F (.rev ia)) := pe_imp (pe_slN ha po_none po_none) fun σ H Q ⟨g, s, rv, s', hs, e, p⟩ => by
  simp only [evE, Option.bind_eq_some_iff, Option.map_eq_some_iff] at e
  obtain ⟨q1, e1, x, e2, r, e3, e4⟩ := e
  cases e4
  refine seq1 hs e1 fun v g1 H1 hs1 x1 r1 => ?_
  have c := r1.cur e2
  have all : ∀ {α : Type} (xs : List α), ((xs.drop ((-1 : Int) + 1).toNat).take ((xs.length : Int) - 1 - (-1)).toNat).reverse = xs.reverse := fun xs => by
    have h1 : ((-1 : Int) + 1).toNat = 0 := rfl
    have h2 : ((xs.length : Int) - 1 - (-1)).toNat = xs.length := by omega
    rw [h1, h2, List.drop_zero, List.take_length]
  cases x with
  | list xs =>
    cases e3
    obtain ⟨a, vs, ea, h1, h2⟩ := c.list hs1.same
    refine .inr ⟨a, vs, (vs.length : Int) - 1, -1, ea, .inl (.inl h1), rfl, by omega, by omega, fun q hq => ?_⟩
    rw [all]
    exact (p.fin hs1 x1).newL hs1.same h2.rev q hq
  | tuple xs =>
    cases e3
    obtain ⟨a, vs, ea, h1, h2⟩ := c.tuple hs1.same
    refine .inl ⟨a, vs, (vs.length : Int) - 1, -1, ea, h1, rfl, by omega, by omega, fun q hq => ?_⟩
    rw [all]
    exact (p.fin hs1 x1).newT hs1.same h2.rev q hq
  | none => cases e3
  | bool _ => cases e3
  | int _ => cases e3
  | str _ => cases e3
  | dict _ => cases e3
theorem e_slb {a b : Expr} {ia ib : IE} {k : Nat} {p1 p2 p3 : Pos} (ha : PE X a (tX X F ia)) (hb : PE X b (tX X F ib)) : PE X (.Subscript a (.Slice (some b) none (some (.UnaryOp .USub (.Constant (.int 1) k p1) p2)) p3) pos) (tX X F (.slb ia ib)) := pe_imp (pe_slN ha (po_some hb) po_none) fun σ H Q ⟨g, s, rv, s', hs, e, p⟩ => by
  simp only [evE, Option.bind_eq_some_iff, Option.map_eq_some_iff] at e
  obtain ⟨q1, e1, q2, e2, x, e3, i, e4, r, e5, e6⟩ := e
  cases e6
  refine seq2 hs e1 e2 fun v w g2 H2 hs2 x2 r1 r2 => ?_
  rw [asI_eq e4] at r2
  refine ⟨i, rv_int r2, ?_⟩
  have c := r1.cur e3
  cases x with
  | tuple xs =>
    simp only [slbR] at e5
    split at e5
    · rename_i hz
      cases e5
      obtain ⟨z1, z2⟩ := (Bool.and_eq_true _ _).mp hz
      have z1 := of_decide_eq_true z1
      obtain ⟨a, vs, ea, h1, h2⟩ := c.tuple hs2.same
      refine .inl ⟨a, vs, min i ((vs.length : Int) - 1), -1, ea, h1, ?_, by omega, by omega, fun q hq => ?_⟩
      · unfold Builtin.Slice.sliceAdjust
        have h1 : ((-1 : Int) < 0) := by decide
        simp only [h1, if_true]
        rw [if_neg (by omega)]
      · have h0 : ((-1 : Int) + 1).toNat = 0 := rfl
        have hm : (min i ((vs.length : Int) - 1) - (-1)).toNat = min (i.toNat + 1) vs.length := by omega
        have ht : (vs.drop ((-1 : Int) + 1).toNat).take (min i ((vs.length : Int) - 1) - (-1)).toNat = vs.take (i.toNat + 1) := by
          rw [h0, List.drop_zero, hm]
          by_cases hl : i.toNat + 1 ≤ vs.length
          · rw [Nat.min_eq_left hl]
          · rw [Nat.min_eq_right (by omega), List.take_length, List.take_of_length_le (by omega)]
        rw [ht]
        exact (p.fin hs2 x2).newT hs2.same (h2.take _).rev q hq
    · cases e5
  | list xs => cases e5
  | none => cases e5
  | bool _ => cases e5
  | int _ => cases e5
  | str _ => cases e5
  | dict _ => cases e5
theorem e_sla {a b : Expr} {ia ib : IE} {k : Nat} {p1 p2 p3 : Pos} (ha : PE X a (tX X F ia)) (hb : PE X b (tX X F ib)) : PE X (.Subscript a (.Slice none (some b) (some (.UnaryOp .USub (.Constant (.int 1) k p1) p2)) p3) pos) (tX X F (.sla ia ib)) := pe_imp (pe_slN ha po_none (po_some hb)) fun σ H Q ⟨g, s, rv, s', hs, e, p⟩ => by
  simp only [evE, Option.bind_eq_some_iff, Option.map_eq_some_iff] at e
  obtain ⟨q1, e1, q2, e2, x, e3, i, e4, r, e5, e6⟩ := e
  cases e6
  refine seq2 hs e1 e2 fun v w g2 H2 hs2 x2 r1 r2 => ?_
  rw [asI_eq e4] at r2
  refine ⟨i, rv_int r2, ?_⟩
  have c := r1.cur e3
  cases x with
  | list xs =>
    simp only [slaR] at e5
    split at e5
    · rename_i hz
      cases e5
      obtain ⟨z1, z2⟩ := (Bool.and_eq_true _ _).mp hz
      have z1 := of_decide_eq_true z1
      obtain ⟨a, vs, ea, h1, h2⟩ := c.list hs2.same
      refine .inr ⟨a, vs, (vs.length : Int) - 1, max (-1) (min i ((vs.length : Int) - 1)), ea, .inl (.inl h1), ?_, by omega, by omega, fun q hq => ?_⟩
      · unfold sliceBounds
        have h1 : ¬ ((-1 : Int) > 0) := by decide
        simp only [Option.getD_some, h1, if_false]
        rw [if_neg (by omega)]
      · have ht : (vs.drop (max (-1) (min i ((vs.length : Int) - 1)) + 1).toNat).take ((vs.length : Int) - 1 - max (-1) (min i ((vs.length : Int) - 1))).toNat = vs.drop (i.toNat + 1) := by
          by_cases hl : i.toNat + 1 ≤ vs.length
          · have h3 : (max (-1) (min i ((vs.length : Int) - 1)) + 1).toNat = i.toNat + 1 := by omega
            rw [h3]
            exact List.take_of_length_le (by rw [List.length_drop]; omega)
          · have h3 : (max (-1) (min i ((vs.length : Int) - 1)) + 1).toNat = vs.length := by omega
            rw [h3, List.drop_length, List.drop_of_length_le (by omega)]
            simp
        rw [ht]
        exact (p.fin hs2 x2).newL hs2.same (h2.drop _).rev q hq
    · cases e5
  | tuple xs => cases e5
  | none => cases e5
  | bool _ => cases e5
  | int _ => cases e5
  | str _ => cases e5
  | dict _ => cases e5
theorem trs_refs {K : PySem.W.Frag} {G H : Hp} (sm : Same G H) : ∀ {vs : List V} {ls : List (List Int)}, Trs K G vs ls → ∃ ks : List (Addr × List Int), vs = ks.map (fun p => V.ref p.1) ∧ ks.map (·.2) = ls ∧ ∀ p ∈ ks, SqT K H p.1 (p.2.map V.int)
  | _, _, .nil => ⟨[], rfl, rfl, fun p h => nomatch h⟩
  | _, _, .cons a r => by
    obtain ⟨ks, h1, h2, h3⟩ := trs_refs sm r
    obtain ⟨t, e, q⟩ := den_tupI a sm
    exact ⟨(t, _) :: ks, by rw [e, h1]; rfl, by rw [← h2]; rfl, fun p hp => (List.mem_cons.mp hp).elim (fun z => by rw [z]; exact q) (h3 p)⟩
theorem set_road {pins : List (Addr × Obj)} {s1 : Shared} {σ : L2.St} {G H1 : Hp} {x : V} {v : Value} {d : D} {n : Nat} {Q : Value → Shared → Prop} (hc : X.calm = true) (hu : X.A.units + 64 < cLine) (I1 : Inv X pins σ H1 s1) (r1 : RelV x v) (sm : Same G H1) (c : Cur X.K G H1 x d) (e : lenSetD d = some n)
    (h : ∀ (h' : Heap) (tk : Nat), SetN h' s1.heap.objs.size n → (∀ b o, s1.heap.get? b = some o → h'.get? b = some o) → Q (.ref s1.heap.objs.size) { s1 with heap := h', toks := tk }) : wpAny (model X.prog X.w) X.A (call (.type "set") [v]) Q X.xe s1 := by
  cases d with
  | list xs =>
    obtain ⟨a, vs, ea, h1, h2⟩ := c.list sm
    subst ea
    cases r1
    obtain ⟨its, r, pl, -⟩ := I1.list (show SqL X.K H1 a vs from .inl (.inl h1))
    simp only [lenSetD] at e
    split at e
    · rename_i ns hi
      split at e
      · rename_i hz
        cases e
        have e1 := (h2.ints hi).1
        subst e1
        exact set_listI (I1.ok.hd hc) pl.isList (by simpa using r.ints) (of_decide_eq_true hz) h
      · cases e
    · split at e
      · rename_i ls hi
        split at e
        · rename_i hz
          cases e
          obtain ⟨ks, k1, k2, k3⟩ := trs_refs sm (h2.trs hi)
          subst k1 k2
          exact set_listT ks (I1.ok.hd hc) pl.isList (by simpa using refs_of_vals r) (fun p hp => I1.isT (k3 p hp)) (by simpa using of_decide_eq_true hz) (by omega) h
        · cases e
      · cases e
  | tuple xs =>
    obtain ⟨a, vs, ea, h1, h2⟩ := c.tuple sm
    subst ea
    cases r1
    obtain ⟨its, r, pl, -⟩ := I1.tuple h1
    simp only [lenSetD] at e
    split at e
    · rename_i ns hi
      split at e
      · rename_i hz
        cases e
        have e1 := (h2.ints hi).1
        subst e1
        exact set_tupI (I1.ok.hd hc) pl (by simpa using r.ints) (of_decide_eq_true hz) fun h' tk k1 _ k2 => h h' tk k1 k2
      · cases e
    · cases e
  | none => cases e
  | bool _ => cases e
  | int _ => cases e
  | str _ => cases e
  | dict _ => cases e
def tLenSet (K : PySem.W.Frag) (ta : TE) : TE := fun σ H Q => ta σ H fun x H1 => ∃ G d n, Same G H1 ∧ Cur K G H1 x d ∧ lenSetD d = some n ∧ Q (.int (n : Nat)) H1
theorem lenSet_small {d : D} {n : Nat} (h : lenSetD d = some n) : n < 64 := by
  have le : ∀ {α : Type} [DecidableEq α] (l : List α), (nub l).length ≤ l.length := fun l => nodup_le (nub_nodup l) fun x hx => mem_nub.mp hx
  cases d with
  | list xs =>
    simp only [lenSetD] at h
    split at h
    · rename_i ns _
      split at h
      · rename_i hz
        cases h
        have := of_decide_eq_true hz
        have := le ns
        omega
      · cases h
    · split at h
      · rename_i ls _
        split at h
        · rename_i hz
          cases h
          have := of_decide_eq_true hz
          have := le ls
          omega
        · cases h
      · cases h
  | tuple xs =>
    simp only [lenSetD] at h
    split at h
    · rename_i ns _
      split at h
      · rename_i hz
        cases h
        have := of_decide_eq_true hz
        have := le ns
        omega
      · cases h
    · cases h
  | none => cases h
  | bool _ => cases h
  | int _ => cases h
  | str _ => cases h
  | dict _ => cases h
open PySem.Spec PyProof.Rows in
theorem pe_lenSet {a : Expr} {ta : TE} {p p2 q : Pos} (hc : X.calm = true) (hu : X.A.units + 64 < cLine) (hg : Gl X "len") (hm : X.mg "len" = none) (hg2 : Gl X "set") (hm2 : X.mg "set" = none) (ha : PE X a ta)
    (na : starEach [a] X.env = (false, eval a X.env) :: starEach [] X.env) : PE X (.Call (.Name "len" p) [.Call (.Name "set" p2) [a] [] q] [] pos) (tLenSet X.K ta) := by
  refine ⟨fun pins s σ H Q I h => ?_⟩
  refine Call_ (ld_blt I hg hm PySem.boot_len ?_)
  refine PyProof.Rows.callWith_builtin1 (PyProof.Rows.args_cons ?_ rfl) rfl rfl
  refine Call_ (ld_blt I hg2 hm2 PyProof.Rows.boot_set ?_)
  refine PyProof.Rows.callWith_type1 (PyProof.Rows.args_cons (thn (ha.run pins s σ H _ I h) fun v s1 ⟨x, H1, I1, r1, q1⟩ => PyProof.Rows.args_nil ?_) na) na rfl
  obtain ⟨G, d, n, sm, c, e, q1⟩ := q1
  refine set_road hc hu I1 r1 sm c e fun h' tk hS hk => ?_
  refine PyProof.Rows.args_nil ?_
  obtain ⟨o, es, ep, t, ho, hex, hd, hf, hn⟩ := hS
  have hlt := lenSet_small e
  have I2 : Inv X pins σ H1 { s1 with heap := h', toks := tk } := I1.kept fun b o e => hk b o e
  refine PySem.call_len_set ho hex hd hf (by rw [hn]; omega) ⟨.int (n : Nat), H1, I2.tok _, ⟨_, by rw [hn]⟩, q1⟩
theorem e_lenSet {a : Expr} {ia : IE} {p p2 q : Pos} (hc : X.calm = true) (hu : X.A.units + 64 < cLine) (hg : Gl X "len") (hm : X.mg "len" = none) (hg2 : Gl X "set") (hm2 : X.mg "set" = none) (ha : PE X a (tX X F ia))
    (na : starEach [a] X.env = (false, eval a X.env) :: starEach [] X.env) : PE X (.Call (.Name "len" p) [.Call (.Name "set" p2) [a] [] q] [] pos) (tX X F (.bi .lenSet (.cons ia .nil))) := pe_imp (pe_lenSet hc hu hg hm hg2 hm2 ha na) fun σ H Q ⟨g, s, rv, s', hs, e, p⟩ => by
  simp only [evE, evEs, Option.bind_eq_some_iff, Option.map_eq_some_iff] at e
  obtain ⟨q1, ⟨q2, e1, a1, e2, q3, e3, e4⟩, xs, e5, r, e6, e7⟩ := e
  cases e3
  cases e4
  cases e7
  simp only [dAll, Option.bind_eq_some_iff, Option.map_eq_some_iff] at e5
  obtain ⟨d, d1, _, d2, rfl⟩ := e5
  cases d2
  simp only [biR, Option.map_eq_some_iff] at e6
  obtain ⟨n, e8, rfl⟩ := e6
  refine seq1 hs e1 fun v g1 H1 hs1 x1 r1 => ?_
  obtain ⟨g1', hs1', x1', r1', _⟩ := freeze hs1 x1 r1 e2
  have c : Cur X.K g1'.G H1 v d := r1'.cur d1
  exact ⟨g1'.G, d, n, hs1'.same, c, e8, p.same hs1' x1' (Den.int _)⟩
def tSortSet (K : PySem.W.Frag) (ta : TE) : TE := fun σ H Q => ta σ H fun x H1 => ∃ G d ys, Same G H1 ∧ Cur K G H1 x d ∧ sortSetD d = some ys ∧ Fin K G H1 (.f ys) Q
open PySem.Spec PyProof.Rows in
theorem pe_sortSet {a : Expr} {ta : TE} {p p2 q : Pos} (hc : X.calm = true) (hu : X.A.units + 64 < cLine) (hg : Gl X "sorted") (hm : X.mg "sorted" = none) (hg2 : Gl X "set") (hm2 : X.mg "set" = none) (ha : PE X a ta)
    (na : starEach [a] X.env = (false, eval a X.env) :: starEach [] X.env) : PE X (.Call (.Name "sorted" p) [.Call (.Name "set" p2) [a] [] q] [] pos) (tSortSet X.K ta) := by
  refine ⟨fun pins s σ H Q I h => ?_⟩
  refine Call_ (ld_blt I hg hm (by decide +kernel : bootBuiltins "sorted" = some (.builtin "sorted")) ?_)
  refine PyProof.Rows.callWith_builtin1 (PyProof.Rows.args_cons ?_ rfl) rfl rfl
  refine Call_ (ld_blt I hg2 hm2 PyProof.Rows.boot_set ?_)
  refine PyProof.Rows.callWith_type1 (PyProof.Rows.args_cons (thn (ha.run pins s σ H _ I h) fun v s1 ⟨x, H1, I1, r1, q1⟩ => PyProof.Rows.args_nil ?_) na) na rfl
  obtain ⟨G, d, ys, sm, c, e, q1⟩ := q1
  cases d with
  | tuple xs =>
    obtain ⟨a, vs, ea, h1, h2⟩ := c.tuple sm
    subst ea
    cases r1
    obtain ⟨its, r, pl, -⟩ := I1.tuple h1
    simp only [sortSetD] at e
    split at e
    · rename_i ns hi
      split at e
      · rename_i hz
        cases e
        have e1 := (h2.ints hi).1
        subst e1
        have hz := of_decide_eq_true hz
        have hnl : (nub ns).length ≤ ns.length := nodup_le (nub_nodup ns) fun x hx => mem_nub.mp hx
        refine set_tupI (I1.ok.hd hc) pl (by simpa using r.ints) hz fun h' tk hS R hk => PyProof.Rows.args_nil ?_
        have I2 : Inv X pins σ H1 { s1 with heap := h', toks := tk } := I1.kept fun b o e => hk b o e
        refine L2.sorted_set (s := { s1 with heap := h', toks := tk }) R (I1.ok.hd hc) (by omega) fun s' p out cc ms k1 g1 o1 hp ho hint hpw hmem hlen => ?_
        have em : ms = sortI (nub ns) := by
          refine sortI_eq ?_ (hpw.imp fun h => Int.le_of_lt h)
          refine (List.perm_ext_iff_of_nodup ?_ (nub_nodup ns)).mpr fun x => ?_
          · exact hpw.imp fun h => Int.ne_of_lt h
          · rw [hmem, mem_nub]; simp
        subst em
        have hb : H1 p = none := I2.hok.fresh hp
        have hlen2 : ((sortI (nub ns)).map V.int).length ≤ sizeLine := by rw [List.length_map, hlen, sizeLine_eq]; omega
        have J : Inv X pins σ (upd H1 p (.lst ((sortI (nub ns)).map V.int))) { ({ s1 with heap := h', toks := tk } : Shared) with heap := s'.heap, gens := s'.gens, drawn := s'.drawn, toks := s'.toks } :=
          I2.call (ch := []) (Un.laid k1 hp hb) (I2.hok.laid k1 hp ⟨hlen2, out.toList, cc, vals_of_ints hint, ho⟩) (by rw [g1]; exact I2.bare) (fun _ z => nomatch z)
        have es : s' = { ({ s1 with heap := h', toks := tk } : Shared) with heap := s'.heap, gens := s'.gens, drawn := s'.drawn, toks := s'.toks } := by
          cases s'
          cases s1
          cases o1
          rfl
        rw [es]
        exact ⟨.ref p, _, J, rfl, q1.newL sm (Dens.of_ints _) p hb⟩
      · cases e
    · cases e
  | list _ => cases e
  | none => cases e
  | bool _ => cases e
  | int _ => cases e
  | str _ => cases e
  | dict _ => cases e
theorem e_sortSet {a : Expr} {ia : IE} {p p2 q : Pos} (hc : X.calm = true) (hu : X.A.units + 64 < cLine) (hg : Gl X "sorted") (hm : X.mg "sorted" = none) (hg2 : Gl X "set") (hm2 : X.mg "set" = none) (ha : PE X a (tX X F ia))
    (na : starEach [a] X.env = (false, eval a X.env) :: starEach [] X.env) : PE X (.Call (.Name "sorted" p) [.Call (.Name "set" p2) [a] [] q] [] pos) (tX X F (.bi .sortSet (.cons ia .nil))) := pe_imp (pe_sortSet hc hu hg hm hg2 hm2 ha na) fun σ H Q ⟨g, s, rv, s', hs, e, p⟩ => by
  simp only [evE, evEs, Option.bind_eq_some_iff, Option.map_eq_some_iff] at e
  obtain ⟨q1, ⟨q2, e1, a1, e2, q3, e3, e4⟩, xs, e5, r, e6, e7⟩ := e
  cases e3
  cases e4
  cases e7
  simp only [dAll, Option.bind_eq_some_iff, Option.map_eq_some_iff] at e5
  obtain ⟨d, d1, _, d2, rfl⟩ := e5
  cases d2
  simp only [biR, Option.map_eq_some_iff] at e6
  obtain ⟨n, e8, rfl⟩ := e6
  refine seq1 hs e1 fun v g1 H1 hs1 x1 r1 => ?_
  obtain ⟨g1', hs1', x1', r1', _⟩ := freeze hs1 x1 r1 e2
  have c : Cur X.K g1'.G H1 v d := r1'.cur d1
  exact ⟨g1'.G, d, n, hs1'.same, c, e8, p.fin hs1' x1'⟩
theorem e_bi {x : Str} {id : String} {b : BI} {e : Expr} {es : List Expr} {ies : IEs} {p0 : Pos} (hc : CallR X (.builtin id) (rB X.K b)) (hg : Gl X x) (hm : X.mg x = none) (hv : bootBuiltins x = some (.builtin id)) (ha : PA X (e :: es) (tAs X.K F ies))
    (hn : x ≠ "__name__") (hdb : (x == ("__debug__" : Str)) = false) (he : starEach (e :: es) X.env = (false, eval e X.env) :: starEach es X.env) (hpl : (backTo pos (starEach es X.env)).any (·.1) = false) :
    PE X (.Call (.Name x p0) (e :: es) [] pos) (tX X F (.bi b ies)) := pe_imp (pe_callB hc hg hm hv ha hn hdb he hpl) fun σ H Q ⟨g, s, rv, s', hs, e, p⟩ => by
  simp only [evE, Option.bind_eq_some_iff, Option.map_eq_some_iff] at e
  obtain ⟨q1, e1, xs, e2, r, e3, e4⟩ := e
  cases e4
  exact ⟨g, s, _, _, hs, e1, fun vs g1 H1 hs1 x1 r1 => ⟨g1.G, xs, _, hs1.same, r1.dens e2, e3, p.fin hs1 x1⟩⟩
theorem e_biTy {x : Str} {T : String} {b : BI} {e : Expr} {es : List Expr} {ies : IEs} {p0 : Pos} (hc : CallR X (.type T) (rB X.K b)) (hg : Gl X x) (hm : X.mg x = none) (hv : bootBuiltins x = some (.type T)) (ha : PA X (e :: es) (tAs X.K F ies))
    (hn : x ≠ "__name__") (hdb : (x == ("__debug__" : Str)) = false) (he : starEach (e :: es) X.env = (false, eval e X.env) :: starEach es X.env) (hpl : (backTo pos (starEach es X.env)).any (·.1) = false) :
    PE X (.Call (.Name x p0) (e :: es) [] pos) (tX X F (.bi b ies)) := pe_imp (pe_callTy hc hg hm hv ha hn hdb he hpl) fun σ H Q ⟨g, s, rv, s', hs, e, p⟩ => by
  simp only [evE, Option.bind_eq_some_iff, Option.map_eq_some_iff] at e
  obtain ⟨q1, e1, xs, e2, r, e3, e4⟩ := e
  cases e4
  exact ⟨g, s, _, _, hs, e1, fun vs g1 H1 hs1 x1 r1 => ⟨g1.G, xs, _, hs1.same, r1.dens e2, e3, p.fin hs1 x1⟩⟩
end Tl

namespace Tl
open PySem L2

section
variable {K : PySem.W.Frag} {g g0 : Gh} {σ : L2.St} {H H0 : Hp} {s s0 : Sta}

theorem get_set {l : List Slot} {i j : Nat} {y x : Slot} (h : (l.set i y)[j]? = some x) : (j = i ∧ x = y ∧ i < l.length) ∨ (j ≠ i ∧ l[j]? = some x) := by
  by_cases e : j = i
  · subst e
    by_cases hl : j < l.length
    · rw [List.getElem?_set_self hl] at h
      cases h
      exact .inl ⟨rfl, rfl, hl⟩
    · rw [List.getElem?_eq_none (by rw [List.length_set]; omega)] at h
      cases h
  · rw [List.getElem?_set_ne (fun z => e z.symm)] at h
    exact .inr ⟨e, h⟩
theorem own_set {l : List Slot} {i j : Nat} {y : Slot} (h : isOwn ((l.set i y)[j]?)) : (j = i ∧ isOwn (some y)) ∨ (j ≠ i ∧ isOwn (l[j]?)) := by
  cases e : (l.set i y)[j]? with
  | none => rw [e] at h; exact h.elim
  | some x =>
    rw [e] at h
    rcases get_set e with ⟨h1, h2, _⟩ | ⟨h1, h2⟩
    · subst h2
      exact .inl ⟨h1, h⟩
    · exact .inr ⟨h1, by rw [h2]; exact h⟩
theorem dr_set {l : List Slot} {i j : Nat} {y : Slot} (h : isDr ((l.set i y)[j]?)) : (j = i ∧ isDr (some y)) ∨ (j ≠ i ∧ isDr (l[j]?)) := by
  cases e : (l.set i y)[j]? with
  | none => rw [e] at h; exact h.elim
  | some x =>
    rw [e] at h
    rcases get_set e with ⟨h1, h2, _⟩ | ⟨h1, h2⟩
    · subst h2
      exact .inl ⟨h1, h⟩
    · exact .inr ⟨h1, by rw [h2]; exact h⟩
theorem ow_sub {i : Nat} {y : Slot} (hy : ¬ isOwn (some y)) {a : Addr} (w : Ow g (s.set i y) a) : Ow g s a := by
  rcases w with ⟨j, h, e⟩ | w
  · rcases own_set h with ⟨_, h2⟩ | ⟨_, h2⟩
    · exact absurd h2 hy
    · exact .inl ⟨j, h2, e⟩
  · exact .inr w
theorem bnd_val (hs : StOk K g σ H s) {x : Nat} (h : bnd s x = true) : ∃ v, σ[x]? = some (some v) := by
  unfold bnd at h
  split at h
  · cases h
  · cases h
  · rename_i sl e2 e1
    have q := hs.slot x sl e1
    cases sl with
    | no => exact absurd rfl e2
    | v d => obtain ⟨v, e, _⟩ := q; exact ⟨v, e⟩
    | own xs => exact ⟨_, q.1⟩
    | dct xs => exact ⟨_, q.1⟩
    | dr => exact ⟨_, q⟩
    | drr => exact ⟨_, q⟩
    | scr ns => obtain ⟨a, e, _⟩ := q; exact ⟨_, e⟩

theorem StOk.fz (hs : StOk K g σ H s) {i : Nat} {xs : List D} (e : s.g[i]? = some (.own xs)) :
    ∃ g', StOk K g' σ H (s.set i (.v (.list xs))) ∧ Ext g s H g' (s.set i (.v (.list xs))) H ∧ ∃ v, σ[i]? = some (some v) ∧ Den K g'.G v (.list xs) := by
  obtain ⟨e1, vs, h1, h2⟩ := hs.slot i _ e
  have hw : Ow g s (g.ow i) := .inl ⟨i, by rw [e]; trivial, rfl⟩
  have hn := hs.sep _ hw
  have m : Same g.G (upd g.G (g.ow i) (.lst vs)) := same_new hn
  have own : isOwn (s.g[i]?) := by rw [e]; trivial
  have dn : Den K (upd g.G (g.ow i) (.lst vs)) (.ref (g.ow i)) (.list xs) := .lst upd_same (h2.mono m)
  refine ⟨g.wG (upd g.G (g.ow i) (.lst vs)), ⟨fun b o q => ?_, ?_, fun j x q => ?_, fun j k hj hk q => ?_, fun a w => ?_, fun S q => (hs.dro S q).pure m (Same.refl _), fun q j hj => ?_, fun j hj => ?_⟩, ⟨m, fun b o q _ => q, fun b q => ?_, fun b w => .inl (ow_sub (y := .v (.list xs)) (fun z => z) (ow_wG.mp w)), fun _ q => q, fun q => ⟨q, rfl, rfl⟩⟩, _, e1, dn⟩
  · by_cases hb : b = g.ow i
    · subst hb
      have q' : some (HO.lst vs) = some o := by rw [← q]; exact upd_same.symm
      rw [h1]; exact q'
    · have q' : g.G b = some o := by rw [← q]; exact (upd_ne hb).symm
      exact hs.same _ _ q'
  · show σ.length = (s.g.set i _).length
    rw [List.length_set]; exact hs.len
  · rcases get_set q with ⟨rfl, rfl, _⟩ | ⟨hj, q⟩
    · exact ⟨_, e1, dn⟩
    · exact (hs.slot j x q).pure m (Same.refl _)
  · rcases own_set hj with ⟨_, z⟩ | ⟨_, hj⟩
    · exact z.elim
    · rcases own_set hk with ⟨_, z⟩ | ⟨_, hk⟩
      · exact z.elim
      · exact hs.inj j k hj hk q
  · have ha : a ≠ g.ow i := fun z => by
      rcases w with ⟨j, hj, q⟩ | ⟨q, w⟩
      · rcases own_set hj with ⟨_, y⟩ | ⟨n, hj⟩
        · exact y.elim
        · exact n (hs.inj j i hj own (q.trans z))
      · obtain ⟨k1, k2⟩ := hs.drw q i own
        rcases w with w | w
        · exact k1 (z.symm.trans w)
        · exact k2 (z.symm.trans w)
    show upd g.G (g.ow i) (.lst vs) a = none
    rw [upd_ne ha]
    exact hs.sep a (ow_sub (y := .v (.list xs)) (fun z => z) (ow_wG.mp w))
  · rcases own_set hj with ⟨_, z⟩ | ⟨_, hj⟩
    · exact z.elim
    · exact hs.drw q j hj
  · rcases dr_set hj with ⟨_, z⟩ | ⟨_, hj⟩
    · exact z.elim
    · exact hs.drs j hj
  · by_cases hb : b = g.ow i
    · subst hb
      exact .inr (.inr hw)
    · have q' : g.G b ≠ none := fun z => q (by show upd g.G (g.ow i) (.lst vs) b = none; rw [upd_ne hb]; exact z)
      exact .inl q'

def Rv.isF : Rv → Bool
  | .f _ => true
  | .fd _ => true
  | _ => false
theorem StOk.setS {v : V} {y : Slot} (hs : StOk K g σ H s) (i : Nat) (hn : ¬ isOwn (some y)) (hd : isDr (some y) → s.s.isSome = true) (hsl : SlotOk K g H (some (some v)) i y) :
    StOk K g (σ.set i (some v)) H (s.set i y) ∧ Ext g s H g (s.set i y) H := by
  refine ⟨⟨hs.same, ?_, fun j x e => ?_, fun j k hj hk e => ?_, fun a w => hs.sep a (ow_sub hn w), hs.dro, fun e j hj => ?_, fun j hj => ?_⟩, ⟨Same.refl _, fun _ _ e _ => e, fun _ e => .inl e, fun b w => .inl (ow_sub hn w), fun _ e => e, fun e => ⟨e, rfl, rfl⟩⟩⟩
  · show (σ.set i (some v)).length = (s.g.set i y).length
    rw [List.length_set, List.length_set]; exact hs.len
  · rcases get_set e with ⟨rfl, rfl, hi⟩ | ⟨hj, e⟩
    · rw [List.getElem?_set_self (by rw [hs.len]; exact hi)]; exact hsl
    · rw [List.getElem?_set_ne (fun z => hj z.symm)]; exact hs.slot j x e
  · rcases own_set hj with ⟨_, z⟩ | ⟨_, hj⟩
    · exact absurd z hn
    · rcases own_set hk with ⟨_, z⟩ | ⟨_, hk⟩
      · exact absurd z hn
      · exact hs.inj j k hj hk e
  · rcases own_set hj with ⟨_, z⟩ | ⟨_, hj⟩
    · exact absurd z hn
    · exact hs.drw e j hj
  · rcases dr_set hj with ⟨_, z⟩ | ⟨_, hj⟩
    · exact hd z
    · exact hs.drs j hj
theorem StOk.setR {v : V} {rv : Rv} (hs : StOk K g σ H s) (x : Ext g0 s0 H0 g s H) (q : RvOk K g s H H0 v rv) (i : Nat) :
    ∃ g', StOk K g' (σ.set i (some v)) H (s.set i rv.slot) ∧ Ext g0 s0 H0 g' (s.set i rv.slot) H ∧ g'.G = g.G ∧ g'.p = g.p ∧ g'.r = g.r ∧ ∀ b, Ow g' (s.set i rv.slot) b → Ow g s b ∨ (v = .ref b ∧ rv.isF = true) := by
  have hlen : (σ.set i (some v)).length = (s.g.set i rv.slot).length := by
    rw [List.length_set, List.length_set]; exact hs.len
  have hold : ∀ {g' : Gh} {j : Nat} {y : Slot}, g'.G = g.G → g'.p = g.p → g'.r = g.r → j ≠ i → g'.ow j = g.ow j → s.g[j]? = some y → SlotOk K g' H ((σ.set i (some v))[j]?) j y := fun {g' j y} e1 e2 e3 hj e4 q => by
    have h := hs.slot j y q
    rw [List.getElem?_set_ne (fun z => hj z.symm)]
    cases y with
    | no => trivial
    | v d =>
      obtain ⟨w, h1, h2⟩ := h
      exact ⟨w, h1, by rw [e1]; exact h2⟩
    | own xs =>
      obtain ⟨h1, vs, h2, h3⟩ := h
      exact ⟨by rw [e4]; exact h1, vs, by rw [e4]; exact h2, by rw [e1]; exact h3⟩
    | dct xs =>
      obtain ⟨h1, vs, h2, h3⟩ := h
      exact ⟨by rw [e4]; exact h1, vs, by rw [e4]; exact h2, by rw [e1]; exact h3⟩
    | dr => show _ = _; rw [e2]; exact h
    | drr => show _ = _; rw [e3]; exact h
    | scr ns =>
      obtain ⟨a, h1, h2⟩ := h
      exact ⟨a, h1, by rw [e1]; exact h2⟩
  have here : ∀ {j : Nat}, i < s.g.length → (σ.set i (some v))[i]? = some (some v) := fun {_} hi => List.getElem?_set_self (by rw [hs.len]; exact hi)
  -- the cases that own nothing
  have plain : ¬ isOwn (some rv.slot) → (isDr (some rv.slot) → s.s.isSome = true) → (i < s.g.length → SlotOk K g H (some (some v)) i rv.slot) →
      ∃ g', StOk K g' (σ.set i (some v)) H (s.set i rv.slot) ∧ Ext g0 s0 H0 g' (s.set i rv.slot) H ∧ g'.G = g.G ∧ g'.p = g.p ∧ g'.r = g.r ∧ ∀ b, Ow g' (s.set i rv.slot) b → Ow g s b ∨ (v = .ref b ∧ rv.isF = true) := fun hn hd hsl => by
    refine ⟨g, ⟨hs.same, hlen, fun j y e => ?_, fun j k hj hk e => ?_, fun a w => hs.sep a (ow_sub hn w), hs.dro, fun e j hj => ?_, fun j hj => ?_⟩, ⟨x.mono, x.keep, x.newG, fun b w => x.own b (ow_sub hn w), x.trk, x.dr⟩, rfl, rfl, rfl, fun b w => .inl (ow_sub hn w)⟩
    · rcases get_set e with ⟨rfl, rfl, hi⟩ | ⟨hj, e⟩
      · rw [here (j := 0) hi]; exact hsl hi
      · exact hold rfl rfl rfl hj rfl e
    · rcases own_set hj with ⟨_, z⟩ | ⟨_, hj⟩
      · exact absurd z hn
      · rcases own_set hk with ⟨_, z⟩ | ⟨_, hk⟩
        · exact absurd z hn
        · exact hs.inj j k hj hk e
    · rcases own_set hj with ⟨_, z⟩ | ⟨_, hj⟩
      · exact absurd z hn
      · exact hs.drw e j hj
    · rcases dr_set hj with ⟨_, z⟩ | ⟨_, hj⟩
      · exact hd z
      · exact hs.drs j hj
  -- a new object
  have fresh : ∀ (a : Addr) (o : HO), v = .ref a → H a = some o → g.G a = none → ¬ Ow g s a → H0 a = none → isOwn (some rv.slot) → (isDr (some rv.slot) → False) → rv.isF = true → SlotOk K { g with ow := fun j => if j = i then a else g.ow j } H (some (some v)) i rv.slot →
      ∃ g', StOk K g' (σ.set i (some v)) H (s.set i rv.slot) ∧ Ext g0 s0 H0 g' (s.set i rv.slot) H ∧ g'.G = g.G ∧ g'.p = g.p ∧ g'.r = g.r ∧ ∀ b, Ow g' (s.set i rv.slot) b → Ow g s b ∨ (v = .ref b ∧ rv.isF = true) := fun a o ev h1 h3 h4 h5 ho hd hF hsl => by
    have eo : ∀ j, j ≠ i → (if j = i then a else g.ow j) = g.ow j := fun j hj => if_neg hj
    have wo : ∀ {b : Addr}, Ow { g with ow := fun j => if j = i then a else g.ow j } (s.set i rv.slot) b → b = a ∨ Ow g s b := fun {b} w => by
      rcases w with ⟨j, hj, e⟩ | w
      · by_cases hji : j = i
        · subst hji
          have e' : a = b := by rw [← e]; exact (if_pos rfl).symm
          exact .inl e'.symm
        · have e' : g.ow j = b := by rw [← e]; exact (if_neg hji).symm
          rcases own_set hj with ⟨z, _⟩ | ⟨_, hj⟩
          · exact absurd z hji
          · exact .inr (.inl ⟨j, hj, e'⟩)
      · exact .inr (.inr w)
    refine ⟨{ g with ow := fun j => if j = i then a else g.ow j }, ⟨hs.same, hlen, fun j y e => ?_, fun j k hj hk e => ?_, fun b w => ?_, hs.dro, fun e j hj => ?_, fun j hj => ?_⟩, ⟨x.mono, x.keep, x.newG, fun b w => ?_, x.trk, x.dr⟩, rfl, rfl, rfl, fun b w => (wo w).elim (fun z => .inr ⟨by rw [ev, z], hF⟩) .inl⟩
    · rcases get_set e with ⟨rfl, rfl, hi⟩ | ⟨hj, e⟩
      · rw [here (j := 0) hi]; exact hsl
      · exact hold rfl rfl rfl hj (eo j hj) e
    · have e : (if j = i then a else g.ow j) = (if k = i then a else g.ow k) := e
      rcases own_set hj with ⟨z, _⟩ | ⟨z, hj⟩
      · rcases own_set hk with ⟨y, _⟩ | ⟨y, hk⟩
        · rw [z, y]
        · rw [if_pos z, if_neg y] at e
          exact absurd (.inl ⟨k, hk, e.symm⟩) h4
      · rcases own_set hk with ⟨y, _⟩ | ⟨y, hk⟩
        · rw [if_neg z, if_pos y] at e
          exact absurd (.inl ⟨j, hj, e⟩) h4
        · rw [if_neg z, if_neg y] at e
          exact hs.inj j k hj hk e
    · rcases wo w with rfl | w
      · exact h3
      · exact hs.sep b w
    · show (if j = i then a else g.ow j) ≠ g.p ∧ (if j = i then a else g.ow j) ≠ g.r
      by_cases hji : j = i
      · rw [if_pos hji]
        exact ⟨fun z => h4 (.inr ⟨e, .inl z⟩), fun z => h4 (.inr ⟨e, .inr z⟩)⟩
      · rw [if_neg hji]
        rcases own_set hj with ⟨z, _⟩ | ⟨_, hj⟩
        · exact absurd z hji
        · exact hs.drw e j hj
    · rcases dr_set hj with ⟨_, z⟩ | ⟨_, hj⟩
      · exact (hd z).elim
      · exact hs.drs j hj
    · rcases wo w with rfl | w
      · exact .inr h5
      · exact x.own b w
  cases rv with
  | v d => exact plain (fun z => z) (fun z => z.elim) fun _ => ⟨v, rfl, q⟩
  | dr => exact plain (fun z => z) (fun _ => q.1) fun _ => by show some (some v) = some (some _); rw [q.2]
  | scr ns =>
    obtain ⟨a, e, h⟩ := q
    exact plain (fun z => z) (fun z => z.elim) fun _ => ⟨a, by rw [e], h⟩
  | f xs =>
    obtain ⟨a, vs, rfl, h1, h2, h3, h4, h5⟩ := q
    refine fresh a _ rfl h1 h3 h4 h5 trivial (fun z => z) rfl ⟨?_, vs, ?_, h2⟩
    · show some (some (V.ref a)) = some (some (V.ref (if i = i then a else g.ow i)))
      rw [if_pos rfl]
    · show H (if i = i then a else g.ow i) = _
      rw [if_pos rfl]; exact h1
  | fd xs =>
    obtain ⟨a, vs, rfl, h1, h2, h3, h4, h5⟩ := q
    refine fresh a _ rfl h1 h3 h4 h5 trivial (fun z => z) rfl ⟨?_, vs, ?_, h2⟩
    · show some (some (V.ref a)) = some (some (V.ref (if i = i then a else g.ow i)))
      rw [if_pos rfl]
    · show H (if i = i then a else g.ow i) = _
      rw [if_pos rfl]; exact h1

theorem StOk.wr (hs : StOk K g σ H s) {i : Nat} {y : Slot} {o : HO} (e : isOwn (s.g[i]?)) (hy : isOwn (some y)) (hd : ¬ isDr (some y)) (hsl : SlotOk K g (upd H (g.ow i) o) (σ[i]?) i y) :
    StOk K g σ (upd H (g.ow i) o) (s.set i y) ∧ Ext g s H g (s.set i y) (upd H (g.ow i) o) := by
  have hw : Ow g s (g.ow i) := .inl ⟨i, e, rfl⟩
  have hn := hs.sep _ hw
  have wo : ∀ {b : Addr}, Ow g (s.set i y) b → Ow g s b := fun {b} w => by
    rcases w with ⟨j, hj, q⟩ | w
    · rcases own_set hj with ⟨z, _⟩ | ⟨_, hj⟩
      · rw [z] at q
        exact .inl ⟨i, e, q⟩
      · exact .inl ⟨j, hj, q⟩
    · exact .inr w
  refine ⟨⟨fun b u q => ?_, ?_, fun j x q => ?_, fun j k hj hk q => ?_, fun a w => hs.sep a (wo w), fun S q => ?_, fun q j hj => ?_, fun j hj => ?_⟩, ⟨Same.refl _, fun b u q nw => ?_, fun b q => .inl q, fun b w => .inl (wo w), fun b q => ?_, fun q => ⟨q, rfl, rfl⟩⟩⟩
  · have hb : b ≠ g.ow i := fun z => by rw [z, hn] at q; cases q
    rw [upd_ne hb]
    exact hs.same _ _ q
  · show σ.length = (s.g.set i y).length
    rw [List.length_set]; exact hs.len
  · rcases get_set q with ⟨rfl, rfl, _⟩ | ⟨hj, q⟩
    · exact hsl
    · have h := hs.slot j x q
      cases x with
      | no => trivial
      | v d => exact h
      | own xs =>
        obtain ⟨h1, vs, h2, h3⟩ := h
        have ne : g.ow j ≠ g.ow i := fun z => hj (hs.inj j i (by rw [q]; trivial) e z)
        exact ⟨h1, vs, by rw [upd_ne ne]; exact h2, h3⟩
      | dct xs =>
        obtain ⟨h1, vs, h2, h3⟩ := h
        have ne : g.ow j ≠ g.ow i := fun z => hj (hs.inj j i (by rw [q]; trivial) e z)
        exact ⟨h1, vs, by rw [upd_ne ne]; exact h2, h3⟩
      | dr => exact h
      | drr => exact h
      | scr ns => exact h
  · have hj' : isOwn (s.g[j]?) := by
      rcases own_set hj with ⟨z, _⟩ | ⟨_, hj⟩
      · rw [z]; exact e
      · exact hj
    have hk' : isOwn (s.g[k]?) := by
      rcases own_set hk with ⟨z, _⟩ | ⟨_, hk⟩
      · rw [z]; exact e
      · exact hk
    exact hs.inj j k hj' hk' q
  · obtain ⟨n, ⟨c, h1, h2⟩, h3⟩ := hs.dro S q
    have k := hs.drw (by rw [show (s.set i y).s = s.s from rfl] at q; rw [q]; rfl) i e
    exact ⟨n, ⟨c, by rw [upd_ne k.1.symm]; exact h1, h2⟩, by rw [upd_ne k.2.symm]; exact h3⟩
  · rcases own_set hj with ⟨z, _⟩ | ⟨_, hj⟩
    · rw [z]; exact hs.drw q i e
    · exact hs.drw q j hj
  · rcases dr_set hj with ⟨_, z⟩ | ⟨_, hj⟩
    · exact absurd z hd
    · exact hs.drs j hj
  · have hb : b ≠ g.ow i := fun z => nw (z ▸ hw)
    rw [upd_ne hb]; exact q
  · have hb : b ≠ g.ow i := fun z => by rw [z, upd_same] at q; cases q
    rw [upd_ne hb] at q; exact q

theorem StOk.wrD (hs : StOk K g σ H s) {S S' : DS} {a : Addr} {o : HO} (e : s.s = some S) (ha : a = g.p ∨ a = g.r) (hd : DrOk K g (upd H a o) S') :
    StOk K g σ (upd H a o) { s with s := some S' } ∧ Ext g s H g { s with s := some S' } (upd H a o) := by
  have hi : s.s.isSome = true := by rw [e]; rfl
  have hw : Ow g s a := .inr ⟨hi, ha⟩
  have hn := hs.sep _ hw
  have wo : ∀ {b : Addr}, Ow g { s with s := some S' } b → Ow g s b := fun {b} w => by
    rcases w with ⟨j, hj, q⟩ | ⟨_, w⟩
    · exact .inl ⟨j, hj, q⟩
    · exact .inr ⟨hi, w⟩
  have nown : ∀ j : Nat, isOwn (s.g[j]?) → g.ow j ≠ a := fun j hj z => by
    obtain ⟨k1, k2⟩ := hs.drw hi j hj
    rcases ha with w | w
    · exact k1 (z.trans w)
    · exact k2 (z.trans w)
  refine ⟨⟨fun b u q => ?_, hs.len, fun j x q => ?_, hs.inj, fun a w => hs.sep a (wo w), fun S2 q => ?_, fun _ j hj => hs.drw hi j hj, fun _ _ => rfl⟩, ⟨Same.refl _, fun b u q nw => ?_, fun b q => .inl q, fun b w => .inl (wo w), fun b q => ?_, fun q => ⟨rfl, rfl, rfl⟩⟩⟩
  · have hb : b ≠ a := fun z => by rw [z, hn] at q; cases q
    rw [upd_ne hb]
    exact hs.same _ _ q
  · have h := hs.slot j x q
    cases x with
    | no => trivial
    | v d => exact h
    | own xs =>
      obtain ⟨h1, vs, h2, h3⟩ := h
      exact ⟨h1, vs, by rw [upd_ne (nown j (by rw [show s.g[j]? = _ from q]; trivial))]; exact h2, h3⟩
    | dct xs =>
      obtain ⟨h1, vs, h2, h3⟩ := h
      exact ⟨h1, vs, by rw [upd_ne (nown j (by rw [show s.g[j]? = _ from q]; trivial))]; exact h2, h3⟩
    | dr => exact h
    | drr => exact h
    | scr ns => exact h
  · cases q
    exact hd
  · have hb : b ≠ a := fun z => nw (z ▸ hw)
    rw [upd_ne hb]; exact q
  · have hb : b ≠ a := fun z => by rw [z, upd_same] at q; cases q
    rw [upd_ne hb] at q; exact q
end
end Tl

namespace Tl
open PySem L2
variable {X : Cx} {F : CallT} {pos : Pos}

theorem pe_orr {e : Expr} {t t' : TE} (h : PE X e t) (h' : PE X e t') : PE X e (fun σ H Q => t σ H Q ∨ t' σ H Q) := ⟨fun pins s σ H Q I w => w.elim (h.run pins s σ H Q I) (h'.run pins s σ H Q I)⟩
theorem pt_orr {e : Expr} {t t' : TT} (h : PT X e t) (h' : PT X e t') : PT X e (fun σ H Q => t σ H Q ∨ t' σ H Q) := ⟨fun pins s σ H Q I w => w.elim (h.run pins s σ H Q I) (h'.run pins s σ H Q I)⟩

structure Nm (X : Cx) (x : Str) (i : Nat) : Prop where
  at_ : X.N[i]? = some x
  vis : Vis X.env.scope x
  nd : (x == ("__debug__" : Str)) = false
  nc : (x == ("__classdict__" : Str)) = false
variable {x : Str} {n : Nat}
theorem Nm.pe {px : Pos} (h : Nm X x n) : PE X (.Name x px) (tVar n) := pe_var h.at_ h.vis h.nd h.nc

theorem e_var (h : Nm X x n) : PE X (.Name x pos) (tX X F (.var n)) := pe_imp h.pe fun σ H Q ⟨g, s, rv, s', hs, e, p⟩ => by
  have e : readV s n = some (rv, s') := e
  unfold readV at e
  split at e
  · rename_i d h1
    cases e
    obtain ⟨v, h2, h3⟩ := hs.slot n _ h1
    exact ⟨v, h2, p.same hs (.refl _ _ _) h3⟩
  · rename_i xs h1
    cases e
    obtain ⟨g', hs', x', v, h2, h3⟩ := hs.fz h1
    exact ⟨v, h2, p.same hs' x' h3⟩
  · rename_i h1
    cases e
    have h2 := hs.slot n _ h1
    exact ⟨_, h2, p.same hs (.refl _ _ _) ⟨hs.drs n (by rw [h1]; trivial), rfl⟩⟩
  · rename_i ns h1
    cases e
    obtain ⟨a, h2, h3⟩ := hs.slot n _ h1
    exact ⟨_, h2, p.same hs (.refl _ _ _) ⟨a, rfl, h3⟩⟩
  · cases e

theorem atD_map {α β : Type} (f : α → β) (l : List α) (i : Int) : atD (l.map f) i = (atD l i).map f := by
  unfold atD
  rw [List.length_map]
  cases ixD l.length i with
  | none => rfl
  | some j => simp
theorem keyOf_eq {d : D} {k : Key} {K : PySem.W.Frag} {G : Hp} {v : V} (h : Den K G v d) (e : keyOf d = some k) : v = kV k := by
  cases h <;> cases e <;> rfl
theorem KDen.val {K : PySem.W.Frag} {G : Hp} (k : Key) : ∀ {ks : List (Key × V)} {kvs : List (Key × D)}, KDen K G ks kvs → (∀ d, getK kvs k = some d → ∃ v, valV ks k = some v ∧ Den K G v d) ∧ ((valV ks k).isSome = (getK kvs k).isSome)
  | _, _, .nil => And.intro (fun d h => nomatch h) rfl
  | _, _, .cons (k := k') (v := v) (d := d) a r => by
    obtain ⟨h1, h2⟩ := KDen.val k r
    by_cases e : k' = k
    · rw [valV_pos (p := (k', v)) e]
      refine ⟨fun d' h => ?_, ?_⟩
      · unfold getK at h
        rw [if_pos e] at h
        cases h
        exact ⟨v, rfl, a⟩
      · unfold getK
        rw [if_pos e]; rfl
    · rw [valV_neg (p := (k', v)) e]
      refine ⟨fun d' h => ?_, ?_⟩
      · unfold getK at h
        rw [if_neg e] at h
        exact h1 d' h
      · unfold getK
        rw [if_neg e]; exact h2
theorem Cur.keyV {K : PySem.W.Frag} {G H : Hp} {v : V} {d : D} {k : Key} (c : Cur K G H v d) (e : keyOf d = some k) : v = kV k := by
  rcases c with c | ⟨a, vs, xs, rfl, rfl, h1, h2⟩
  · exact keyOf_eq c e
  · cases e
theorem e_subv {px : Pos} {i : Expr} {ii : IE} (hu : X.A.units + 64 < cLine) (h : Nm X x n) (hi : PE X i (tX X F ii)) (hp : PlainIx i) : PE X (.Subscript (.Name x px) i pos) (tX X F (.subv n ii)) :=
  pe_imp (pe_orr (pe_ix ix_any h.pe hi hp) (pe_dget (by omega) h.pe hi hp)) fun σ H Q ⟨g, s, rv, s', hs, e, p⟩ => by
    simp only [evE] at e
    split at e
    · rename_i hb
      simp only [Option.bind_eq_some_iff, Option.map_eq_some_iff] at e
      obtain ⟨q, e1, y, e2, d, e3, e4⟩ := e
      cases e4
      obtain ⟨v, hv⟩ := bnd_val hs hb
      unfold subS at e3
      split at e3
      · rename_i d0 h1
        refine .inl ⟨v, hv, seq1 hs e1 fun w g1 H1 hs1 x1 r1 => ?_⟩
        obtain ⟨v', h2, h3⟩ := hs1.slot n _ h1
        rw [hv] at h2
        cases h2
        exact ⟨g1.G, d0, _, _, hs1.same, .inl h3, r1.cur e2, by show Option.map Rv.v (subD d0 _) = _; rw [e3]; rfl, p.fin hs1 x1⟩
      · rename_i xs k h1
        refine .inl ⟨v, hv, seq1 hs e1 fun w g1 H1 hs1 x1 r1 => ?_⟩
        obtain ⟨h2, vs, h3, h4⟩ := hs1.slot n _ h1
        rw [hv] at h2
        cases h2
        exact ⟨g1.G, .list xs, .int k, _, hs1.same, .inr ⟨_, vs, xs, rfl, rfl, h3, h4⟩, r1.cur e2, by show (subD (.list xs) (.int k)).map Rv.v = _; show (atD xs k).map Rv.v = _; rw [e3]; rfl, p.fin hs1 x1⟩
      · rename_i kvs h1
        simp only [Option.bind_eq_some_iff] at e3
        obtain ⟨k, e5, e6⟩ := e3
        refine .inr ⟨v, hv, seq1 hs e1 fun w g1 H1 hs1 x1 r1 => ?_⟩
        obtain ⟨h2, ks, h3, h4⟩ := hs1.slot n _ h1
        rw [hv] at h2
        cases h2
        obtain ⟨u, h5, h6⟩ := (h4.val k).1 d e6
        refine ⟨_, u, rfl, ?_, p.same hs1 x1 h6⟩
        rw [(r1.cur e2).keyV e5, ← h5]
        exact DGet.k h3
      · rename_i k h1
        simp only [Option.bind_eq_some_iff, Option.map_eq_some_iff] at e3
        obtain ⟨S, e5, m, e6, rfl⟩ := e3
        refine .inl ⟨v, hv, seq1 hs e1 fun w g1 H1 hs1 x1 r1 => ?_⟩
        have h2 := hs1.slot n _ h1
        rw [hv] at h2
        cases h2
        obtain ⟨_, _, h3⟩ := hs1.dro S e5
        exact ⟨g1.G, .list (S.rests.map .int), .int k, _, hs1.same, .inr ⟨_, _, _, rfl, rfl, h3, Dens.of_ints _⟩, r1.cur e2, by show (subD (.list (S.rests.map .int)) (.int k)).map Rv.v = _; show (atD (S.rests.map PyData.int) k).map Rv.v = _; rw [atD_map, e6]; rfl, p.fin hs1 x1⟩
      · cases e3
    · cases e
theorem KDen.len {K : PySem.W.Frag} {G : Hp} : ∀ {ks : List (Key × V)} {kvs : List (Key × D)}, KDen K G ks kvs → ks.length = kvs.length
  | _, _, .nil => rfl
  | _, _, .cons _ r => congrArg (· + 1) (KDen.len r)
theorem e_lenv {px p0 : Pos} (h : Nm X x n) (hg : Gl X "len") (hm : X.mg "len" = none) : PE X (.Call (.Name "len" p0) [.Name x px] [] pos) (tX X F (.lenv n)) :=
  pe_imp (pe_orr (pe_callB call_len hg hm PySem.boot_len (pa_cons h.pe pa_nil)) (pe_callB call_lenD hg hm PySem.boot_len (pa_cons h.pe pa_nil))) fun σ H Q ⟨g, s, rv, s', hs, e, p⟩ => by
    simp only [evE, Option.map_eq_some_iff] at e
    obtain ⟨m, e1, e2⟩ := e
    cases e2
    unfold lenS at e1
    split at e1
    · rename_i d h1
      obtain ⟨v, h2, h3⟩ := hs.slot n _ h1
      refine .inl ⟨v, h2, v, _, rfl, ?_, p.same hs (.refl _ _ _) (Den.int _)⟩
      cases h3 with
      | lst a b =>
        cases e1
        exact .inl ⟨_, .inl (.inl (hs.same _ _ a)), b.len.symm⟩
      | tup a b =>
        cases e1
        exact .inr ⟨_, same_tup hs.same a, b.len.symm⟩
      | non => cases e1
      | bl _ => cases e1
      | int _ => cases e1
      | str _ => cases e1
    · rename_i xs h1
      cases e1
      obtain ⟨h2, vs, h3, h4⟩ := hs.slot n _ h1
      exact .inl ⟨_, h2, _, _, rfl, .inl ⟨_, .inl (.inl h3), h4.len.symm⟩, p.same hs (.refl _ _ _) (Den.int _)⟩
    · rename_i ns h1
      cases e1
      obtain ⟨a, h2, h3⟩ := hs.slot n _ h1
      exact .inl ⟨_, h2, _, _, rfl, .inl ⟨_, hs.same.seq h3, (List.length_map ..).symm⟩, p.same hs (.refl _ _ _) (Den.int _)⟩
    · rename_i kvs h1
      cases e1
      obtain ⟨h2, ks, h3, h4⟩ := hs.slot n _ h1
      refine .inr ⟨_, h2, _, ks, rfl, h3, ?_⟩
      rw [h4.len]
      exact p.same hs (.refl _ _ _) (Den.int _)
    · cases e1
theorem eqv_nil (xs : List D) : PyData.eqv (.list xs) (.list []) = xs.isEmpty := by cases xs <;> rfl
theorem shp_nil : shp (.list []) = true := by decide
theorem nil_core {op : CmpOp} {neg : Bool} (hop : (op = .Eq ∧ neg = false) ∨ (op = .NotEq ∧ neg = true)) {σ : L2.St} {H : Hp} {g : Gh} {s : Sta} {b : Bool} {R : V → Hp → Prop} (hs : StOk X.K g σ H s) (e : nilS s n = some b)
    (p : ∀ g' H', StOk X.K g' σ H' s → Ext g s H g' s H' → R (.bl (if neg then !b else b)) H') : tOp (rC X.K (cmpD op)) (tVar n) (tLst tNil) σ H R := by
  have key : ∀ v xs, Cur X.K g.G H v (.list xs) → shp (.list xs) = true → xs.isEmpty = b → ∀ q, H q = none → rC X.K (cmpD op) v (.ref q) (upd H q (.lst [])) R := fun v xs c hz eb q hq => by
    have pu : Pure g.G H g.G (upd H q (.lst [])) := .one hs.same hq
    refine ⟨g.G, .list xs, .list [], (if neg then !b else b), pu.s, ?_, .inr ⟨q, [], [], rfl, rfl, upd_same, .nil⟩, ?_, p (g.wG g.G) _ (hs.pure pu) pu.ext⟩
    · rcases c with c | ⟨a, vs, ys, rfl, e, h1, h2⟩
      · exact .inl c
      · exact .inr ⟨a, vs, ys, rfl, e, pu.h _ _ h1, h2⟩
    · rcases hop with ⟨rfl, rfl⟩ | ⟨rfl, rfl⟩
      · show (if shp (.list xs) && shp (.list []) then some (PyData.eqv (.list xs) (.list [])) else none) = some b
        rw [hz, shp_nil, eqv_nil, eb]; rfl
      · show (if shp (.list xs) && shp (.list []) then some (!PyData.eqv (.list xs) (.list [])) else none) = some (!b)
        rw [hz, shp_nil, eqv_nil, eb]; rfl
  unfold nilS at e
  split at e
  · rename_i xs h1
    split at e
    · rename_i hz
      cases e
      obtain ⟨v, h2, h3⟩ := hs.slot n _ h1
      exact ⟨v, h2, Nat.zero_le _, key v xs (.inl h3) hz rfl⟩
    · cases e
  · rename_i xs h1
    split at e
    · rename_i hz
      cases e
      obtain ⟨h2, vs, h3, h4⟩ := hs.slot n _ h1
      exact ⟨_, h2, Nat.zero_le _, key _ xs (.inr ⟨_, vs, xs, rfl, rfl, h3, h4⟩) hz rfl⟩
    · cases e
  · cases e
theorem e_nilv {px p1 : Pos} {op : CmpOp} {neg : Bool} (hu : X.A.units + 64 < cLine) (hop : (op = .Eq ∧ neg = false) ∨ (op = .NotEq ∧ neg = true)) (h : Nm X x n) : PE X (.Compare (.Name x px) [op] [.List [] p1] pos) (tX X F (.nilv n neg)) :=
  pe_imp (pe_cmpR (cmp_any hu op) h.pe (pe_lst pa_nil) (by cases op <;> rfl)) fun σ H Q ⟨g, s, rv, s', hs, e, p⟩ => by
    simp only [evE, Option.map_eq_some_iff] at e
    obtain ⟨b, e1, e2⟩ := e
    cases e2
    exact nil_core hop hs e1 fun g' H' hs' x' => p.same hs' x' (Den.bl _)
theorem t_nilv {px p1 : Pos} {op : CmpOp} {neg : Bool} (hu : X.A.units + 64 < cLine) (hop : (op = .Eq ∧ neg = false) ∨ (op = .NotEq ∧ neg = true)) (h : Nm X x n) : PT X (.Compare (.Name x px) [op] [.List [] p1] pos) (tXT X F (.nilv n neg)) :=
  pt_imp (pt_cmpR (cmp_any hu op) h.pe (pe_lst pa_nil) (by cases op <;> rfl)) fun σ H Q ⟨g, s, rv, s', hs, e, p⟩ => by
    simp only [evE, Option.map_eq_some_iff] at e
    obtain ⟨b, e1, e2⟩ := e
    cases e2
    exact nil_core hop hs e1 fun g' H' hs' x' => ⟨_, rfl, p g' H' hs' x'⟩
theorem in_core {op : CmpOp} {neg : Bool} {ia : IE} (hop : (op = .In ∧ neg = false) ∨ (op = .NotIn ∧ neg = true)) {σ : L2.St} {H : Hp} {g : Gh} {s s' : Sta} {rv : Rv} {R : V → Hp → Prop} (hs : StOk X.K g σ H s) (e : evE F (.inv ia n neg) s = some (rv, s'))
    (p : ∀ b g' H', rv = .v (.bool b) → StOk X.K g' σ H' s' → Ext g s H g' s' H' → R (.bl b) H') :
    tOp (rC X.K (cmpD op)) (tX X F ia) (tVar n) σ H R ∨ (tX X F ia σ H fun y H1 => ∃ v, σ[n]? = some (some v) ∧ ∃ a o, v = .ref a ∧ DGet H1 a y o ∧ R (.bl (if neg then !o.isSome else o.isSome)) H1) := by
  simp only [evE, Option.bind_eq_some_iff, Option.map_eq_some_iff] at e
  obtain ⟨q, e1, d, e2, b, e3, e4⟩ := e
  cases e4
  have seqs : ∀ xs, (if flat d && xs.all flat then some (inD d xs) else none) = some b → ∀ y, (y = PyData.list xs ∨ y = PyData.tuple xs) → cmpD op d y = some (if neg then !b else b) := fun xs e y hy => by
    split at e
    · rename_i hz
      cases e
      rcases hop with ⟨rfl, rfl⟩ | ⟨rfl, rfl⟩ <;> rcases hy with rfl | rfl
      · show (if flat d && xs.all flat then some (inD d xs) else none) = _
        rw [if_pos hz]; rfl
      · show (if flat d && xs.all flat then some (inD d xs) else if shp d && shp (.tuple xs) && decide (d.depth ≤ 40) then some (inD d xs) else none) = _
        rw [if_pos hz]; rfl
      · show (if flat d && xs.all flat then some (!inD d xs) else none) = _
        rw [if_pos hz]; rfl
      · show (if flat d && xs.all flat then some (!inD d xs) else none) = _
        rw [if_pos hz]; rfl
    · cases e
  unfold inS at e3
  split at e3
  · rename_i xs h1
    refine .inl (seq1 hs e1 fun w g1 H1 hs1 x1 r1 => ?_)
    obtain ⟨v, h2, h3⟩ := hs1.slot n _ h1
    exact ⟨v, h2, g1.G, d, _, _, hs1.same, r1.cur e2, .inl h3, seqs xs e3 _ (.inl rfl), p _ g1 H1 rfl hs1 x1⟩
  · rename_i xs h1
    refine .inl (seq1 hs e1 fun w g1 H1 hs1 x1 r1 => ?_)
    obtain ⟨v, h2, h3⟩ := hs1.slot n _ h1
    exact ⟨v, h2, g1.G, d, _, _, hs1.same, r1.cur e2, .inl h3, seqs xs e3 _ (.inr rfl), p _ g1 H1 rfl hs1 x1⟩
  · rename_i xs h1
    refine .inl (seq1 hs e1 fun w g1 H1 hs1 x1 r1 => ?_)
    obtain ⟨h2, vs, h3, h4⟩ := hs1.slot n _ h1
    exact ⟨_, h2, g1.G, d, _, _, hs1.same, r1.cur e2, .inr ⟨_, vs, xs, rfl, rfl, h3, h4⟩, seqs xs e3 _ (.inl rfl), p _ g1 H1 rfl hs1 x1⟩
  · rename_i kvs h1
    simp only [Option.map_eq_some_iff] at e3
    obtain ⟨k, e5, rfl⟩ := e3
    refine .inr (seq1 hs e1 fun w g1 H1 hs1 x1 r1 => ?_)
    obtain ⟨h2, ks, h3, h4⟩ := hs1.slot n _ h1
    refine ⟨_, h2, _, valV ks k, rfl, ?_, ?_⟩
    · rw [(r1.cur e2).keyV e5]
      exact DGet.k h3
    · rw [(h4.val k).2]
      exact p _ g1 H1 rfl hs1 x1
  · cases e3
theorem e_in {a : Expr} {px : Pos} {ia : IE} (hu : X.A.units + 64 < cLine) (ha : PE X a (tX X F ia)) (h : Nm X x n) : PE X (.Compare a [.In] [.Name x px] pos) (tX X F (.inv ia n false)) :=
  pe_imp (pe_orr (pe_cmpR (cmp_any hu .In) ha h.pe rfl) (pe_cmp (pc_din (by omega) ha h.pe) rfl)) fun σ H Q ⟨g, s, rv, s', hs, e, p⟩ =>
    in_core (op := .In) (.inl ⟨rfl, rfl⟩) hs e fun b g' H' er hs' x' => p.same hs' x' (er ▸ Den.bl b)
theorem e_notin {a : Expr} {px : Pos} {ia : IE} (hu : X.A.units + 64 < cLine) (ha : PE X a (tX X F ia)) (h : Nm X x n) : PE X (.Compare a [.NotIn] [.Name x px] pos) (tX X F (.inv ia n true)) :=
  pe_imp (pe_orr (pe_cmpR (cmp_any hu .NotIn) ha h.pe rfl) (pe_cmp (pc_dnotin (by omega) ha h.pe) rfl)) fun σ H Q ⟨g, s, rv, s', hs, e, p⟩ =>
    in_core (op := .NotIn) (.inr ⟨rfl, rfl⟩) hs e fun b g' H' er hs' x' => p.same hs' x' (er ▸ Den.bl b)
theorem t_in {a : Expr} {px : Pos} {ia : IE} (hu : X.A.units + 64 < cLine) (ha : PE X a (tX X F ia)) (h : Nm X x n) : PT X (.Compare a [.In] [.Name x px] pos) (tXT X F (.inv ia n false)) :=
  pt_imp (pt_orr (pt_cmpR (cmp_any hu .In) ha h.pe rfl) (pt_cmp (pc_din (by omega) ha h.pe) rfl)) fun σ H Q ⟨g, s, b0, s', hs, e, p⟩ =>
    in_core (op := .In) (R := fun v H' => ∃ k, v = .bl k ∧ Q k H') (.inl ⟨rfl, rfl⟩) hs e fun b g' H' er hs' x' => by
      cases er
      exact ⟨_, rfl, p g' H' hs' x'⟩
theorem t_notin {a : Expr} {px : Pos} {ia : IE} (hu : X.A.units + 64 < cLine) (ha : PE X a (tX X F ia)) (h : Nm X x n) : PT X (.Compare a [.NotIn] [.Name x px] pos) (tXT X F (.inv ia n true)) :=
  pt_imp (pt_orr (pt_cmpR (cmp_any hu .NotIn) ha h.pe rfl) (pt_cmp (pc_dnotin (by omega) ha h.pe) rfl)) fun σ H Q ⟨g, s, b0, s', hs, e, p⟩ =>
    in_core (op := .NotIn) (R := fun v H' => ∃ k, v = .bl k ∧ Q k H') (.inr ⟨rfl, rfl⟩) hs e fun b g' H' er hs' x' => by
      cases er
      exact ⟨_, rfl, p g' H' hs' x'⟩

theorem posD_spec {y : D} : ∀ {xs : List D} {j : Nat}, posD y xs = some j → ∃ z, xs[j]? = some z ∧ PyData.eqv z y = true ∧ ∀ (m : Nat) (z' : D), m < j → xs[m]? = some z' → PyData.eqv z' y = false
  | [], j, h => by cases h
  | z :: r, j, h => by
    unfold posD at h
    split at h
    · rename_i hz
      cases h
      exact ⟨z, rfl, hz, fun m _ hm => absurd hm (Nat.not_lt_zero _)⟩
    · rename_i hz
      obtain ⟨i, h1, rfl⟩ := Option.map_eq_some_iff.mp h
      obtain ⟨w, h2, h3, h4⟩ := posD_spec h1
      refine ⟨w, by simpa using h2, h3, fun m z' hm hq => ?_⟩
      cases m with
      | zero =>
        have hq : z = z' := by simpa using hq
        subst hq
        exact (Bool.not_eq_true _).mp hz
      | succ m => exact h4 m z' (by omega) (by simpa using hq)
theorem e_idx {o i : Expr} {io ii : IE} {pa : Pos} (ho : PE X o (tX X F io)) (hi : PE X i (tX X F ii)) (hst : starEach [i] X.env = [(false, eval i X.env)]) (hbase : attributeBase o "index" X.env (eval o X.env) = eval o X.env) (hl : (pa.endLine == pos.line) = true) : PE X (.Call (.Attribute o "index" pa) [i] [] pos) (tX X F (.idx io ii)) :=
  pe_imp (pe_bm PySem.F.plainAttrs_list PySem.F.slot_list_index PySem.F.type_list_index mt_index ho (pa_cons hi pa_nil hst) (hbase := hbase) (hfew := by rw [hst]; rfl) (hline := hl) (hs := hst)) fun σ H Q ⟨g, s, rv, s', hs, e, p⟩ => by
    simp only [evE, Option.bind_eq_some_iff, Option.map_eq_some_iff] at e
    obtain ⟨q1, e1, q2, e2, x, e3, y, e4, j, e5, e6⟩ := e
    cases e6
    refine seq1 hs e1 fun v g1 H1 hs1 x1 r1 => ?_
    obtain ⟨g1', hs1', x1', dn, _⟩ := freezeD hs1 x1 r1 e3
    cases x with
    | list xs =>
      simp only [idxD] at e5
      split at e5
      · rename_i hz
        obtain ⟨z1, z2⟩ := (Bool.and_eq_true _ _).mp hz
        cases dn with
        | lst h k =>
          refine ⟨.inl ⟨rfl, _, .inl (.inl (hs1'.same _ _ h))⟩, seq1 hs1' e2 fun w g2 H2 hs2 x2 r2 => ?_⟩
          have cw := (r2.cur e4).flatD z1
          have k2 := k.mono x2.mono
          obtain ⟨z, p1, p2, p3⟩ := posD_spec e5
          obtain ⟨u, u1, u2⟩ := k2.get p1
          have fl : ∀ {m : Nat} {z' : D}, xs[m]? = some z' → Tl.flat z' = true := fun {m z'} hm => List.all_eq_true.mp z2 z' (List.mem_of_getElem? hm)
          refine ⟨_, _, w, j, u, rfl, rfl, .inl (.inl (hs2.same _ _ (x2.mono _ _ h))), by rw [cw.flE]; exact z1, by rw [k2.flE]; exact z2, u1, by rw [u2.eqE cw (fl p1) z1]; exact p2, fun m z' hm hq => ?_, p.same hs2 (x1'.trans x2) (Den.int _)⟩
          obtain ⟨d', d1, d2⟩ := k2.get' hq
          rw [d2.eqE cw (fl d1) z1]
          exact p3 m d' hm d1
      · cases e5
    | none => cases e5
    | bool _ => cases e5
    | int _ => cases e5
    | str _ => cases e5
    | tuple _ => cases e5
    | dict _ => cases e5

theorem e_imax {px px2 pa pm pc : Pos} (hu : X.A.units + 64 < cLine) (hc : X.calm = true) (h : Nm X x n) (hg : Gl X "max") (hm : X.mg "max" = none) (hl : (pa.endLine == pos.line) = true) : PE X (.Call (.Attribute (.Name x px) "index" pa) [.Call (.Name "max" pm) [.Name x px2] [] pc] [] pos) (tX X F (.imax n)) :=
  pe_imp (pe_bm PySem.F.plainAttrs_list PySem.F.slot_list_index PySem.F.type_list_index mt_index h.pe (pa_cons (pe_callB (call_MaxL hc hu) hg hm (by decide +kernel) (pa_cons h.pe pa_nil rfl)) pa_nil rfl) (hline := hl)) fun σ H Q ⟨g, s, rv, s', hs, e, p⟩ => by
    simp only [evE, Option.map_eq_some_iff] at e
    obtain ⟨j, e1, e2⟩ := e
    cases e2
    unfold imaxS at e1
    split at e1
    · rename_i xs h1
      split at e1
      · rename_i m ms hi
        obtain ⟨h2, vs, h3, h4⟩ := hs.slot n _ h1
        have e0 := h4.ints hi
        obtain ⟨z, p1, p2, p3⟩ := posD_spec e1
        have fl : xs.all flat = true := by rw [e0.2]; exact List.all_eq_true.mpr fun x hx => by obtain ⟨y, _, rfl⟩ := List.mem_map.mp hx; rfl
        have flz : ∀ {m : Nat} {z' : D}, xs[m]? = some z' → Tl.flat z' = true := fun {m z'} hm => List.all_eq_true.mp fl z' (List.mem_of_getElem? hm)
        refine ⟨_, h2, .inl ⟨rfl, _, .inl (.inl h3)⟩, _, h2, ?_⟩
        -- the list as a datum of this moment
        have dn : Den X.K H (.ref (g.ow n)) (.list xs) := .lst h3 (h4.mono hs.same)
        refine ⟨H, [.list xs], .v (.int (maxI m ms)), Same.refl _, .cons dn .nil, by show (match (seqD (.list xs)).bind allInts with | some (n :: ns) => some (Rv.v (PyData.int (maxI n ns))) | _ => none) = _; rw [show (seqD (.list xs)).bind allInts = some (m :: ms) from hi], fun v G' H' pu re => ?_⟩
        cases re
        obtain ⟨u, u1, u2⟩ := h4.get p1
        have k2 := (h4.mono hs.same).mono pu.h
        obtain ⟨u', v1, v2⟩ := k2.get p1
        have hH : H' (g.ow n) = some (.lst vs) := pu.h _ _ h3
        refine ⟨_, vs, .int (maxI m ms), j, u', rfl, rfl, .inl (.inl hH), rfl, by rw [k2.flE]; exact fl, v1, by rw [v2.eqE (Den.int _) (flz p1) rfl]; exact p2, fun mm z' hm hq => ?_, ?_⟩
        · obtain ⟨d', d1, d2⟩ := k2.get' hq
          rw [d2.eqE (Den.int _) (flz d1) rfl]
          exact p3 mm d' hm d1
        · have pu' : Pure g.G H g.G H' := ⟨Same.refl _, pu.h, hs.same.trans pu.h, fun _ e => .inl e⟩
          exact p.same (hs.pure pu') pu'.ext (Den.int _)
      · cases e1
    · cases e1

theorem eraseIdx_last {α : Type} : ∀ l : List α, l.eraseIdx (l.length - 1) = l.dropLast
  | [] => rfl
  | [_] => rfl
  | x :: y :: r => by
    show x :: (y :: r).eraseIdx ((y :: r).length - 1) = x :: (y :: r).dropLast
    rw [eraseIdx_last (y :: r)]
theorem pop_fin {K : PySem.W.Frag} {σ : L2.St} {H : Hp} {g : Gh} {s : Sta} {xs : List D} {vs : List V} {j : Nat} {d : D} (hs : StOk K g σ H s) (h1 : s.g[n]? = some (.own xs)) (h3 : H (g.ow n) = some (.lst vs)) (h4 : Dens K g.G vs xs) (e : xs[j]? = some d) :
    ∃ v, vs[j]? = some v ∧ StOk K g σ (upd H (g.ow n) (.lst (vs.eraseIdx j))) (s.set n (.own (xs.eraseIdx j))) ∧ Ext g s H g (s.set n (.own (xs.eraseIdx j))) (upd H (g.ow n) (.lst (vs.eraseIdx j))) ∧ Den K g.G v d := by
  obtain ⟨v, h5, h6⟩ := h4.get e
  have h7 := hs.wr (i := n) (y := .own (xs.eraseIdx j)) (o := .lst (vs.eraseIdx j)) (by rw [h1]; trivial) trivial (fun z => z) ⟨(hs.slot n _ h1).1, _, upd_same, h4.erase j⟩
  exact ⟨v, h5, h7.1, h7.2, h6⟩
theorem e_pop0 {px pa : Pos} (h : Nm X x n) (hl : (pa.endLine == pos.line) = true) : PE X (.Call (.Attribute (.Name x px) "pop" pa) [] [] pos) (tX X F (.pop0 n)) :=
  pe_imp (pe_bm0 PySem.F.plainAttrs_list PySem.F.slot_list_pop PySem.F.type_list_pop mt_pop h.pe (hline := hl)) fun σ H Q ⟨g, s, rv, s', hs, e, p⟩ => by
    simp only [evE, Option.map_eq_some_iff] at e
    obtain ⟨⟨d, s1⟩, e1, e2⟩ := e
    cases e2
    unfold popS at e1
    split at e1
    · rename_i xs h1
      simp only [Option.bind_eq_some_iff, Option.map_eq_some_iff] at e1
      obtain ⟨j, e3, d', e4, e5⟩ := e1
      cases e5
      obtain ⟨h2, vs, h3, h4⟩ := hs.slot n _ h1
      have ej : j = vs.length - 1 := by
        rw [h4.len]
        unfold ixD at e3
        rw [if_neg (by omega)] at e3
        split at e3
        · cases e3; omega
        · cases e3
      obtain ⟨v, h5, h6, h7, h8⟩ := pop_fin hs h1 h3 h4 e4
      refine ⟨_, h2, .inl ⟨rfl, _, .inl (.inl h3)⟩, _, vs, v, rfl, rfl, h3, by rw [← ej]; exact h5, ?_⟩
      rw [← eraseIdx_last, ← ej]
      exact p.same h6 h7 h8
    · cases e1
theorem e_pop1 {px pa : Pos} {i : Expr} {ii : IE} (h : Nm X x n) (hi : PE X i (tX X F ii)) (hst : starEach [i] X.env = [(false, eval i X.env)]) (hl : (pa.endLine == pos.line) = true) : PE X (.Call (.Attribute (.Name x px) "pop" pa) [i] [] pos) (tX X F (.pop1 n ii)) :=
  pe_imp (pe_bm PySem.F.plainAttrs_list PySem.F.slot_list_pop PySem.F.type_list_pop mt_popAt h.pe (pa_cons hi pa_nil hst) (hfew := by rw [hst]; rfl) (hline := hl) (hs := hst)) fun σ H Q ⟨g, s, rv, s', hs, e, p⟩ => by
    simp only [evE] at e
    split at e
    · rename_i hb
      simp only [Option.bind_eq_some_iff] at e
      obtain ⟨⟨r1, s1⟩, e1, k, e2, e3⟩ := e
      split at e3
      · rename_i hk
        have hk := small_spec hk
        simp only [Option.map_eq_some_iff] at e3
        obtain ⟨⟨d, s2⟩, e3, e4⟩ := e3
        cases e4
        cases asI_eq e2
        unfold bndL at hb
        split at hb
        · rename_i ys h0
          obtain ⟨h2, ws, h3, _⟩ := hs.slot n _ h0
          refine ⟨_, h2, .inl ⟨rfl, _, .inl (.inl h3)⟩, seq1 hs e1 fun w g1 H1 hs1 x1 r1 => ?_⟩
          have ew := rv_int r1
          subst ew
          unfold popS at e3
          split at e3
          · rename_i xs h1
            simp only [Option.bind_eq_some_iff, Option.map_eq_some_iff] at e3
            obtain ⟨j, e4, d', e5, e6⟩ := e3
            cases e6
            obtain ⟨k2, vs, k3, k4⟩ := hs1.slot n _ h1
            rw [h2] at k2
            have ek : V.ref (g.ow n) = V.ref (g1.ow n) := Option.some.inj (Option.some.inj k2)
            obtain ⟨v, h5, h6, h7, h8⟩ := pop_fin hs1 h1 k3 k4 e5
            have e4' : ixN vs.length k = some j := by rw [k4.len]; exact e4
            obtain ⟨i1, _⟩ := ixN_seq e4'
            exact ⟨_, vs, k, j, v, ek, rfl, k3, by omega, by omega, i1, h5, p.same h6 (x1.trans h7) h8⟩
          · cases e3
        · cases hb
      · cases e3
    · cases e
end Tl

namespace PySem
open Sem (wp)
theorem meets_enumerate_new1T {v : Value} {o : Obj} {H : Heap → Prop} (B : Begins v o H) :
    Meets (Builtin.«enumerate.__new__» ⟨[.type "enumerate", v], []⟩) (fun _ R s => H s.heap ∧
      R (.ok (.ret (.ref (s.heap.push o).objs.size))) { s with heap := (s.heap.push o).push { cls := .type "enumerate", data := .fields #[.none, .bool false, .ref s.heap.objs.size, rawInt 0, .none, .none] } }) :=
  .of_wp fun prog w A R s h => by
    obtain ⟨hp, g, d, tk, os⟩ := s; obtain ⟨h1, h⟩ := h
    have hsub := sub_enumerate
    have q1 : ∀ {A' : Around} {E : Value → Shared → Prop} {Q : Value → Shared → Prop}, Q (.ref hp.objs.size) ⟨hp.push o, g, d, tk, os⟩ → wpAny (model prog w) A' (pyIter v) Q E ⟨hp, g, d, tk, os⟩ :=
      fun q => B.iter prog w _ _ ⟨hp, g, d, tk, os⟩ _ h1 q
    wp_walk using q1
    refine wpAny_stack_any fun st => wpAny_pure ?_
    split
    · rename_i c _ _ _ _ _
      cases (c == Value.type "enumerate")
      · wp_walk using q1
        exact ⟨_, rfl, h⟩
      · wp_walk using q1
        exact ⟨_, rfl, h⟩
    · wp_walk using q1
      exact ⟨_, rfl, h⟩
section
variable {prog : Program} {w : World} {A : Around} {E : Value → Shared → Prop} {s : Shared}
theorem enum_begins1T {v : Value} {o : Obj} {H : Heap → Prop} {Q : Value → Shared → Prop} (B : Begins v o H) (h1 : H s.heap)
    (h : ∀ h', IsEnum h' (s.heap.objs.size + 1) s.heap.objs.size 0 .none → h'.get? s.heap.objs.size = some o → h'.objs.size = s.heap.objs.size + 2 →
      (∀ b o, s.heap.get? b = some o → h'.get? b = some o) → Q (.ref (s.heap.objs.size + 1)) { s with heap := h' }) :
    wpAny (model prog w) A (call (.type "enumerate") [v]) Q E s := by
  refine callType_new F.called_enumerate (by decide) (F.typeCall_enumerate_1 _) (F.newCall_enumerate_1 _) (fun obj => F.args_object_init_2 obj _) F.entry_enumerate_new
    (meets_enumerate_new1T B) ⟨h1, ?_⟩
  have hz : (s.heap.push o).objs.size = s.heap.objs.size + 1 := Heap.size_push ..
  show _ ∧ _
  rw [hz]
  have he : IsEnum ((s.heap.push o).push { cls := .type "enumerate", data := .fields #[.none, .bool false, .ref s.heap.objs.size, rawInt 0, .none, .none] }) (s.heap.objs.size + 1) s.heap.objs.size 0 .none := by
    have := Heap.get?_push_size (s.heap.push o) (o := { cls := .type "enumerate", data := .fields #[.none, .bool false, .ref s.heap.objs.size, rawInt 0, .none, .none] }) rfl
    rw [hz] at this; exact this
  refine ⟨⟨_, he, rfl⟩, h _ he (Heap.get?_push_of_some _ (Heap.get?_push_size _ B.free)) (by rw [Heap.size_push, hz]) fun b o x => Heap.get?_push_of_some _ (Heap.get?_push_of_some _ x)⟩
end
end PySem
namespace Tl
open PySem L2 PySem.Spec PyProof.Rows
def IteT (K : PySem.W.Frag) (a : Addr) : It :=
  ⟨fun i H => ∃ (xs : List V) (x : V), SqT K H a xs ∧ xs[i]? = some x, fun i H v H' => ∃ T x, v = .ref T ∧ H T = none ∧ H' = upd H T (.tup [.int (i : Nat), x]) ∧ ∀ xs, SqT K H a xs → xs[i]? = some x, fun i H => ∃ xs : List V, SqT K H a xs ∧ xs.length = i⟩
theorem turn_enumT {P : Program} {w : World} {K : PySem.W.Frag} {elts : List Expr} {kk : Nat} {tpos : Pos} (a e it : Addr) :
    Turn P w K (.Tuple elts kk tpos) (IteT K a) [e, it] e (fun i h => (∃ old, IsEnum h e it ((i : Nat) : Int) old) ∧ h.IsTupleIter it a i ∧ e ≠ it ∧ a ≠ it ∧ e ≠ a) where
  mem := by simp
  obj := fun i h st b hb => by
    obtain ⟨⟨old, he⟩, ⟨o, ho, hc, hd⟩, _⟩ := st
    have e' : b = e ∨ b = it := by simpa using hb
    rcases e' with z | z
    · rw [z]; exact ⟨_, he, fun v q => nomatch q⟩
    · rw [z]; exact ⟨o, ho, fun v q => by rw [hd] at q; cases q⟩
  keep := fun i h h' st k => let ⟨⟨old, he⟩, hi, hne⟩ := st; ⟨⟨old, k e (by simp) _ he⟩, hi.at fun o q => k it (by simp) o q, hne⟩
  item := by
    intro X hP hw hK hc i pins s σ H E I hf st hg
    subst hP hw hK
    obtain ⟨⟨old, he⟩, hit, hne, hai, hea⟩ := st
    obtain ⟨xs, x, hq, hx⟩ := hg
    obtain ⟨its, rv, p, hz⟩ := I.tuple hq
    obtain ⟨u, hu, ru⟩ := rv.get hx
    have hel : e < s.heap.objs.size := Heap.lt_size he
    have hil : it < s.heap.objs.size := by obtain ⟨_, q, _⟩ := hit; exact Heap.lt_size q
    have D := Draws.tuple (prog := X.prog) (w := X.w) (A := X.A.in1) (I.ok.hd hc) it a hai its.toArray
    have hlt : i < its.toArray.size := by
      have := (List.getElem?_eq_some_iff.mp hu).1
      simpa using this
    refine wpAny_pyNext_enum_itemD D he ⟨hit, p⟩ hlt hne (by simp [hne, hea]) fun x' h' tk hx' ho hst' hT hsz hk => ?_
    have exu : x' = u := by
      have h1 : its[i]? = some x' := by simpa using hx'
      rw [hu] at h1
      exact (Option.some.inj h1).symm
    subst exu
    obtain ⟨hit', _⟩ := hst'
    refine ⟨_, rfl, wpAny_letOwnedTupleGo_enum (s := { s with heap := h', toks := tk + 1 }) ho fun h'' he' sb => ?_⟩
    have hT2 : h''.get? s.heap.objs.size = some { cls := .type "tuple", data := .seq #[.int i tk, x'] } := (sb.2 _ (Nat.ne_of_gt hel)).trans hT
    have new : ObjOk X.prog X.w (upd H s.heap.objs.size (.tup [.int (i : Nat), x])) h'' s.heap.objs.size (.tup [.int (i : Nat), x]) :=
      ⟨by show 2 ≤ sizeLine; decide, [.int i tk, x'], .cons ⟨_, rfl⟩ (.cons ru .nil), ⟨_, hT2, rfl, _, rfl⟩⟩
    have I1 : Inv X pins σ (upd H s.heap.objs.size (.tup [.int (i : Nat), x])) { s with heap := h'', toks := tk + 1 } :=
      I.turnedNew (ch := [e, it]) (fun b ob hb q => (sb.2 b (fun z => hb (by simp [z]))).trans (hk b ob (fun z => hb (by simp [z])) (fun z => hb (by simp [z])) q)) hf (Nat.le_refl _) new
    refine ⟨.ref s.heap.objs.size, _, I1, rfl, ⟨_, x, rfl, I.hok.fresh (Nat.le_refl _), rfl, fun ys hy => by rw [I.tuple_inj hy hq]; exact hx⟩, ⟨⟨x', ?_⟩, hit'.at fun o q => (sb.2 it (Ne.symm hne)).trans q, hne, hai, hea⟩, fun b hb => ?_⟩
    · have e1 : ((i + 1 : Nat) : Int) = (i : Int) + 1 := by omega
      rw [e1]; exact he'
    · have hb' : b < s.heap.objs.size := by
        have e' : b = e ∨ b = it := by simpa using hb
        rcases e' with z | z
        · rw [z]; exact hel
        · rw [z]; exact hil
      rw [upd_ne (Nat.ne_of_lt hb')]
      exact (hf b hb).1
  done := by
    intro X hP hw hK hc i pins s σ H E I hf st hg
    subst hP hw hK
    obtain ⟨⟨old, he⟩, hit, hne, hai, hea⟩ := st
    obtain ⟨xs, hq, hx⟩ := hg
    obtain ⟨its, rv, p, hz⟩ := I.tuple hq
    obtain ⟨f0, f1, f2, f3, f4, f5⟩ := hf it (by simp)
    have hl := rv.length
    have D := Draws.tuple (prog := X.prog) (w := X.w) (A := X.A.in1) (I.ok.hd hc) it a hai its.toArray
    have hs : its.toArray.size = i := by rw [List.size_toArray, ← hl]; exact hx
    exact wpAny_pyNext_enum_endD D he (by rw [hs]; exact ⟨hit, p⟩) fun h' eb => ⟨rfl, I.turned (t' := s.toks) (fun b o hb q => eb b o hb q) f0 f1 f3 f4 f5⟩
  self := fun A i s Q E st h => let ⟨⟨_, he⟩, _⟩ := st; wpAny_pyIter_enum he h
def iEnumT (K : PySem.W.Frag) (ta : TA) : TI := fun σ H R => ta σ H fun vs H1 => ∃ a xs, vs = [.ref a] ∧ SqT K H1 a xs ∧ R (IteT K a) H1
theorem pi_enumT {X : Cx} {e : Expr} {ta : TA} {p pos tpos : Pos} {elts : List Expr} {kk : Nat} (hg : Gl X "enumerate") (hm : X.mg "enumerate" = none) (ha : PA X [e] ta) (hs : starEach [e] X.env = [(false, eval e X.env)] := by rfl) :
    PI X (.Tuple elts kk tpos) (.Call (.Name "enumerate" p) [e] [] pos) (iEnumT X.K ta) := by
  refine ⟨fun pins s σ H R I h => ?_⟩
  refine Call_ (ld_blt I hg hm boot_enumerate (PyProof.Rows.callWith_type1 (thn (ha.run pos pins s σ H _ I h) fun us s1 ⟨vs, H1, I1, r1, q1⟩ => ?_) hs rfl))
  obtain ⟨a, xs, ex, hq, q⟩ := q1
  subst ex
  cases r1 with
  | cons r rr =>
    cases rr
    cases r
    obtain ⟨its, rv, p', hz⟩ := I1.tuple hq
    have hal : a < s1.heap.objs.size := by obtain ⟨_, e, _⟩ := id p'; exact Heap.lt_size e
    refine enum_begins1T (begins_tuple a its.toArray) p' fun h' he hit hsz hk => wpAny_pyIter_enum he ?_
    have I2 : Inv X pins σ H1 { s1 with heap := h' } := I1.kept (t' := s1.toks) hk
    refine ⟨s1.heap.objs.size + 1, [s1.heap.objs.size + 1, s1.heap.objs.size], _, _, H1, rfl, I2, turn_enumT a (s1.heap.objs.size + 1) s1.heap.objs.size, ⟨⟨.none, he⟩, ⟨_, hit, rfl, rfl⟩, Nat.succ_ne_self _, Nat.ne_of_lt hal, Nat.ne_of_gt (Nat.lt_succ_of_lt hal)⟩, fun b hb => ?_, q⟩
    have e' : b = s1.heap.objs.size + 1 ∨ b = s1.heap.objs.size := by simpa using hb
    have hle : s1.heap.objs.size ≤ b := by
      rcases e' with z | z
      · rw [z]; exact Nat.le_add_right _ _
      · rw [z]; exact Nat.le_refl _
    exact I1.fpOk hle (I1.hok.fresh hle)
end Tl

namespace Tl
open PySem L2 PySem.Spec PyProof.Rows

abbrev SpG := List V → Hp → VK → Prop
structure FnG (P : Program) (w : World) (K : PySem.W.Frag) (mg : Str → Option Value) (base : Heap) (k : Nat) (f : Addr) (fd : FuncData) (ps : List Str) (sp : SpG) : Prop where
  len : ∀ vs H Q, sp vs H Q → vs.length = ps.length
  run : ∀ (A : Around) (outer : List Env) (s : Shared) (H : Hp) (args : Args) (us : List Value) (vs : List V) (Q : VK), A.guards = some [] → Room k A → Env0 P w K mg base A outer s H →
    BindsTo s fd args (ps.zip us) → Vals vs us → sp vs H Q → codeAny (model P w) A (.call (.ref f) args) (CR CX0 outer P w H s Q E0) s
theorem FnG.mono {P : Program} {w : World} {K : PySem.W.Frag} {mg : Str → Option Value} {base : Heap} {j k : Nat} {f : Addr} {fd : FuncData} {ps : List Str} {sp : SpG} (h : FnG P w K mg base j f fd ps sp) (l : j ≤ k) : FnG P w K mg base k f fd ps sp :=
  ⟨h.len, fun A o s H a us vs Q hg hr => h.run A o s H a us vs Q hg (hr.mono l)⟩
theorem cut_deeper (A : Around) (env : Env) : (A.deeper env).guards = A.guards := rfl
theorem funG {P : Program} {w : World} {K : PySem.W.Frag} {mg : Str → Option Value} {base : Heap} {k : Nat} {f : Addr} {fd : FuncData} {x qual : Str} {params : Arguments} {body : List Stmt} {scope : Scope} {dvs : List V} {kws : List (Str × V)} {N ps : List Str} {sp : SpG}
    (Fd : FunD K x qual params body scope dvs kws f fd) (S : FnScope N ps scope) (len : ∀ vs H Q, sp vs H Q → vs.length = ps.length)
    (hb : ∀ (cdv : Value) (A : Around) (outer : List Env) (s : Shared) (H : Hp) (vs : List V) (Q : VK), (A.deeper (envOfC qual scope s.heap.objs.size f cdv)).guards = some [] → Room k (A.deeper (envOfC qual scope s.heap.objs.size f cdv)) → sp vs H Q →
      ∃ t, PSs (cxOf CX0 P w K mg base N qual scope f cdv A outer s H E0) body t ∧ t { nx := fun _ H' => Q .non H', rt := Q } (start N vs) H) :
    FnG P w K mg base (k + 1) f fd ps sp := by
  obtain ⟨oc, od, dV, kV, doc, pm, an, cdv, ct, osl, efd, lk, hcd, -, -⟩ := Fd.ex
  rw [efd] at lk ⊢
  refine ⟨len, fun A outer s H args us vs Q hg hr e0 bd rv hsp => ?_⟩
  have hk : ∀ b o, base.get? b = some o → s.heap.get? b = some o := fun b o q => (e0.bs b o q).1
  have KX : K.In s.heap := e0.mod.kin.keeps hk
  have nolim : s.heap.NoLimit := e0.mod.nolimit.keeps hk
  have kinds : ∀ y ∈ ps.zip us, scope.names.lookup y.1 = some .local ∨ (scope.names.lookup y.1 = some .cell ∧ ((cellsFrom (s.heap.objs.size + 1) scope.names []).lookup y.1).isSome = true) := by
    rintro ⟨m, u⟩ hy
    exact (S.par m (List.of_mem_zip hy).1).imp id fun q => ⟨q, PySem.W.cellsFrom_some _ _ _ (.inl q)⟩
  refine codeAny_call_function hr.depth (KX f _ lk) rfl S.co S.gen rfl (PySem.W.codeRec_of KX hcd) (bd _ _ _ _ ?_)
  refine wpAny_newFunctionEnv_cells S.kind kinds fun env he s1 ic => ?_
  subst he
  refine ⟨nolim.keeps ic.toInCall.keep, codeAny_func ?_⟩
  obtain ⟨t, pt, ht⟩ := hb cdv A outer s H vs Q (by rw [cut_deeper]; exact hg) (hr.deeper _) hsp
  have I := inv_start (CX := CX0) (E := E0) S hr.hd e0 (len vs H Q hsp) rv ic
  refine wpAny_mono (pt.run [] s1 (start N vs) H _ I ht) (fun fl s2 hq => ?_) fun _ _ z => z
  cases fl with
  | next =>
    obtain ⟨σ', H', J, q⟩ := hq
    exact ⟨.non, H', J.os, J.bare, J.base, J.hok, rfl, q⟩
  | ret u =>
    obtain ⟨v, σ', H', J, r, q⟩ := hq
    exact ⟨v, H', J.os, J.bare, J.base, J.hok, r, q⟩
  | brk => exact hq.elim fun _ z => z.elim fun _ z => z.2.elim
  | cont => exact hq.elim fun _ z => z.elim fun _ z => z.2.elim
variable {X : Cx} {F : CallT} {pos : Pos}
theorem run_fnG {k : Nat} {f : Addr} {fd : FuncData} {ps : List Str} {sp : SpG} {pins : List (Addr × Obj)} {σ : L2.St} {H : Hp} {s : Shared} {Q : VK} {us : List Value} {vs : List V} (G : FnG X.prog X.w X.K X.mg X.base k f fd ps sp) (hg : X.A.guards = some []) (hr : Room k X.A)
    (hb : Binds X.K fd ps []) (I : Inv X pins σ H s) (r : Vals vs us) (h : sp vs H Q) : wpAny (model X.prog X.w) X.A (call (.ref f) us) (EP X pins σ Q) X.xe s := by
  have hl : (us ++ []).length = ps.length := by rw [List.append_nil, ← r.length]; exact G.len _ _ _ h
  have bd := hb s us I.kIn hl
  rw [List.append_nil] at bd
  refine wpAny_call (codeAny_mono (G.run X.A X.stack s H ⟨us, []⟩ us vs Q hg hr I.env0 bd r h) fun res s' hq => ?_)
  match res, hq with
  | .ok (.ret u), hq => exact I.after hq
  | .ok .next, hq => exact hq.elim
  | .ok .brk, hq => exact hq.elim
  | .ok .cont, hq => exact hq.elim
  | .error e, hq => exact hq.elim
def tCG (sp : SpG) (t : TA) : TE := fun σ H Q => t σ H fun vs H1 => sp vs H1 Q
theorem pe_callG {k : Nat} {f : Addr} {fd : FuncData} {ps : List Str} {sp : SpG} {x : Str} {p0 : Pos} {e : Expr} {es : List Expr} {t : TA} (G : FnG X.prog X.w X.K X.mg X.base k f fd ps sp) (hgd : X.A.guards = some []) (hr : Room k X.A) (hg : Gl X x) (hm : X.mg x = some (.ref f))
    (hk : PySem.W.keepIn X.K (.ref f) = true) (hb : Binds X.K fd ps []) (ha : PA X (e :: es) t) (hdb : (x == ("__debug__" : Str)) = false) (he : starEach (e :: es) X.env = (false, eval e X.env) :: starEach es X.env) (hpl : (backTo pos (starEach es X.env)).any (·.1) = false) :
    PE X (.Call (.Name x p0) (e :: es) [] pos) (tCG sp t) := by
  refine ⟨fun pins s σ H Q I h => wpAny_Call_Name_kw (ld_glob I hg hm ?_ hdb)⟩
  refine PySem.W.callWith_K (h₀ := X.base) I.ok.mod.kin hk (thn (ha.run pos pins s σ H _ I h) fun us s1 hq => ?_) he hpl
  obtain ⟨vs, H1, I1, r, q⟩ := hq
  exact ⟨I1.kIn, run_fnG G hgd hr hb I1 r q⟩

def spF (K : PySem.W.Frag) (F : CallT) (f : Nat) (np : Nat) : SpG := fun vs H Q => vs.length = np ∧ ∃ g as S rv S', StOk K g [] H ⟨[], S⟩ ∧ ArgsOk K g ⟨[], S⟩ H H vs as ∧ F f as S = some (rv, S') ∧
  ∀ v g' H', StOk K g' [] H' ⟨[], S'⟩ → Ext g ⟨[], S⟩ H g' ⟨[], S'⟩ H' → RvOk K g' ⟨[], S'⟩ H' H v rv → Q v H'
section
variable {K : PySem.W.Frag} {g g' : Gh} {σ : L2.St} {H H' : Hp} {s : Sta}
theorem StOk.bare (hs : StOk K g σ H s) : StOk K g [] H ⟨[], s.s⟩ where
  same := hs.same
  len := rfl
  slot := fun i x e => by simp at e
  inj := fun i j h => by simp [isOwn] at h
  sep := fun a w => by
    rcases w with ⟨i, h, _⟩ | w
    · simp [isOwn] at h
    · exact hs.sep a (.inr w)
  dro := hs.dro
  drw := fun _ i h => by simp [isOwn] at h
  drs := fun i h => by simp [isDr] at h
theorem ow_bare {g : Gh} {S : Option DS} {a : Addr} (w : Ow g ⟨[], S⟩ a) : S.isSome = true ∧ (a = g.p ∨ a = g.r) := by
  rcases w with ⟨i, h, _⟩ | w
  · simp [isOwn] at h
  · exact w
theorem StOk.again {S' : Option DS} (hs : StOk K g σ H s) (h : StOk K g' [] H' ⟨[], S'⟩) (x : Ext g ⟨[], s.s⟩ H g' ⟨[], S'⟩ H') :
    StOk K { g' with ow := g.ow } σ H' { s with s := S' } ∧ Ext g s H { g' with ow := g.ow } { s with s := S' } H' := by
  have nb : ∀ i : Nat, isOwn (s.g[i]?) → ¬ Ow g ⟨[], s.s⟩ (g.ow i) := fun i hi w => by
    obtain ⟨h1, h2⟩ := ow_bare w
    obtain ⟨k1, k2⟩ := hs.drw h1 i hi
    exact h2.elim k1 k2
  have wo : ∀ {b : Addr}, Ow { g' with ow := g.ow } { s with s := S' } b → Ow g s b ∨ H b = none := fun {b} w => by
    rcases w with w | w
    · exact .inl (.inl w)
    · rcases x.own b (.inr w) with z | z
      · exact .inl (.inr (ow_bare z))
      · exact .inr z
  have newp : ∀ i : Nat, isOwn (s.g[i]?) → ∀ b, Ow g' ⟨[], S'⟩ b → g.ow i ≠ b := fun i hi b w z => by
    rcases x.own b w with y | y
    · exact nb i hi (z ▸ y)
    · exact hs.there (.inl ⟨i, hi, z⟩) y
  refine ⟨⟨h.same, hs.len, fun i sl e => ?_, hs.inj, fun a w => ?_, h.dro, fun e i hi => ⟨newp i hi _ (.inr ⟨e, .inl rfl⟩), newp i hi _ (.inr ⟨e, .inr rfl⟩)⟩, fun i hi => (x.dr (hs.drs i hi)).1⟩,
    ⟨x.mono, fun b o e w => x.keep b o e fun z => w (.inr (ow_bare z)), fun b e => ?_, fun b w => wo w, x.trk, fun e => x.dr e⟩⟩
  · have q := hs.slot i sl e
    cases sl with
    | no => trivial
    | v d =>
      obtain ⟨v, h1, h2⟩ := q
      exact ⟨v, h1, h2.mono x.mono⟩
    | own xs =>
      obtain ⟨h1, vs, h2, h3⟩ := q
      exact ⟨h1, vs, x.keep _ _ h2 (nb i (by rw [show s.g[i]? = _ from e]; trivial)), h3.mono x.mono⟩
    | dct xs =>
      obtain ⟨h1, vs, h2, h3⟩ := q
      exact ⟨h1, vs, x.keep _ _ h2 (nb i (by rw [show s.g[i]? = _ from e]; trivial)), h3.mono x.mono⟩
    | dr =>
      have := (x.dr (hs.drs i (by rw [show s.g[i]? = _ from e]; trivial))).2.1
      show _ = some (some (V.ref g'.p))
      rw [this]; exact q
    | drr =>
      have := (x.dr (hs.drs i (by rw [show s.g[i]? = _ from e]; trivial))).2.2
      show _ = some (some (V.ref g'.r))
      rw [this]; exact q
    | scr ns =>
      obtain ⟨a, h1, h2⟩ := q
      exact ⟨a, h1, x.mono.seq h2⟩
  · rcases w with ⟨i, hi, e⟩ | w
    · cases q : g'.G a with
      | none => rfl
      | some o =>
        have e : g.ow i = a := e
        rcases x.newG a (by rw [q]; simp) with z | z | z
        · exact absurd (hs.sep a (.inl ⟨i, hi, e⟩)) z
        · exact absurd z (hs.there (.inl ⟨i, hi, e⟩))
        · exact absurd (e ▸ z) (nb i hi)
    · exact h.sep a (.inr w)
  · rcases x.newG b e with z | z | z
    · exact .inl z
    · exact .inr (.inl z)
    · exact .inr (.inr (.inr (ow_bare z)))
theorem ArgsOk.bare : ∀ {vs : List V} {rs : List Rv} {H0 : Hp}, ArgsOk K g s H H0 vs rs → ArgsOk K g ⟨[], s.s⟩ H H vs rs
  | _, _, _, .nil => .nil
  | _, _, _, .cons (r := r) (a := a) e h k => by
    refine .cons e ?_ (ArgsOk.bare k)
    cases a with
    | v d => exact h
    | f xs => cases r <;> cases e
    | fd xs => cases r <;> cases e
    | dr => exact h
    | scr ns => exact h
theorem RvOk.again {S' : Option DS} {v : V} {r : Rv} (hs : StOk K g σ H s) (q : RvOk K g' ⟨[], S'⟩ H' H v r) (x : Ext g ⟨[], s.s⟩ H g' ⟨[], S'⟩ H') : RvOk K { g' with ow := g.ow } { s with s := S' } H' H v r := by
  have nw : ∀ {a : Addr}, H a = none → ¬ Ow g' ⟨[], S'⟩ a → ¬ Ow { g' with ow := g.ow } { s with s := S' } a := fun {a} ha hn w => by
    rcases w with ⟨i, hi, e⟩ | w
    · exact hs.there (.inl ⟨i, hi, e⟩) ha
    · exact hn (.inr w)
  cases r with
  | v d => exact q
  | f xs =>
    obtain ⟨a, vs, e, h1, h2, h3, h4, h5⟩ := q
    exact ⟨a, vs, e, h1, h2, h3, nw h5 h4, h5⟩
  | fd xs =>
    obtain ⟨a, vs, e, h1, h2, h3, h4, h5⟩ := q
    exact ⟨a, vs, e, h1, h2, h3, nw h5 h4, h5⟩
  | dr => exact q
  | scr ns => exact q
end
theorem e_call {k : Nat} {f : Addr} {fd : FuncData} {ps : List Str} {x : Str} {p0 : Pos} {e : Expr} {es : List Expr} {ies : IEs} {i : Nat} (G : FnG X.prog X.w X.K X.mg X.base k f fd ps (spF X.K F i ies.len)) (hgd : X.A.guards = some []) (hr : Room k X.A) (hg : Gl X x) (hm : X.mg x = some (.ref f))
    (hk : PySem.W.keepIn X.K (.ref f) = true) (hb : Binds X.K fd ps []) (ha : PA X (e :: es) (tAs X.K F ies)) (hdb : (x == ("__debug__" : Str)) = false) (he : starEach (e :: es) X.env = (false, eval e X.env) :: starEach es X.env) (hpl : (backTo pos (starEach es X.env)).any (·.1) = false) :
    PE X (.Call (.Name x p0) (e :: es) [] pos) (tX X F (.call i ies)) := pe_imp (pe_callG G hgd hr hg hm hk hb ha hdb he hpl) fun σ H Q ⟨g, s, rv, s', hs, e, p⟩ => by
  simp only [evE, Option.bind_eq_some_iff, Option.map_eq_some_iff] at e
  obtain ⟨q1, e1, ⟨rv', S'⟩, e2, e3⟩ := e
  cases e3
  refine ⟨g, s, _, _, hs, e1, fun vs g1 H1 hs1 x1 r1 => ⟨by rw [r1.len, evEs_len e1], g1, _, _, _, S', hs1.bare, r1.bare, e2, fun v g2 H2 hs2 x2 r2 => ?_⟩⟩
  obtain ⟨h1, h2⟩ := hs1.again hs2 x2
  exact p v _ H2 h1 (x1.trans h2) ((RvOk.again hs1 r2 x2).back x1.trk)

structure ItOk (K : PySem.W.Frag) (G : Hp) (J : It) (ds : List D) : Prop where
  go : ∀ (i : Nat) (H : Hp), Same G H → i < ds.length → J.go i H
  yl : ∀ (i : Nat) (H H' G2 : Hp) (x : V) (d : D), Same G G2 → Same G2 H → ds[i]? = some d → J.yld i H x H' → ∃ G', Pure G2 H G' H' ∧ Den K G' x d
  stop : ∀ H, Same G H → J.stop ds.length H
def tI (K : PySem.W.Frag) (F : CallT) (it : II) : TI := fun σ H R => ∃ g s ds s', StOk K g σ H s ∧ evI F it s = some (ds, s') ∧ ∀ J g' H', StOk K g' σ H' s' → Ext g s H g' s' H' → ItOk K g'.G J ds → R J H'
variable {tg : Expr}
theorem pi_imp {e : Expr} {t t' : TI} (h : PI X tg e t) (k : ∀ σ H R, t' σ H R → t σ H R) : PI X tg e t' := ⟨fun pins s σ H R I w => h.run pins s σ H R I (k σ H R w)⟩
theorem pi_orr {e : Expr} {t t' : TI} (h : PI X tg e t) (h' : PI X tg e t') : PI X tg e (fun σ H R => t σ H R ∨ t' σ H R) := ⟨fun pins s σ H R I w => w.elim (h.run pins s σ H R I) (h'.run pins s σ H R I)⟩
theorem itl_ok {K : PySem.W.Frag} {G : Hp} {a : Addr} {vs : List V} {ds : List D} (h : G a = some (.lst vs)) (k : Dens K G vs ds) : ItOk K G (Itl K a) ds where
  go := fun i H s hi => ⟨vs, vs[i]'(by rw [k.len]; exact hi), .inl (.inl (s _ _ h)), by simp [k.len, hi]⟩
  yl := fun i H H' G2 x d s1 s2 hd y => by
    obtain ⟨rfl, hy⟩ := y
    obtain ⟨v, h1, h2⟩ := k.get hd
    have e := hy vs (.inl (.inl ((s1.trans s2) _ _ h)))
    rw [h1] at e
    cases e
    exact ⟨G2, .refl s2, h2.mono s1⟩
  stop := fun H s => ⟨vs, .inl (.inl (s _ _ h)), by rw [k.len]; exact Nat.le_refl _⟩
theorem itt_ok {K : PySem.W.Frag} {G : Hp} {a : Addr} {vs : List V} {ds : List D} (h : SqT K G a vs) (k : Dens K G vs ds) : ItOk K G (Itt K a) ds where
  go := fun i H s hi => ⟨vs, vs[i]'(by rw [k.len]; exact hi), same_tup s h, by simp [k.len, hi]⟩
  yl := fun i H H' G2 x d s1 s2 hd y => by
    obtain ⟨rfl, hy⟩ := y
    obtain ⟨v, h1, h2⟩ := k.get hd
    have e := hy vs (same_tup (s1.trans s2) h)
    rw [h1] at e
    cases e
    exact ⟨G2, .refl s2, h2.mono s1⟩
  stop := fun H s => ⟨vs, same_tup s h, by rw [k.len]; exact Nat.le_refl _⟩
theorem i_seq {e : Expr} {ie : IE} (he : PE X e (tX X F ie)) : PI X tg e (tI X.K F (.seq ie)) := pi_imp (pi_orr (pi_list he) (pi_tup he)) fun σ H R ⟨g, s, ds, s', hs, e, p⟩ => by
  simp only [evI, Option.bind_eq_some_iff, Option.map_eq_some_iff] at e
  obtain ⟨q, e1, d, e2, xs, e3, e4⟩ := e
  cases e4
  cases d with
  | list ys =>
    cases e3
    refine .inl (seq1 hs e1 fun v g1 H1 hs1 x1 r1 => ?_)
    obtain ⟨g2, hs2, x2, dn, _⟩ := freezeD hs1 x1 r1 e2
    cases dn with
    | lst h k => exact ⟨_, rfl, ⟨_, .inl (.inl (hs2.same _ _ h))⟩, p _ g2 H1 hs2 x2 (itl_ok h k)⟩
  | tuple ys =>
    cases e3
    refine .inr (seq1 hs e1 fun v g1 H1 hs1 x1 r1 => ?_)
    obtain ⟨g2, hs2, x2, dn, _⟩ := freezeD hs1 x1 r1 e2
    cases dn with
    | tup h k => exact ⟨_, rfl, ⟨_, same_tup hs2.same h⟩, p _ g2 H1 hs2 x2 (itt_ok h k)⟩
  | none => cases e3
  | bool _ => cases e3
  | int _ => cases e3
  | str _ => cases e3
  | dict _ => cases e3
theorem rngD_len (a b : Int) : (rngD a b).length = (b - a).toNat := by
  unfold rngD
  rw [List.length_map, List.length_range]
theorem rngD_get {a b : Int} {i : Nat} {d : D} (h : (rngD a b)[i]? = some d) : i < (b - a).toNat ∧ d = .int (a + (i : Nat)) := by
  have hi : i < (rngD a b).length := (List.getElem?_eq_some_iff.mp h).1
  rw [rngD_len] at hi
  refine ⟨hi, ?_⟩
  unfold rngD at h
  rw [List.getElem?_map, List.getElem?_range hi] at h
  exact (Option.some.inj h).symm
theorem itr_ok {K : PySem.W.Frag} {G : Hp} (a b : Int) : ItOk K G (Itr a (b - a).toNat) (rngD a b) where
  go := fun i H s hi => by rw [rngD_len] at hi; exact hi
  yl := fun i H H' G2 x d s1 s2 hd y => by
    obtain ⟨rfl, rfl⟩ := y
    obtain ⟨_, rfl⟩ := rngD_get hd
    exact ⟨G2, .refl s2, .int _⟩
  stop := fun H s => by rw [rngD_len]; exact Nat.le_refl _
theorem args1 {K : PySem.W.Frag} {g : Gh} {s : Sta} {H H0 : Hp} {vs : List V} {d : D} (h : ArgsOk K g s H H0 vs [.v d]) : ∃ v, vs = [v] ∧ Den K g.G v d := by
  cases h with
  | cons e a k =>
    cases k
    exact ⟨_, rfl, a⟩
theorem args2 {K : PySem.W.Frag} {g : Gh} {s : Sta} {H H0 : Hp} {vs : List V} {d d' : D} (h : ArgsOk K g s H H0 vs [.v d, .v d']) : ∃ v w, vs = [v, w] ∧ Den K g.G v d ∧ Den K g.G w d' := by
  cases h with
  | cons e a k =>
    obtain ⟨w, rfl, h2⟩ := args1 k
    exact ⟨_, _, rfl, a, h2⟩
theorem i_rng1 {a : Expr} {p0 : Pos} {ies : IEs} (hg : Gl X "range") (hm : X.mg "range" = none) (ha : PA X [a] (tAs X.K F ies)) (hs0 : starEach [a] X.env = [(false, eval a X.env)]) (hl : ies.len = 1) : PI X tg (.Call (.Name "range" p0) [a] [] pos) (tI X.K F (.rng ies)) :=
  pi_imp (pi_range1 hg hm ha hs0) fun σ H R ⟨g, s, ds, s', hs, e, p⟩ => by
    simp only [evI, Option.bind_eq_some_iff, Option.map_eq_some_iff] at e
    obtain ⟨⟨q, s1⟩, e1, xs, e2, e3⟩ := e
    cases e3
    have hq : q.length = 1 := hl ▸ evEs_len e1
    simp only at e2
    unfold rngR at e2
    split at e2
    · rename_i j
      split at e2
      · rename_i hz
        cases e2
        have hz := small_spec hz
        refine ⟨g, s, _, _, hs, e1, fun vs g1 H1 hs1 x1 r1 => ?_⟩
        obtain ⟨v, rfl, dv⟩ := args1 r1
        cases dv
        have it := itr_ok (K := X.K) (G := g1.G) 0 j
        rw [Int.sub_zero] at it
        exact ⟨j, rfl, by omega, by omega, p _ g1 H1 hs1 x1 it⟩
      · cases e2
    · cases hq
    · cases e2
theorem i_rng2 {a b : Expr} {p0 : Pos} {ies : IEs} (hg : Gl X "range") (hm : X.mg "range" = none) (ha : PA X [a, b] (tAs X.K F ies)) (hs0 : starEach [a, b] X.env = [(false, eval a X.env), (false, eval b X.env)]) (hs2 : starEach [b] X.env = [(false, eval b X.env)]) (hl : ies.len = 2) : PI X tg (.Call (.Name "range" p0) [a, b] [] pos) (tI X.K F (.rng ies)) :=
  pi_imp (pi_range2 hg hm ha hs0 hs2) fun σ H R ⟨g, s, ds, s', hs, e, p⟩ => by
    simp only [evI, Option.bind_eq_some_iff, Option.map_eq_some_iff] at e
    obtain ⟨⟨q, s1⟩, e1, xs, e2, e3⟩ := e
    cases e3
    have hq : q.length = 2 := hl ▸ evEs_len e1
    simp only at e2
    unfold rngR at e2
    split at e2
    · cases hq
    · rename_i i j
      split at e2
      · rename_i hz
        cases e2
        obtain ⟨z1, z2⟩ := (Bool.and_eq_true _ _).mp hz
        have z1 := small_spec z1
        have z2 := small_spec z2
        refine ⟨g, s, _, _, hs, e1, fun vs g1 H1 hs1 x1 r1 => ?_⟩
        obtain ⟨v, w, rfl, dv, dw⟩ := args2 r1
        cases dv
        cases dw
        exact ⟨i, j, rfl, ⟨by omega, by omega, by omega, by omega⟩, p _ g1 H1 hs1 x1 (itr_ok i j)⟩
      · cases e2
    · cases e2
theorem enumD_len : ∀ (k : Nat) (l : List D), (enumD k l).length = l.length
  | _, [] => rfl
  | k, _ :: r => congrArg (· + 1) (enumD_len (k + 1) r)
theorem enumD_get : ∀ {l : List D} {k i : Nat} {d : D}, (enumD k l)[i]? = some d → ∃ y, l[i]? = some y ∧ d = .tuple [.int ((k + i : Nat) : Int), y]
  | [], k, i, d, h => by simp [enumD] at h
  | y :: r, k, 0, d, h => by
    simp only [enumD, List.getElem?_cons_zero, Option.some.injEq] at h
    exact ⟨y, rfl, h.symm⟩
  | y :: r, k, i + 1, d, h => by
    simp only [enumD, List.getElem?_cons_succ] at h
    obtain ⟨z, h1, h2⟩ := enumD_get h
    exact ⟨z, by simpa using h1, by rw [h2, Nat.add_right_comm]; rfl⟩
theorem pair_new {K : PySem.W.Frag} {G H : Hp} {T : Addr} {v w : V} {d e : D} (s : Same G H) (hT : H T = none) (h : Den K G v d) (k : Den K G w e) : ∃ G', Pure G H G' (upd H T (.tup [v, w])) ∧ Den K G' (.ref T) (.tuple [d, e]) := by
  have m : Same G (upd G T (.tup [v, w])) := same_new (s.free hT)
  exact ⟨_, .both s hT, .tup (.inl (.inl upd_same)) (.cons (h.mono m) (.cons (k.mono m) .nil))⟩
theorem ite_ok {K : PySem.W.Frag} {G : Hp} {a : Addr} {vs : List V} {ds : List D} (h : G a = some (.lst vs)) (k : Dens K G vs ds) : ItOk K G (Ite K a) (enumD 0 ds) where
  go := fun i H s hi => by
    rw [enumD_len] at hi
    exact ⟨vs, vs[i]'(by rw [k.len]; exact hi), .inl (.inl (s _ _ h)), by simp [k.len, hi]⟩
  yl := fun i H H' G2 x d s1 s2 hd y => by
    obtain ⟨T, x', rfl, hT, rfl, hy⟩ := y
    obtain ⟨z, h1, rfl⟩ := enumD_get hd
    obtain ⟨v, h2, h3⟩ := k.get h1
    have e := hy vs (.inl (.inl ((s1.trans s2) _ _ h)))
    rw [h2] at e
    cases e
    rw [Nat.zero_add]
    exact pair_new s2 hT (.int _) (h3.mono s1)
  stop := fun H s => ⟨vs, .inl (.inl (s _ _ h)), by rw [k.len, enumD_len]; exact Nat.le_refl _⟩
theorem iteT_ok {K : PySem.W.Frag} {G : Hp} {a : Addr} {vs : List V} {ds : List D} (h : SqT K G a vs) (k : Dens K G vs ds) : ItOk K G (IteT K a) (enumD 0 ds) where
  go := fun i H s hi => by
    rw [enumD_len] at hi
    exact ⟨vs, vs[i]'(by rw [k.len]; exact hi), same_tup s h, by simp [k.len, hi]⟩
  yl := fun i H H' G2 x d s1 s2 hd y => by
    obtain ⟨T, x', rfl, hT, rfl, hy⟩ := y
    obtain ⟨z, h1, rfl⟩ := enumD_get hd
    obtain ⟨v, h2, h3⟩ := k.get h1
    have e := hy vs (same_tup (s1.trans s2) h)
    rw [h2] at e
    cases e
    rw [Nat.zero_add]
    exact pair_new s2 hT (.int _) (h3.mono s1)
  stop := fun H s => ⟨vs, same_tup s h, by rw [k.len, enumD_len]⟩
theorem i_enum {a : Expr} {p0 tpos : Pos} {elts : List Expr} {kk : Nat} {ies : IEs} (hg : Gl X "enumerate") (hm : X.mg "enumerate" = none) (ha : PA X [a] (tAs X.K F ies)) (hs0 : starEach [a] X.env = [(false, eval a X.env)]) : PI X (.Tuple elts kk tpos) (.Call (.Name "enumerate" p0) [a] [] pos) (tI X.K F (.enum ies)) :=
  pi_imp (pi_orr (pi_enum hg hm ha hs0) (pi_enumT hg hm ha hs0)) fun σ H R ⟨g, s, ds, s', hs, e, p⟩ => by
    simp only [evI, Option.bind_eq_some_iff, Option.map_eq_some_iff] at e
    obtain ⟨⟨q, s1⟩, e1, xs, e2, e3⟩ := e
    cases e3
    simp only at e2
    unfold enumR at e2
    split at e2
    · rename_i d
      obtain ⟨ys, e4, e5⟩ := Option.map_eq_some_iff.mp e2
      subst e5
      clear e2
      cases d with
      | list zs =>
        cases e4
        refine .inl ⟨g, s, _, _, hs, e1, fun vs g1 H1 hs1 x1 r1 => ?_⟩
        obtain ⟨v, rfl, dv⟩ := args1 r1
        cases dv with
        | lst h k => exact ⟨_, _, rfl, .inl (.inl (hs1.same _ _ h)), p _ g1 H1 hs1 x1 (ite_ok h k)⟩
      | tuple zs =>
        cases e4
        refine .inr ⟨g, s, _, _, hs, e1, fun vs g1 H1 hs1 x1 r1 => ?_⟩
        obtain ⟨v, rfl, dv⟩ := args1 r1
        cases dv with
        | tup h k => exact ⟨_, _, rfl, same_tup hs1.same h, p _ g1 H1 hs1 x1 (iteT_ok h k)⟩
      | none => cases e4
      | bool _ => cases e4
      | int _ => cases e4
      | str _ => cases e4
      | dict _ => cases e4
    · cases e2
theorem zipD_len : ∀ (xs ys : List D), (zipD xs ys).length = min xs.length ys.length
  | [], ys => by simp [zipD]
  | _ :: _, [] => by simp [zipD]
  | x :: xs, y :: ys => by
    show (zipD xs ys).length + 1 = min (xs.length + 1) (ys.length + 1)
    rw [zipD_len xs ys]
    omega
theorem zipD_get : ∀ {xs ys : List D} {i : Nat} {d : D}, (zipD xs ys)[i]? = some d → ∃ x y, xs[i]? = some x ∧ ys[i]? = some y ∧ d = .tuple [x, y]
  | [], ys, i, d, h => by simp [zipD] at h
  | _ :: _, [], i, d, h => by simp [zipD] at h
  | x :: xs, y :: ys, 0, d, h => by
    simp only [zipD, List.getElem?_cons_zero, Option.some.injEq] at h
    exact ⟨x, y, rfl, rfl, h.symm⟩
  | x :: xs, y :: ys, i + 1, d, h => by
    simp only [zipD, List.getElem?_cons_succ] at h
    obtain ⟨a, b, h1, h2, h3⟩ := zipD_get h
    exact ⟨a, b, by simpa using h1, by simpa using h2, h3⟩
theorem itz_ok {K : PySem.W.Frag} {G : Hp} {a b : Addr} {vs ws : List V} {ds es : List D} (h : G a = some (.lst vs)) (k : Dens K G vs ds) (h' : G b = some (.lst ws)) (k' : Dens K G ws es) : ItOk K G (Itz K a b) (zipD ds es) where
  go := fun i H s hi => by
    rw [zipD_len] at hi
    have i1 : i < vs.length := by rw [k.len]; omega
    have i2 : i < ws.length := by rw [k'.len]; omega
    exact ⟨vs, ws, vs[i], ws[i], .inl (.inl (s _ _ h)), .inl (.inl (s _ _ h')), by simp [i1], by simp [i2]⟩
  yl := fun i H H' G2 x d s1 s2 hd y => by
    obtain ⟨T, x', y', rfl, hT, rfl, hx, hy⟩ := y
    obtain ⟨z, z', h1, h2, rfl⟩ := zipD_get hd
    obtain ⟨v, h3, h4⟩ := k.get h1
    obtain ⟨w, h5, h6⟩ := k'.get h2
    have e := hx vs (.inl (.inl ((s1.trans s2) _ _ h)))
    rw [h3] at e
    cases e
    have e := hy ws (.inl (.inl ((s1.trans s2) _ _ h')))
    rw [h5] at e
    cases e
    exact pair_new s2 hT (h4.mono s1) (h6.mono s1)
  stop := fun H s => ⟨vs, ws, .inl (.inl (s _ _ h)), .inl (.inl (s _ _ h')), by rw [k.len, k'.len, zipD_len]; omega⟩
theorem itzT_ok {K : PySem.W.Frag} {G : Hp} {a b : Addr} {vs ws : List V} {ds es : List D} (h : SqT K G a vs) (k : Dens K G vs ds) (h' : SqT K G b ws) (k' : Dens K G ws es) : ItOk K G (RZ.ItzT K a b) (zipD ds es) where
  go := fun i H s hi => by
    rw [zipD_len] at hi
    have i1 : i < vs.length := by rw [k.len]; omega
    have i2 : i < ws.length := by rw [k'.len]; omega
    exact ⟨vs, ws, vs[i], ws[i], same_tup s h, same_tup s h', by simp [i1], by simp [i2]⟩
  yl := fun i H H' G2 x d s1 s2 hd y => by
    obtain ⟨T, x', y', rfl, hT, rfl, hx, hy⟩ := y
    obtain ⟨z, z', h1, h2, rfl⟩ := zipD_get hd
    obtain ⟨v, h3, h4⟩ := k.get h1
    obtain ⟨w, h5, h6⟩ := k'.get h2
    have e := hx vs (same_tup (s1.trans s2) h)
    rw [h3] at e
    cases e
    have e := hy ws (same_tup (s1.trans s2) h')
    rw [h5] at e
    cases e
    exact pair_new s2 hT (h4.mono s1) (h6.mono s1)
  stop := fun H s => ⟨vs, ws, same_tup s h, same_tup s h', by rw [k.len, k'.len, zipD_len]; omega⟩
theorem i_zip {a b : Expr} {p0 tpos : Pos} {elts : List Expr} {kk : Nat} {ies : IEs} (hg : Gl X "zip") (hm : X.mg "zip" = none) (ha : PA X [a, b] (tAs X.K F ies)) (hs0 : starEach [a, b] X.env = (false, eval a X.env) :: starEach [b] X.env) (hpl : (backTo pos (starEach [b] X.env)).any (·.1) = false) :
    PI X (.Tuple elts kk tpos) (.Call (.Name "zip" p0) [a, b] [] pos) (tI X.K F (.zip ies)) :=
  pi_imp (RZ.pi_zipA hg hm ha hs0 hpl) fun σ H R ⟨g, s, ds, s', hs, e, p⟩ => by
    simp only [evI, Option.bind_eq_some_iff, Option.map_eq_some_iff] at e
    obtain ⟨⟨q, s1⟩, e1, xs, e2, e3⟩ := e
    cases e3
    simp only at e2
    unfold zipR at e2
    split at e2
    · cases e2
      refine ⟨g, s, _, _, hs, e1, fun vs g1 H1 hs1 x1 r1 => ?_⟩
      obtain ⟨v, w, rfl, dv, dw⟩ := args2 r1
      cases dv with
      | lst h k =>
        cases dw with
        | lst h' k' => exact ⟨_, _, _, _, rfl, .inl ⟨.inl (.inl (hs1.same _ _ h)), .inl (.inl (hs1.same _ _ h')), p _ g1 H1 hs1 x1 (itz_ok h k h' k')⟩⟩
    · cases e2
      refine ⟨g, s, _, _, hs, e1, fun vs g1 H1 hs1 x1 r1 => ?_⟩
      obtain ⟨v, w, rfl, dv, dw⟩ := args2 r1
      cases dv with
      | tup h k =>
        cases dw with
        | tup h' k' => exact ⟨_, _, _, _, rfl, .inr ⟨same_tup hs1.same h, same_tup hs1.same h', p _ g1 H1 hs1 x1 (itzT_ok h k h' k')⟩⟩
    · cases e2
end Tl

namespace Tl
open PySem L2
variable {X : Cx} {F : CallT} {pos : Pos}

theorem wipe_in {σ : L2.St} {i : Nat} : ∀ {vs : List Nat}, i ∈ vs → i < σ.length → (wipe σ vs)[i]? = some none
  | [], h, _ => by cases h
  | v :: vs, h, hl => by
    unfold wipe
    by_cases e : v = i
    · subst e
      rw [List.getElem?_set_self (by rw [wipe_length]; exact hl)]
    · rw [List.getElem?_set_ne e]
      exact wipe_in ((List.mem_cons.mp h).resolve_left fun z => e z.symm) hl
theorem wipe_get (σ : L2.St) (vs : List Nat) (i : Nat) : (wipe σ vs)[i]? = if i ∈ vs then (if i < σ.length then some none else none) else σ[i]? := by
  by_cases h : i ∈ vs
  · rw [if_pos h]
    by_cases hl : i < σ.length
    · rw [if_pos hl, wipe_in h hl]
    · rw [if_neg hl, List.getElem?_eq_none (by rw [wipe_length]; omega)]
  · rw [if_neg h, wipe_out h]
theorem wipe_set {σ : L2.St} {i : Nat} {x : Option V} {vs : List Nat} (h : i ∈ vs) : wipe (σ.set i x) vs = wipe σ vs := by
  apply List.ext_getElem?
  intro j
  rw [wipe_get, wipe_get, List.length_set]
  by_cases hj : j ∈ vs
  · rw [if_pos hj, if_pos hj]
  · rw [if_neg hj, if_neg hj, List.getElem?_set_ne (fun (z : i = j) => hj (z ▸ h))]
theorem wipe_wipe (σ : L2.St) (vs : List Nat) : wipe (wipe σ vs) vs = wipe σ vs := by
  apply List.ext_getElem?
  intro j
  rw [wipe_get, wipe_get, wipe_length]
  by_cases hj : j ∈ vs
  · rw [if_pos hj, if_pos hj]
  · rw [if_neg hj, if_neg hj]
theorem wipeG_len (g : List Slot) : ∀ vs : List Nat, (wipeG g vs).length = g.length
  | [] => rfl
  | v :: vs => by unfold wipeG; rw [List.length_set, wipeG_len g vs]
theorem wipeG_get {g : List Slot} {i : Nat} {x : Slot} : ∀ {vs : List Nat}, (wipeG g vs)[i]? = some x → (i ∈ vs ∧ x = .no) ∨ (i ∉ vs ∧ g[i]? = some x)
  | [], h => .inr ⟨by simp, h⟩
  | v :: vs, h => by
    unfold wipeG at h
    rcases get_set h with ⟨h1, h2, _⟩ | ⟨h1, h2⟩
    · exact .inl ⟨by rw [h1]; exact List.mem_cons_self, h2⟩
    · rcases wipeG_get h2 with ⟨h3, h4⟩ | ⟨h3, h4⟩
      · exact .inl ⟨List.mem_cons_of_mem _ h3, h4⟩
      · exact .inr ⟨fun z => (List.mem_cons.mp z).elim h1 h3, h4⟩
theorem wipeG_out {g : List Slot} {i : Nat} : ∀ {vs : List Nat}, i ∉ vs → (wipeG g vs)[i]? = g[i]?
  | [], _ => rfl
  | v :: vs, h => by
    unfold wipeG
    rw [List.getElem?_set_ne (fun z => h (by rw [z]; exact List.mem_cons_self))]
    exact wipeG_out fun z => h (List.mem_cons_of_mem _ z)
section
variable {K : PySem.W.Frag} {g g' : Gh} {σ : L2.St} {H H' : Hp} {s s' : Sta} {vs : List Nat}
theorem own_wipe {i : Nat} (h : isOwn ((s.wipe vs).g[i]?)) : i ∉ vs ∧ isOwn (s.g[i]?) := by
  cases e : (s.wipe vs).g[i]? with
  | none => rw [e] at h; exact h.elim
  | some x =>
    rw [e] at h
    rcases wipeG_get e with ⟨_, rfl⟩ | ⟨h1, h2⟩
    · exact h.elim
    · exact ⟨h1, by rw [h2]; exact h⟩
theorem dr_wipe {i : Nat} (h : isDr ((s.wipe vs).g[i]?)) : isDr (s.g[i]?) := by
  cases e : (s.wipe vs).g[i]? with
  | none => rw [e] at h; exact h.elim
  | some x =>
    rw [e] at h
    rcases wipeG_get e with ⟨_, rfl⟩ | ⟨h1, h2⟩
    · exact h.elim
    · rw [h2]; exact h
theorem ow_wipe {a : Addr} (w : Ow g (s.wipe vs) a) : Ow g s a := by
  rcases w with ⟨i, h, e⟩ | w
  · exact .inl ⟨i, (own_wipe h).2, e⟩
  · exact .inr w
theorem StOk.wipe (hs : StOk K g σ H s) (vs : List Nat) : StOk K g (wipe σ vs) H (s.wipe vs) where
  same := hs.same
  len := by
    show (L2.wipe σ vs).length = (wipeG s.g vs).length
    rw [wipe_length, wipeG_len]; exact hs.len
  slot := fun i x e => by
    rcases wipeG_get e with ⟨_, rfl⟩ | ⟨h1, h2⟩
    · trivial
    · rw [wipe_out h1]; exact hs.slot i x h2
  inj := fun i j hi hj e => hs.inj i j (own_wipe hi).2 (own_wipe hj).2 e
  sep := fun a w => hs.sep a (ow_wipe w)
  dro := hs.dro
  drw := fun e i hi => hs.drw e i (own_wipe hi).2
  drs := fun i hi => hs.drs i (dr_wipe hi)
theorem Ext.wipe {H0 : Hp} {g0 : Gh} {s0 : Sta} (x : Ext g0 s0 H0 g s H) (vs : List Nat) : Ext g0 s0 H0 g (s.wipe vs) H := ⟨x.mono, x.keep, x.newG, fun b w => x.own b (ow_wipe w), x.trk, x.dr⟩
theorem StOk.poke {a : Addr} {o : HO} (hs : StOk K g σ H s) (h1 : g.G a = none) (h2 : ¬ Ow g s a) : StOk K g σ (upd H a o) s where
  same := fun b u e => by
    have hb : b ≠ a := fun z => by rw [z, h1] at e; cases e
    rw [upd_ne hb]; exact hs.same _ _ e
  len := hs.len
  slot := fun i x e => by
    have q := hs.slot i x e
    cases x with
    | no => trivial
    | v d => exact q
    | own xs =>
      obtain ⟨q1, ws, q2, q3⟩ := q
      have ne : g.ow i ≠ a := fun z => h2 (.inl ⟨i, by rw [e]; trivial, z⟩)
      exact ⟨q1, ws, by rw [upd_ne ne]; exact q2, q3⟩
    | dct xs =>
      obtain ⟨q1, ws, q2, q3⟩ := q
      have ne : g.ow i ≠ a := fun z => h2 (.inl ⟨i, by rw [e]; trivial, z⟩)
      exact ⟨q1, ws, by rw [upd_ne ne]; exact q2, q3⟩
    | dr => exact q
    | drr => exact q
    | scr ns => exact q
  inj := hs.inj
  sep := hs.sep
  dro := fun S e => by
    obtain ⟨n, ⟨c, k1, k2⟩, k3⟩ := hs.dro S e
    have hi : s.s.isSome = true := by rw [e]; rfl
    have n1 : g.p ≠ a := fun z => h2 (.inr ⟨hi, .inl z.symm⟩)
    have n2 : g.r ≠ a := fun z => h2 (.inr ⟨hi, .inr z.symm⟩)
    exact ⟨n, ⟨c, by rw [upd_ne n1]; exact k1, k2⟩, by rw [upd_ne n2]; exact k3⟩
  drw := hs.drw
  drs := hs.drs
theorem Ext.poke {a : Addr} {o : HO} (x : Ext g s H g' s' H') (h : H a = none) : Ext g s H g' s' (upd H' a o) where
  mono := x.mono
  keep := fun b u e w => by
    have hb : b ≠ a := ne_of_none e h
    rw [upd_ne hb]; exact x.keep b u e w
  newG := x.newG
  own := x.own
  trk := fun b e => by
    by_cases hb : b = a
    · rw [hb]; exact h
    · rw [upd_ne hb] at e; exact x.trk b e
  dr := x.dr
theorem backG_get {g0 g : List Slot} (hl : g0.length = g.length) : ∀ (vs : List Nat) (i : Nat), (backG g0 g vs)[i]? = if i ∈ vs then g0[i]? else g[i]?
  | [], i => by simp [backG]
  | v :: vs, i => by
    have len : (backG g0 g vs).length = g.length := backG_len vs
    unfold backG
    by_cases hv : v = i
    · subst hv
      rw [if_pos List.mem_cons_self]
      cases e : g0[v]? with
      | none =>
        have h1 : g0.length ≤ v := List.getElem?_eq_none_iff.mp e
        exact List.getElem?_eq_none (by rw [len]; omega)
      | some x =>
        have h1 : v < g0.length := (List.getElem?_eq_some_iff.mp e).1
        exact List.getElem?_set_self (by rw [len]; omega)
    · have e : (if i ∈ v :: vs then g0[i]? else g[i]?) = if i ∈ vs then g0[i]? else g[i]? := by
        by_cases h : i ∈ vs
        · rw [if_pos h, if_pos (List.mem_cons_of_mem _ h)]
        · rw [if_neg h, if_neg fun z => (List.mem_cons.mp z).elim (fun y => hv y.symm) h]
      rw [e]
      cases q : g0[v]? with
      | none => exact backG_get hl vs i
      | some x =>
        show ((backG g0 g vs).set v x)[i]? = _
        rw [List.getElem?_set_ne hv]
        exact backG_get hl vs i
where
  backG_len {g0 g : List Slot} : ∀ vs : List Nat, (backG g0 g vs).length = g.length
    | [] => rfl
    | v :: vs => by
      unfold backG
      split
      · rw [List.length_set]; exact backG_len vs
      · exact backG_len vs
theorem StOk.back {g1 : Gh} {H1 : Hp} {s1 : Sta} (h1 : StOk K g1 σ H1 s1) (no : noOwn s1 vs = true) (hs : StOk K g (L2.wipe σ vs) H (s.wipe vs)) (x : Ext g1 (s1.wipe vs) H1 g (s.wipe vs) H) : StOk K g σ H (s.back s1 vs) ∧ Ext g1 s1 H1 g (s.back s1 vs) H := by
  have hl : s1.g.length = s.g.length := by
    have e1 := h1.len
    have e2 := hs.len
    rw [wipe_length] at e2
    have e3 : (s.wipe vs).g.length = s.g.length := wipeG_len s.g vs
    omega
  have non : ∀ i ∈ vs, ¬ isOwn (s1.g[i]?) := fun i hi w => by
    have q := List.all_eq_true.mp no i hi
    cases e : s1.g[i]? with
    | none => rw [e] at w; exact w
    | some y =>
      rw [e] at w q
      cases y with
      | own _ => cases q
      | dct _ => cases q
      | no => exact w
      | v _ => exact w
      | dr => exact w
      | drr => exact w
      | scr _ => exact w
  have gt : ∀ i, (s.back s1 vs).g[i]? = if i ∈ vs then s1.g[i]? else s.g[i]? := fun i => backG_get hl vs i
  have ob : ∀ {i : Nat}, isOwn ((s.back s1 vs).g[i]?) → isOwn ((s.wipe vs).g[i]?) := fun {i} w => by
    rw [gt] at w
    by_cases hi : i ∈ vs
    · rw [if_pos hi] at w
      exact absurd w (non i hi)
    · rw [if_neg hi] at w
      show isOwn ((wipeG s.g vs)[i]?)
      rw [wipeG_out hi]; exact w
  have wo : ∀ {a : Addr}, Ow g (s.back s1 vs) a → Ow g (s.wipe vs) a := fun {a} w => by
    rcases w with ⟨i, hi, e⟩ | w
    · exact .inl ⟨i, ob hi, e⟩
    · exact .inr w
  have w1 : ∀ {a : Addr}, Ow g1 s1 a → Ow g1 (s1.wipe vs) a := fun {a} w => by
    rcases w with ⟨i, hi, e⟩ | w
    · refine .inl ⟨i, ?_, e⟩
      show isOwn ((wipeG s1.g vs)[i]?)
      rw [wipeG_out fun z => non i z hi]; exact hi
    · exact .inr w
  refine ⟨⟨hs.same, ?_, fun i y e => ?_, fun i j hi hj e => hs.inj i j (ob hi) (ob hj) e, fun a w => hs.sep a (wo w), hs.dro, fun e i hi => hs.drw e i (ob hi), fun i hi => ?_⟩,
    ⟨x.mono, fun b o e w => x.keep b o e fun z => w (ow_wipe z), fun b e => (x.newG b e).imp id fun z => z.imp id ow_wipe, fun b w => (x.own b (wo w)).imp ow_wipe id, x.trk, x.dr⟩⟩
  · show σ.length = (backG s1.g s.g vs).length
    rw [backG_get.backG_len, h1.len, hl]
  · rw [gt] at e
    by_cases hi : i ∈ vs
    · rw [if_pos hi] at e
      have q := h1.slot i y e
      cases y with
      | no => trivial
      | v d =>
        obtain ⟨v, q1, q2⟩ := q
        exact ⟨v, q1, q2.mono x.mono⟩
      | own xs => exact absurd (show isOwn (s1.g[i]?) by rw [e]; trivial) (non i hi)
      | dct xs => exact absurd (show isOwn (s1.g[i]?) by rw [e]; trivial) (non i hi)
      | dr =>
        have := (x.dr (h1.drs i (by rw [e]; trivial))).2.1
        show _ = some (some (V.ref g.p))
        rw [this]; exact q
      | drr =>
        have := (x.dr (h1.drs i (by rw [e]; trivial))).2.2
        show _ = some (some (V.ref g.r))
        rw [this]; exact q
      | scr ns =>
        obtain ⟨a, q1, q2⟩ := q
        exact ⟨a, q1, x.mono.seq q2⟩
    · rw [if_neg hi] at e
      have q := hs.slot i y (by show (wipeG s.g vs)[i]? = some y; rw [wipeG_out hi]; exact e)
      rw [wipe_out hi] at q
      exact q
  · rw [gt] at hi
    by_cases h : i ∈ vs
    · rw [if_pos h] at hi
      exact (x.dr (h1.drs i hi)).1
    · rw [if_neg h] at hi
      exact hs.drs i (by show isDr ((wipeG s.g vs)[i]?); rw [wipeG_out h]; exact hi)
end

def Chg (T : Tg) (σ σ' : L2.St) : Prop := ∀ vs : List Nat, (∀ i ∈ T.nms, i ∈ vs) → wipe σ' vs = wipe σ vs
def tG (K : PySem.W.Frag) (T : Tg) : TG := fun v σ H Q => ∃ g s d s', StOk K g σ H s ∧ Den K g.G v d ∧ asgT T d s = some s' ∧ ∀ σ' g', StOk K g' σ' H s' → Ext g s H g' s' H → Chg T σ σ' → Q σ' H
def tGs (K : PySem.W.Frag) (T : Tg) : TGs := fun vs σ H Q => ∃ g s ds s', StOk K g σ H s ∧ Dens K g.G vs ds ∧ asgT T (.tuple ds) s = some s' ∧ ∀ σ' g', StOk K g' σ' H s' → Ext g s H g' s' H → Chg T σ σ' → Q σ' H
theorem pg_imp {tg : Expr} {t t' : TG} (h : PG X tg t) (k : ∀ v σ H Q, t' v σ H Q → t v σ H Q) : PG X tg t' := ⟨fun pins s σ H v u Q I r w => h.run pins s σ H v u Q I r (k v σ H Q w)⟩
theorem pgs_imp {tg : List Expr} {t t' : TGs} (h : PGs X tg t) (k : ∀ v σ H Q, t' v σ H Q → t v σ H Q) : PGs X tg t' := ⟨fun pins s σ H v u Q I r w => h.run pins s σ H v u Q I r (k v σ H Q w)⟩
theorem g_name {x : Str} {i : Nat} (hN : X.N.Nodup) (hi : X.N[i]? = some x) (hx : Loc X.env.scope x) (hf : X.fn x = true ∨ X.env.scope.names.lookup x = some .local) : PG X (.Name x pos) (tG X.K (.n i)) := pg_imp (pg_name hN hi hx hf) fun v σ H Q ⟨g, s, d, s', hs, dn, e, p⟩ => by
  cases e
  obtain ⟨g', h1, h2, _⟩ := hs.setR (v := v) (rv := .v d) (.refl _ _ _) dn i
  exact p _ g' h1 h2 fun vs h => wipe_set (h i (List.mem_singleton.mpr rfl))
theorem gs_nil : PGs X [] (tGs X.K .nil) := pgs_imp pgs_nil fun v σ H Q ⟨g, s, ds, s', hs, dn, e, p⟩ => by
  cases dn with
  | nil =>
    cases e
    exact ⟨rfl, p _ g hs (.refl _ _ _) fun _ _ => rfl⟩
  | cons _ _ => cases e
theorem gs_cons {t : Expr} {ts : List Expr} {a r : Tg} (h1 : PG X t (tG X.K a)) (h2 : PGs X ts (tGs X.K r)) (he : (assignEach (t :: ts) X.env).map (·.2) = assign t X.env :: (assignEach ts X.env).map (·.2)) : PGs X (t :: ts) (tGs X.K (.cons a r)) :=
  pgs_imp (pgs_cons h1 h2 he) fun vs σ H Q ⟨g, s, ds, s', hs, dn, e, p⟩ => by
    cases dn with
    | nil => cases e
    | cons d1 d2 =>
      simp only [asgT, Option.bind_eq_some_iff] at e
      obtain ⟨s1, e1, e2⟩ := e
      refine ⟨_, _, rfl, g, s, _, s1, hs, d1, e1, fun σ1 g1 hs1 x1 c1 => ⟨g1, s1, _, s', hs1, d2.mono x1.mono, e2, fun σ2 g2 hs2 x2 c2 => p σ2 g2 hs2 (x1.trans x2) fun vs hv => ?_⟩⟩
      rw [c2 vs fun i hi => hv i (List.mem_append_right _ hi), c1 vs fun i hi => hv i (List.mem_append_left _ hi)]
theorem asgT_len : ∀ {r : Tg} {ds : List D} {s s' : Sta} {n : Nat}, r.cnt = some n → asgT r (.tuple ds) s = some s' → ds.length = n
  | .n i, ds, s, s', n, h, _ => by cases h
  | .nil, [], s, s', n, h, _ => by cases h; rfl
  | .nil, _ :: _, s, s', n, h, e => by cases e
  | .cons a r, [], s, s', n, h, e => by cases e
  | .cons a r, d :: ds, s, s', n, h, e => by
    simp only [asgT, Option.bind_eq_some_iff] at e
    obtain ⟨s1, _, e2⟩ := e
    simp only [Tg.cnt, Option.map_eq_some_iff] at h
    obtain ⟨m, h1, rfl⟩ := h
    rw [List.length_cons, asgT_len h1 e2]
theorem g_tup {ts : List Expr} {T : Tg} {k n : Nat} (hc : X.calm = true) (h : PGs X ts (tGs X.K T)) (hT : T.cnt = some n) (hn : (assignEach ts X.env).length = n) (hst : (assignEach ts X.env).findIdx? (·.1) = none) : PG X (.Tuple ts k pos) (tG X.K T) :=
  pg_imp (pg_tup hc h hn hst) fun v σ H Q ⟨g, s, d, s', hs, dn, e, p⟩ => by
    have hd : ∃ xs, d = .tuple xs := by
      cases T with
      | n i => cases hT
      | nil =>
        cases d <;> first | exact ⟨_, rfl⟩ | (cases e; done)
      | cons a r =>
        cases d <;> first | exact ⟨_, rfl⟩ | (cases e; done)
    obtain ⟨xs, rfl⟩ := hd
    cases dn with
    | tup h1 h2 => exact ⟨_, _, rfl, same_tup hs.same h1, by rw [h2.len, asgT_len hT e], g, s, xs, s', hs, h2, e, p⟩

def tTs (K : PySem.W.Frag) (F : CallT) (io : IO) : TT := fun σ H Q => ∃ g s b s', StOk K g σ H s ∧ evT F io s = some (b, s') ∧ ∀ g' H', StOk K g' σ H' s' → Ext g s H g' s' H' → Q b H'
theorem pts_imp {es : List Expr} {t t' : TT} (h : PTs X es t) (k : ∀ σ H Q, t' σ H Q → t σ H Q) : PTs X es t' := ⟨fun pins s σ H Q I w => h.run pins s σ H Q I (k σ H Q w)⟩
theorem ts_nil : PTs X [] (tTs X.K F .no) := pts_imp pts_nil fun σ H Q ⟨g, s, b, s', hs, e, p⟩ => by
  cases e
  exact p g H hs (.refl _ _ _)
theorem ts_one {c : Expr} {ic : IE} (h : PT X c (tXT X F ic)) : PTs X [c] (tTs X.K F (.so ic)) := pts_imp (pts_one h) fun σ H Q ⟨g, s, b, s', hs, e, p⟩ => by
  simp only [evT, Option.bind_eq_some_iff, Option.map_eq_some_iff] at e
  obtain ⟨⟨r1, s1⟩, e1, k, e2, e3⟩ := e
  cases e3
  cases asB_eq e2
  exact ⟨g, s, b, s1, hs, e1, p⟩

def cstep (F : CallT) (ie : IE) (T : Tg) (io : IO) (vs : List Nat) : D → List D → Sta → Option (List D × Sta) := fun x acc s =>
  (asgT T x (s.wipe vs)).bind fun s2 => (evT F io s2).bind fun q => if q.1 then (evE F ie q.2).bind fun r => r.1.d.map fun d => (acc ++ [d], r.2) else some (acc, q.2)
theorem comp_core {ie : IE} {T : Tg} {it : II} {io : IO} {vs : List Nat} {K : PySem.W.Frag} (hT : ∀ i ∈ T.nms, i ∈ vs) {σ : L2.St} {H : Hp} {R : VK} {g : Gh} {s s' : Sta} {rv : Rv} (hs : StOk K g σ H s) (e : evE F (.comp ie T it io vs) s = some (rv, s')) (p : Post K σ g s H s' rv R) :
    tLc (tI K F it) (tG K T) (tTs K F io) (tE K F ie) vs σ H R := by
  simp only [evE, Option.bind_eq_some_iff] at e
  obtain ⟨⟨ds, s1⟩, e1, e2⟩ := e
  split at e2
  · rename_i hz
    obtain ⟨z1, no⟩ := (Bool.and_eq_true _ _).mp hz
    have z1 : ds.length ≤ LIM := of_decide_eq_true z1
    simp only [Option.map_eq_some_iff] at e2
    obtain ⟨⟨accF, sF⟩, e3, e4⟩ := e2
    cases e4
    have e3 : compLoop (cstep F ie T io vs) ds [] s1 = some (accF, sF) := e3
    refine ⟨g, s, ds, s1, hs, e1, fun J g1 H1 hs1 x1 itok D hD => ?_⟩
    have hG1 : g1.G D = none := hs1.same.free hD
    refine ⟨fun i m H' => i + m = ds.length ∧ ∃ acc si gi va, compLoop (cstep F ie T io vs) (ds.drop i) acc si = some (accF, sF) ∧ StOk K gi (wipe σ vs) H' (si.wipe vs) ∧ Ext g1 (s1.wipe vs) H1 gi (si.wipe vs) H' ∧ H' D = some (.lst va) ∧ Dens K gi.G va acc ∧ gi.G D = none ∧ ¬ Ow gi (si.wipe vs) D ∧ acc.length ≤ i, ⟨ds.length, by omega, [], s1, g1, [], e3, ?_, ?_, upd_same, .nil, hG1, ?_, Nat.le_refl _⟩, fun i m H' hW => ?_⟩
    · exact (hs1.wipe vs).poke hG1 fun w => hs1.there (ow_wipe w) hD
    · exact (Ext.refl _ _ _).poke hD
    · exact fun w => hs1.there (ow_wipe w) hD
    · obtain ⟨hm, acc, si, gi, va, el, hsi, xi, hD', hva, hG, hO, hal⟩ := hW
      by_cases hi : i < ds.length
      · right
        have sG : Same g1.G H' := xi.mono.trans hsi.same
        rw [List.drop_eq_getElem_cons hi] at el
        unfold compLoop at el
        rw [Option.bind_eq_some_iff] at el
        obtain ⟨⟨acc', si'⟩, el1, el⟩ := el
        simp only [cstep, Option.bind_eq_some_iff] at el1
        obtain ⟨s2, a1, ⟨b, s3⟩, a2, a3⟩ := el1
        refine ⟨itok.go i H' sG hi, fun H'' => ∃ acc si gi va, compLoop (cstep F ie T io vs) (ds.drop (i + 1)) acc si = some (accF, sF) ∧ StOk K gi (wipe σ vs) H'' (si.wipe vs) ∧ Ext g1 (s1.wipe vs) H1 gi (si.wipe vs) H'' ∧ H'' D = some (.lst va) ∧ Dens K gi.G va acc ∧ gi.G D = none ∧ ¬ Ow gi (si.wipe vs) D ∧ acc.length ≤ i + 1,
          fun H'' hN => ?_, fun x H2 hy => ?_⟩
        · obtain ⟨w1, w2, w3, w4, w5⟩ := hN
          exact ⟨m - 1, by omega, by omega, w1, w2, w3, w4, w5⟩
        · obtain ⟨G', pu, dn⟩ := itok.yl i H' H2 gi.G x ds[i] xi.mono hsi.same (List.getElem?_eq_getElem hi) hy
          have hs2 := hsi.pure pu
          have x2 : Ext g1 (s1.wipe vs) H1 (gi.wG G') (si.wipe vs) H2 := xi.trans pu.ext
          have G2 : (gi.wG G').G D = none := by
            cases q : G' D with
            | none => exact q
            | some o =>
              rcases pu.n D (by rw [q]; simp) with z | z
              · exact absurd hG z
              · rw [hD'] at z; cases z
          refine ⟨gi.wG G', si.wipe vs, ds[i], s2, hs2, dn, a1, fun σ' g3 hs3 x3 c3 => ⟨?_, g3, s2, b, s3, hs3, a2, fun g4 H4 hs4 x4 => ?_⟩⟩
          · rw [c3 vs hT, wipe_wipe]
          · have ec : wipe σ' vs = wipe σ vs := by rw [c3 vs hT, wipe_wipe]
            have x34 := x3.trans x4
            have D2 : H2 D = some (.lst va) := pu.h _ _ hD'
            have O2 : ¬ Ow (gi.wG G') (si.wipe vs) D := hO
            -- D through the turn
            have keepD : ∀ {g5 : Gh} {s5 : Sta} {H5 : Hp}, Ext (gi.wG G') (si.wipe vs) H2 g5 s5 H5 → H5 D = some (.lst va) ∧ g5.G D = none ∧ ¬ Ow g5 s5 D := fun {g5 s5 H5} x => by
              refine ⟨x.keep _ _ D2 O2, ?_, fun w => ?_⟩
              · cases q : g5.G D with
                | none => rfl
                | some o =>
                  rcases x.newG D (by rw [q]; simp) with z | z | z
                  · exact absurd G2 z
                  · rw [D2] at z; cases z
                  · exact absurd z O2
              · rcases x.own D w with z | z
                · exact O2 z
                · rw [D2] at z; cases z
            cases b with
            | false =>
              simp only [Bool.false_eq_true, if_false] at a3 ⊢
              cases a3
              obtain ⟨k1, k2, k3⟩ := keepD x34
              have h5 := hs4.wipe vs
              rw [ec] at h5
              exact ⟨_, _, g4, va, el, h5, (x2.trans x34).wipe vs, k1, (hva.mono pu.m).mono x34.mono, k2, fun w => k3 (ow_wipe w), by show acc.length ≤ i + 1; omega⟩
            | true =>
              simp only [if_true, Option.bind_eq_some_iff, Option.map_eq_some_iff] at a3 ⊢
              obtain ⟨⟨r5, s5⟩, b1, d5, b2, b3⟩ := a3
              cases b3
              refine ⟨g4, s3, r5, s5, hs4, b1, fun v g5 H5 hs5 x5 r5' => ?_⟩
              obtain ⟨g6, hs6, x6, dn6, _⟩ := freezeD hs5 x5 r5' b2
              have x36 := x34.trans x6
              obtain ⟨k1, k2, k3⟩ := keepD x36
              have hla : va.length = acc.length := hva.len
              refine ⟨va, k1, ?_, acc ++ [d5], s5, g6, va ++ [v], el, ?_, ?_, upd_same, (((hva.mono pu.m).mono x36.mono).app (.cons dn6 .nil)), k2, fun w => k3 (ow_wipe w), ?_⟩
              · rw [hla]
                have : LIM < sizeLine := by decide
                omega
              · have h5 := (hs6.wipe vs).poke (a := D) (o := .lst (va ++ [v])) k2 fun w => k3 (ow_wipe w)
                rw [ec] at h5
                exact h5
              · exact ((x2.trans x36).wipe vs).poke hD
              · rw [List.length_append, List.length_singleton]; omega
      · left
        have ei : i = ds.length := by omega
        subst ei
        rw [List.drop_length] at el
        cases el
        refine ⟨itok.stop H' (xi.mono.trans hsi.same), ?_⟩
        obtain ⟨b1, b2⟩ := StOk.back hs1 no hsi xi
        refine p (.ref D) gi H' b1 (x1.trans b2) ⟨D, va, rfl, hD', hva, hG, fun w => ?_, x1.trk D hD⟩
        rcases b2.own D w with z | z
        · exact hs1.there z hD
        · rcases w with ⟨j, hj, ej⟩ | w
          · refine hO (.inl ⟨j, ?_, ej⟩)
            have gt : (sF.back s1 vs).g[j]? = if j ∈ vs then s1.g[j]? else sF.g[j]? := backG_get (by
              have e1 := hs1.len
              have e2 := hsi.len
              rw [wipe_length] at e2
              have e3 : (sF.wipe vs).g.length = sF.g.length := wipeG_len sF.g vs
              omega) vs j
            rw [gt] at hj
            by_cases hv : j ∈ vs
            · rw [if_pos hv] at hj
              have q := List.all_eq_true.mp no j hv
              cases ee : s1.g[j]? with
              | none => rw [ee] at hj; exact hj.elim
              | some y =>
                rw [ee] at hj q
                cases y with
                | own _ => cases q
                | dct _ => cases q
                | no => exact hj.elim
                | v _ => exact hj.elim
                | dr => exact hj.elim
                | drr => exact hj.elim
                | scr _ => exact hj.elim
            · rw [if_neg hv] at hj
              show isOwn ((wipeG sF.g vs)[j]?)
              rw [wipeG_out hv]; exact hj
          · exact hO (.inr w)
  · cases e2
theorem e_comp {ie : IE} {T : Tg} {it : II} {io : IO} {elt tg iter : Expr} {ifs : List Expr} {scope : Scope} {own : List (Str × Nat)} (hc : X.calm = true) (hN : X.N.Nodup) (hi : PI X tg iter (tI X.K F it)) (ok : BlkOk X.N X.env.scope scope own) (hT : ∀ i ∈ T.nms, i ∈ own.map (·.2))
    (hg : ∀ (s : Shared) (H : Hp) (C : Addr) (cl : List (Str × Addr)) (fp : List Addr), PG (X.blk s H scope (compEnvC scope cl C X.env) fp) tg (tG X.K T)) (ht : ∀ (s : Shared) (H : Hp) (C : Addr) (cl : List (Str × Addr)) (fp : List Addr), PTs (X.blk s H scope (compEnvC scope cl C X.env) fp) ifs (tTs X.K F io))
    (he : ∀ (s : Shared) (H : Hp) (C : Addr) (cl : List (Str × Addr)) (fp : List Addr), PE (X.blk s H scope (compEnvC scope cl C X.env) fp) elt (tE X.K F ie)) (hf : ∀ x, foldedSetIterable iter X.env x = pure x) :
    PE X (.ListComp elt [⟨tg, iter, ifs, 0⟩] scope pos) (tX X F (.comp ie T it io (own.map (·.2)))) := pe_imp (pe_lc hc hN hi ok hg ht he hf) fun σ H Q ⟨g, s, rv, s', hs, e, p⟩ => comp_core hT hs e p
end Tl

namespace Tl
open PySem L2
variable {X : Cx} {F : CallT} {fu : Nat} {pos : Pos}

def OutP (K : PySem.W.Frag) (g : Gh) (s : Sta) (H : Hp) (o : Out) (E : Ends) : Prop := match o with
  | .nx s' => ∀ σ' g' H', StOk K g' σ' H' s' → Ext g s H g' s' H' → E.nx σ' H'
  | .bk s' => ∀ σ' g' H', StOk K g' σ' H' s' → Ext g s H g' s' H' → E.bk σ' H'
  | .rt r s' => ∀ v σ' g' H', StOk K g' σ' H' s' → Ext g s H g' s' H' → RvOk K g' s' H' H v r → E.rt v H'
def tS (K : PySem.W.Frag) (F : CallT) (fu : Nat) (st : IS) : TS := fun E σ H => ∃ g s o, StOk K g σ H s ∧ evS F fu st s = some o ∧ OutP K g s H o E
def tSs (K : PySem.W.Frag) (F : CallT) (fu : Nat) (sts : ISs) : TS := fun E σ H => ∃ g s o, StOk K g σ H s ∧ evSs F fu sts s = some o ∧ OutP K g s H o E
theorem ps_imp {st : Stmt} {t t' : TS} (h : PS X st t) (k : ∀ E σ H, t' E σ H → t E σ H) : PS X st t' := ⟨fun pins s σ H E I w => h.run pins s σ H E I (k E σ H w)⟩
theorem pss_imp {st : List Stmt} {t t' : TS} (h : PSs X st t) (k : ∀ E σ H, t' E σ H → t E σ H) : PSs X st t' := ⟨fun pins s σ H E I w => h.run pins s σ H E I (k E σ H w)⟩
theorem ps_orr {st : Stmt} {t t' : TS} (h : PS X st t) (h' : PS X st t') : PS X st (fun E σ H => t E σ H ∨ t' E σ H) := ⟨fun pins s σ H E I w => w.elim (h.run pins s σ H E I) (h'.run pins s σ H E I)⟩
theorem OutP.from {K : PySem.W.Frag} {g g1 : Gh} {s s1 : Sta} {H H1 : Hp} {o : Out} {E : Ends} (p : OutP K g s H o E) (x : Ext g s H g1 s1 H1) : OutP K g1 s1 H1 o E := by
  cases o with
  | nx s' => exact fun σ' g' H' hs x' => p σ' g' H' hs (x.trans x')
  | bk s' => exact fun σ' g' H' hs x' => p σ' g' H' hs (x.trans x')
  | rt r s' => exact fun v σ' g' H' hs x' q => p v σ' g' H' hs (x.trans x') (q.back x.trk)

theorem ss_nil : PSs X [] (tSs X.K F fu .nil) := pss_imp pss_nil fun E σ H ⟨g, s, o, hs, e, p⟩ => by
  cases e
  exact p σ g H hs (.refl _ _ _)
theorem ss_cons {st : Stmt} {sts : List Stmt} {a : IS} {r : ISs} (h1 : PS X st (tS X.K F fu a)) (h2 : PSs X sts (tSs X.K F fu r)) : PSs X (st :: sts) (tSs X.K F fu (.cons a r)) := pss_imp (pss_cons h1 h2) fun E σ H ⟨g, s, o, hs, e, p⟩ => by
  simp only [evSs, Option.bind_eq_some_iff] at e
  obtain ⟨o1, e1, e2⟩ := e
  refine ⟨g, s, o1, hs, e1, ?_⟩
  cases o1 with
  | nx s1 => exact fun σ1 g1 H1 hs1 x1 => ⟨g1, s1, o, hs1, e2, p.from x1⟩
  | bk s1 =>
    cases e2
    exact p
  | rt r1 s1 =>
    cases e2
    exact p

structure Sn (X : Cx) (x : Str) (i : Nat) : Prop where
  nd : X.N.Nodup
  at_ : X.N[i]? = some x
  loc : Loc X.env.scope x
  fn : X.fn x = true ∨ X.env.scope.names.lookup x = some .local
theorem s_set {x : Str} {i : Nat} {e : Expr} {ie : IE} {px : Pos} (h : Sn X x i) (he : PE X e (tX X F ie)) (hs : swapsWith e (some (.Name x px)) pos.line X.env = pure false) : PS X (.Assign [.Name x px] e pos) (tS X.K F fu (.set i ie)) :=
  ps_imp (ps_set h.nd h.at_ h.loc he hs h.fn) fun E σ H ⟨g, s, o, hs, e, p⟩ => by
    simp only [evS, Option.map_eq_some_iff] at e
    obtain ⟨q, e1, e2⟩ := e
    cases e2
    refine seq1 hs e1 fun v g1 H1 hs1 x1 r1 => ?_
    obtain ⟨g2, h1, h2, _⟩ := hs1.setR x1 r1 i
    exact p _ g2 H1 h1 h2
theorem s_setLc {ie : IE} {T : Tg} {it : II} {io : IO} {i : Nat} {y : Str} {py spos : Pos} {elt tg iter : Expr} {ifs : List Expr} {scope : Scope} {own : List (Str × Nat)} (h : Sn X y i) (hyl : X.env.scope.names.lookup y = some .local) (hc : X.calm = true)
    (hsw : swapsWith (.ListComp elt [⟨tg, iter, ifs, 0⟩] scope pos) (some (.Name y py)) spos.line X.env = pure true) (hi : PI X tg iter (tI X.K F it)) (ok : BlkOk X.N X.env.scope scope own) (hT : ∀ i ∈ T.nms, i ∈ own.map (·.2))
    (hg : ∀ (s : Shared) (H : Hp) (C : Addr) (cl : List (Str × Addr)) (fp : List Addr), PG (X.blk s H scope (compEnvC scope cl C X.env) fp) tg (tG X.K T)) (ht : ∀ (s : Shared) (H : Hp) (C : Addr) (cl : List (Str × Addr)) (fp : List Addr), PTs (X.blk s H scope (compEnvC scope cl C X.env) fp) ifs (tTs X.K F io))
    (he : ∀ (s : Shared) (H : Hp) (C : Addr) (cl : List (Str × Addr)) (fp : List Addr), PE (X.blk s H scope (compEnvC scope cl C X.env) fp) elt (tE X.K F ie)) (hf : ∀ x, foldedSetIterable iter X.env x = pure x) :
    PS X (.Assign [.Name y py] (.ListComp elt [⟨tg, iter, ifs, 0⟩] scope pos) spos) (tS X.K F fu (.set i (.comp ie T it io (own.map (·.2))))) :=
  ps_imp (ps_setLc hc h.nd h.at_ hyl hsw hi ok hg ht he hf) fun E σ H ⟨g, s, o, hs, e, p⟩ => by
    simp only [evS, Option.map_eq_some_iff] at e
    obtain ⟨⟨rv, s1⟩, e1, e2⟩ := e
    cases e2
    refine comp_core hT hs e1 fun v g1 H1 hs1 x1 r1 => ?_
    obtain ⟨g2, h1, h2, _⟩ := hs1.setR x1 r1 i
    exact p _ g2 H1 h1 h2
theorem s_drop {e : Expr} {ie : IE} (he : PE X e (tX X F ie)) (hs : swapsWith e none pos.line X.env = pure false) : PS X (.Expr e pos) (tS X.K F fu (.drop ie)) := ps_imp (ps_expr he hs) fun E σ H ⟨g, s, o, hs, e, p⟩ => by
  simp only [evS, Option.map_eq_some_iff] at e
  obtain ⟨q, e1, e2⟩ := e
  cases e2
  exact seq1 hs e1 fun v g1 H1 hs1 x1 r1 => p _ g1 H1 hs1 x1
theorem s_ret {e : Expr} {ie : IE} (he : PE X e (tX X F ie)) : PS X (.Return (some e) pos) (tS X.K F fu (.ret ie)) := ps_imp (ps_ret he) fun E σ H ⟨g, s, o, hs, e, p⟩ => by
  simp only [evS, retArg, Option.bind_eq_some_iff, Option.map_eq_some_iff] at e
  obtain ⟨q, e1, r, e2, e3⟩ := e
  cases e3
  refine seq1 hs e1 fun v g1 H1 hs1 x1 r1 => ?_
  obtain ⟨g2, h1, h2, h3, _⟩ := freeze hs1 x1 r1 e2
  exact p v σ g2 H1 h1 h2 h3
theorem s_retN : PS X (.Return none pos) (tS X.K F fu .retN) := ps_imp ps_retN fun E σ H ⟨g, s, o, hs, e, p⟩ => by
  cases e
  exact p .non σ g H hs (.refl _ _ _) Den.non
theorem s_brk : PS X (.Break pos) (tS X.K F fu .brk) := ps_imp ps_break fun E σ H ⟨g, s, o, hs, e, p⟩ => by
  cases e
  exact p σ g H hs (.refl _ _ _)
theorem s_pass : PS X (.Pass pos) (tS X.K F fu .pass) := ps_imp ps_pass fun E σ H ⟨g, s, o, hs, e, p⟩ => by
  cases e
  exact p σ g H hs (.refl _ _ _)
theorem s_if {c : Expr} {a b : List Stmt} {ic : IE} {ia ib : ISs} (hc : PT X c (tXT X F ic)) (ha : PSs X a (tSs X.K F fu ia)) (hb : PSs X b (tSs X.K F fu ib)) : PS X (.If c a b pos) (tS X.K F fu (.if_ ic ia ib)) := ps_imp (ps_if hc ha hb) fun E σ H ⟨g, s, o, hs, e, p⟩ => by
  simp only [evS, Option.bind_eq_some_iff] at e
  obtain ⟨⟨r1, s1⟩, e1, k, e2, e3⟩ := e
  cases asB_eq e2
  refine ⟨g, s, k, s1, hs, e1, fun g1 H1 hs1 x1 => ?_⟩
  cases k with
  | true => exact ⟨g1, s1, o, hs1, e3, p.from x1⟩
  | false => exact ⟨g1, s1, o, hs1, e3, p.from x1⟩

theorem s_for {tg iter : Expr} {body : List Stmt} {T : Tg} {it : II} {ib : ISs} (hx : X.xe = fun _ _ => False) (hc : X.calm = true) (hi : PI X tg iter (tI X.K F it)) (hg : PG X tg (tG X.K T)) (hb : PSs X body (tSs X.K F fu ib)) (hf : ∀ x, foldedSetIterable iter X.env x = pure x) :
    PS X (.For tg iter body [] pos) (tS X.K F fu (.for_ T it ib)) := ps_imp (ps_for (by rw [hx]; exact PassesOwn.never) hc hi hg hb hf) fun E σ H ⟨g, s, o, hs, e, p⟩ => by
  simp only [evS, Option.bind_eq_some_iff] at e
  obtain ⟨⟨ds, s1⟩, e1, e2⟩ := e
  refine ⟨g, s, ds, s1, hs, e1, fun J g1 H1 hs1 x1 itok => ?_⟩
  refine ⟨fun i m σ' H' => i + m = ds.length ∧ ∃ gi si, StOk X.K gi σ' H' si ∧ Ext g1 s1 H1 gi si H' ∧ forLoop (fun x s => (asgT T x s).bind fun s' => evSs F fu ib s') (ds.drop i) si = some o, ⟨ds.length, by omega, g1, s1, hs1, .refl _ _ _, e2⟩, fun i m σ' H' hW => ?_⟩
  obtain ⟨hm, gi, si, hsi, xi, el⟩ := hW
  have sG : Same g1.G H' := xi.mono.trans hsi.same
  by_cases hl : i < ds.length
  · right
    rw [List.drop_eq_getElem_cons hl] at el
    unfold forLoop at el
    simp only [Option.bind_eq_some_iff] at el
    obtain ⟨o1, ⟨s2, a1, a2⟩, el⟩ := el
    refine ⟨itok.go i H' sG hl, fun σ' H' => ∃ gi si, StOk X.K gi σ' H' si ∧ Ext g1 s1 H1 gi si H' ∧ forLoop (fun x s => (asgT T x s).bind fun s' => evSs F fu ib s') (ds.drop (i + 1)) si = some o, fun σ' H' ⟨w1, w2, w3⟩ => ⟨m - 1, by omega, by omega, w1, w2, w3⟩, fun x H2 hy => ?_⟩
    obtain ⟨G', pu, dn⟩ := itok.yl i H' H2 gi.G x ds[i] xi.mono hsi.same (List.getElem?_eq_getElem hl) hy
    have x2 : Ext g1 s1 H1 (gi.wG G') si H2 := xi.trans pu.ext
    refine ⟨gi.wG G', si, ds[i], s2, hsi.pure pu, dn, a1, fun σ3 g3 hs3 x3 _ => ⟨g3, s2, o1, hs3, a2, ?_⟩⟩
    have x23 := x2.trans x3
    cases o1 with
    | nx s4 => exact fun σ4 g4 H4 hs4 x4 => ⟨g4, s4, hs4, x23.trans x4, el⟩
    | bk s4 =>
      cases el
      exact fun σ4 g4 H4 hs4 x4 => p σ4 g4 H4 hs4 (x1.trans (x23.trans x4))
    | rt r4 s4 =>
      cases el
      exact fun v σ4 g4 H4 hs4 x4 q => p v σ4 g4 H4 hs4 (x1.trans (x23.trans x4)) (q.back fun b hb => x1.trk b (x23.trk b hb))
  · left
    have ei : i = ds.length := by omega
    subst ei
    rw [List.drop_length] at el
    cases el
    exact ⟨itok.stop H' sG, p σ' gi H' hsi (x1.trans xi)⟩
theorem s_while {c : Expr} {body : List Stmt} {ic : IE} {ib : ISs} (hx : X.xe = fun _ _ => False) (hc : PT X c (tXT X F ic)) (hb : PSs X body (tSs X.K F fu ib)) : PS X (.While c body [] pos) (tS X.K F fu (.while_ ic ib)) :=
  ps_imp (ps_while (by rw [hx]; exact PassesOwn.never) hc hb) fun E σ H ⟨g, s, o, hs, e, p⟩ => by
    have e : whileLoop (fun s => (evE F ic s).bind fun p => (asB p.1).map (·, p.2)) (fun s => evSs F fu ib s) fu s = some o := e
    refine ⟨fun m σ' H' => ∃ gi si, StOk X.K gi σ' H' si ∧ Ext g s H gi si H' ∧ whileLoop (fun s => (evE F ic s).bind fun p => (asB p.1).map (·, p.2)) (fun s => evSs F fu ib s) m si = some o, ⟨fu, g, s, hs, .refl _ _ _, e⟩, fun m σ' H' hW => ?_⟩
    obtain ⟨gi, si, hsi, xi, el⟩ := hW
    cases m with
    | zero => cases el
    | succ m =>
      unfold whileLoop at el
      simp only [Option.bind_eq_some_iff, Option.map_eq_some_iff] at el
      obtain ⟨q, ⟨⟨r1, s1⟩, a1, k, a2, a3⟩, el⟩ := el
      subst a3
      cases asB_eq a2
      refine ⟨gi, si, k, s1, hsi, a1, fun g1 H1 hs1 x1 => ?_⟩
      have xi1 := xi.trans x1
      cases k with
      | true =>
        simp only [if_true, Option.bind_eq_some_iff] at el ⊢
        obtain ⟨o1, b1, el⟩ := el
        refine ⟨fun σ' H' => ∃ gi si, StOk X.K gi σ' H' si ∧ Ext g s H gi si H' ∧ whileLoop (fun s => (evE F ic s).bind fun p => (asB p.1).map (·, p.2)) (fun s => evSs F fu ib s) m si = some o, fun σ2 H2 w => ⟨m, Nat.lt_succ_self m, w⟩, g1, s1, o1, hs1, b1, ?_⟩
        cases o1 with
        | nx s4 => exact fun σ4 g4 H4 hs4 x4 => ⟨g4, s4, hs4, xi1.trans x4, el⟩
        | bk s4 =>
          cases el
          exact fun σ4 g4 H4 hs4 x4 => p σ4 g4 H4 hs4 (xi1.trans x4)
        | rt r4 s4 =>
          cases el
          exact fun v σ4 g4 H4 hs4 x4 q => p v σ4 g4 H4 hs4 (xi1.trans x4) (q.back xi1.trk)
      | false =>
        simp only [Bool.false_eq_true, if_false] at el ⊢
        cases el
        exact p σ' g1 H1 hs1 xi1

theorem pg_orr {tg : Expr} {t t' : TG} (h : PG X tg t) (h' : PG X tg t') : PG X tg (fun v σ H Q => t v σ H Q ∨ t' v σ H Q) := ⟨fun pins s σ H v u Q I r w => w.elim (h.run pins s σ H v u Q I r) (h'.run pins s σ H v u Q I r)⟩
theorem s_unp {ts : List Expr} {e : Expr} {ie : IE} {T : Tg} {k n : Nat} {tpos : Pos} (he : PE X e (tX X F ie)) (hc : X.calm = true) (h : PGs X ts (tGs X.K T)) (hT : T.cnt = some n) (hn : (assignEach ts X.env).length = n) (hst : (assignEach ts X.env).findIdx? (·.1) = none)
    (hs : swapsWithSole [.Tuple ts k tpos] e pos.line X.env = pure false) (hw : swappedStores [.Tuple ts k tpos] e X.env = pure none) (h1 : (assignEach [.Tuple ts k tpos] X.env).map (·.2) = [assign (.Tuple ts k tpos) X.env]) :
    PS X (.Assign [.Tuple ts k tpos] e pos) (tS X.K F fu (.unp T ie)) := ps_imp (ps_asg he (pg_orr (pg_tup hc h hn hst) (pg_unl hc h hn hst)) hs hw h1) fun E σ H ⟨g, s, o, hs, e, p⟩ => by
  simp only [evS, Option.bind_eq_some_iff, Option.map_eq_some_iff] at e
  obtain ⟨q, e1, d, e2, s2, e3, e4⟩ := e
  cases e4
  refine seq1 hs e1 fun v g1 H1 hs1 x1 r1 => ?_
  obtain ⟨g2, hs2, x2, dn, _⟩ := freezeD hs1 x1 r1 e2
  have hd : ∃ xs, unpD d = .tuple xs := by
    cases T with
    | n i => cases hT
    | nil => cases d <;> first | exact ⟨_, rfl⟩ | (cases e3; done)
    | cons a r => cases d <;> first | exact ⟨_, rfl⟩ | (cases e3; done)
  cases dn with
  | tup k1 k2 => exact .inl ⟨_, _, rfl, same_tup hs2.same k1, by rw [k2.len, asgT_len hT e3], g2, _, _, s2, hs2, k2, e3, fun σ' g' hs' x' _ => p σ' g' H1 hs' (x2.trans x')⟩
  | lst k1 k2 => exact .inr ⟨_, _, rfl, .inl (.inl (hs2.same _ _ k1)), by rw [k2.len, asgT_len hT e3], g2, _, _, s2, hs2, k2, e3, fun σ' g' hs' x' _ => p σ' g' H1 hs' (x2.trans x')⟩
  | non => obtain ⟨_, z⟩ := hd; cases z
  | bl _ => obtain ⟨_, z⟩ := hd; cases z
  | int _ => obtain ⟨_, z⟩ := hd; cases z
  | str _ => obtain ⟨_, z⟩ := hd; cases z

inductive RvsOk (K : PySem.W.Frag) (g : Gh) (s : Sta) (H H0 : Hp) : List V → List Rv → Prop
  | nil : RvsOk K g s H H0 [] []
  | cons {v : V} {vs : List V} {r : Rv} {rs : List Rv} : RvOk K g s H H0 v r → (r.isF = true → ∀ (i : Nat) (r' : Rv), vs[i]? = some v → rs[i]? = some r' → r'.isF = false) → RvsOk K g s H H0 vs rs → RvsOk K g s H H0 (v :: vs) (r :: rs)
theorem RvsOk.back {K : PySem.W.Frag} {g : Gh} {s : Sta} {H H0 H1 : Hp} (k : ∀ b, H1 b = none → H0 b = none) : ∀ {vs : List V} {rs : List Rv}, RvsOk K g s H H1 vs rs → RvsOk K g s H H0 vs rs
  | _, _, .nil => .nil
  | _, _, .cons h d r => .cons (h.back k) d (RvsOk.back k r)
theorem RvsOk.get {K : PySem.W.Frag} {g : Gh} {s : Sta} {H H0 : Hp} : ∀ {vs : List V} {rs : List Rv} {i : Nat} {v : V} {r : Rv}, RvsOk K g s H H0 vs rs → vs[i]? = some v → rs[i]? = some r → RvOk K g s H H0 v r
  | _, _, i, _, _, .nil, h, _ => by simp at h
  | _, _, 0, _, _, .cons a _ _, h, k => by
    simp only [List.getElem?_cons_zero, Option.some.injEq] at h k
    subst h k
    exact a
  | _, _, i + 1, _, _, .cons _ _ b, h, k => by
    simp only [List.getElem?_cons_succ] at h k
    exact RvsOk.get b h k
theorem RvsOk.len {K : PySem.W.Frag} {g : Gh} {s : Sta} {H H0 : Hp} : ∀ {vs : List V} {rs : List Rv}, RvsOk K g s H H0 vs rs → vs.length = rs.length
  | _, _, .nil => rfl
  | _, _, .cons _ _ r => congrArg (· + 1) (RvsOk.len r)
theorem isF_addr {K : PySem.W.Frag} {g : Gh} {s : Sta} {H H0 : Hp} {v : V} {r : Rv} (h : RvOk K g s H H0 v r) (f : r.isF = true) : ∃ a o, v = .ref a ∧ H a = some o ∧ g.G a = none ∧ ¬ Ow g s a ∧ H0 a = none := by
  cases r with
  | f xs =>
    obtain ⟨a, vs, e, h1, _, h3, h4, h5⟩ := h
    exact ⟨a, _, e, h1, h3, h4, h5⟩
  | fd xs =>
    obtain ⟨a, vs, e, h1, _, h3, h4, h5⟩ := h
    exact ⟨a, _, e, h1, h3, h4, h5⟩
  | v _ => cases f
  | dr => cases f
  | scr _ => cases f
def tPs (K : PySem.W.Frag) (F : CallT) (irs : IEs) : TA := fun σ H Q => ∃ g s rvs s', StOk K g σ H s ∧ evPs F irs s = some (rvs, s') ∧ ∀ vs g' H', StOk K g' σ H' s' → Ext g s H g' s' H' → RvsOk K g' s' H' H vs rvs → Q vs H'
theorem p_nil : PA X [] (tPs X.K F .nil) := pa_imp pa_nil fun σ H Q ⟨g, s, rvs, s', hs, e, p⟩ => by
  cases e
  exact p [] g H hs (.refl _ _ _) .nil
theorem p_cons {e : Expr} {es : List Expr} {ie : IE} {ies : IEs} (he : PE X e (tX X F ie)) (hr : PA X es (tPs X.K F ies)) (hn : starEach (e :: es) X.env = (false, eval e X.env) :: starEach es X.env) : PA X (e :: es) (tPs X.K F (.cons ie ies)) :=
  pa_imp (pa_cons he hr hn) fun σ H Q ⟨g, s, rvs, s', hs, e, p⟩ => by
    simp only [evPs, Option.bind_eq_some_iff, Option.map_eq_some_iff] at e
    obtain ⟨q1, e1, q2, e3, e4⟩ := e
    cases e4
    refine seq1 hs e1 fun v g1 H1 hs1 x1 r1 => ⟨g1, q1.2, q2.1, q2.2, hs1, e3, fun vs g2 H2 hs2 x2 r2 => p (v :: vs) g2 H2 hs2 (x1.trans x2) (.cons (r1.ext x2) (fun hf i r' hv hr' => ?_) (r2.back x1.trk))⟩
    cases hq : r'.isF with
    | false => rfl
    | true =>
      obtain ⟨a, o, rfl, h1, _⟩ := isF_addr r1 hf
      obtain ⟨b, _, eb, _, _, _, h2⟩ := isF_addr (r2.get hv hr') hq
      cases eb
      rw [h1] at h2
      cases h2
theorem RvsOk.move {K : PySem.W.Frag} {H H0 : Hp} {g g1 : Gh} {s s1 : Sta} (eG : g1.G = g.G) (ep : g1.p = g.p) (es : s1.s = s.s) : ∀ {vs : List V} {rs : List Rv}, RvsOk K g s H H0 vs rs → (∀ (j : Nat) (c : Addr) (r' : Rv), vs[j]? = some (.ref c) → rs[j]? = some r' → r'.isF = true → ¬ Ow g1 s1 c) → RvsOk K g1 s1 H H0 vs rs
  | _, _, .nil, _ => .nil
  | _, _, .cons (v := v) (r := r) a d b, hk => by
    refine .cons ?_ d (RvsOk.move eG ep es b fun j c r' h1 h2 => hk (j + 1) c r' (by simpa using h1) (by simpa using h2))
    cases r with
    | v x => show Den K g1.G _ x; rw [eG]; exact a
    | f xs =>
      obtain ⟨c, ws, rfl, h1, h2, h3, h4, h5⟩ := a
      exact ⟨c, ws, rfl, h1, by rw [eG]; exact h2, by rw [eG]; exact h3, hk 0 c _ rfl rfl rfl, h5⟩
    | fd xs =>
      obtain ⟨c, ws, rfl, h1, h2, h3, h4, h5⟩ := a
      exact ⟨c, ws, rfl, h1, by rw [eG]; exact h2, by rw [eG]; exact h3, hk 0 c _ rfl rfl rfl, h5⟩
    | dr => exact ⟨by rw [es]; exact a.1, by rw [ep]; exact a.2⟩
    | scr ns =>
      obtain ⟨c, h1, h2⟩ := a
      exact ⟨c, h1, by rw [eG]; exact h2⟩
def setVs : List Nat → List V → L2.St → L2.St
  | i :: is, v :: vs, σ => setVs is vs (σ.set i (some v))
  | _, _, σ => σ
theorem setAll_ok {K : PySem.W.Frag} {H H0 : Hp} {g0 : Gh} {s0 : Sta} : ∀ {is : List Nat} {vs : List V} {rs : List Rv} {g : Gh} {σ : L2.St} {s s' : Sta}, StOk K g σ H s → Ext g0 s0 H0 g s H → RvsOk K g s H H0 vs rs → setAll is rs s = some s' →
    ∃ g', StOk K g' (setVs is vs σ) H s' ∧ Ext g0 s0 H0 g' s' H
  | [], _, _, g, σ, s, s', hs, x, .nil, e => by
    cases e
    exact ⟨g, hs, x⟩
  | [], _, _, g, σ, s, s', hs, x, .cons _ _ _, e => by cases e
  | i :: is, _, _, g, σ, s, s', hs, x, .nil, e => by cases e
  | i :: is, _, _, g, σ, s, s', hs, x, .cons (v := v) (vs := vs) (r := r) (rs := rs) a d b, e => by
    obtain ⟨g1, h1, h2, eG, ep, er, ho⟩ := hs.setR x a i
    have e : setAll is rs (s.set i r.slot) = some s' := e
    have b1 : RvsOk K g1 (s.set i r.slot) H H0 vs rs := RvsOk.move (s := s) (s1 := s.set i r.slot) eG ep rfl b fun j c r' hw hr hf w => by
      obtain ⟨c', o, ec, k1, k2, k3, k4⟩ := isF_addr (b.get hw hr) hf
      cases ec
      rcases ho c w with z | ⟨z, zf⟩
      · exact k3 z
      · have q := d zf j r' (by rw [z]; exact hw) hr
        rw [hf] at q
        cases q
    exact setAll_ok (is := is) (vs := vs) h1 h2 b1 e
theorem setAll_len : ∀ {is : List Nat} {rs : List Rv} {s s' : Sta}, setAll is rs s = some s' → rs.length = is.length
  | [], [], _, _, _ => rfl
  | [], _ :: _, _, _, h => by cases h
  | _ :: _, [], _, _, h => by cases h
  | i :: is, r :: rs, s, s', h => congrArg (· + 1) (setAll_len (is := is) (rs := rs) h)
theorem two_of {α : Type} : ∀ {l : List α}, l.length = 2 → ∃ a b, l = [a, b]
  | [], h => by cases h
  | [_], h => by cases h
  | [a, b], _ => ⟨a, b, rfl⟩
  | _ :: _ :: _ :: _, h => by simp at h
theorem three_of {α : Type} : ∀ {l : List α}, l.length = 3 → ∃ a b c, l = [a, b, c]
  | [], h => by cases h
  | [_], h => by cases h
  | [_, _], h => by cases h
  | [a, b, c], _ => ⟨a, b, c, rfl⟩
  | _ :: _ :: _ :: _ :: _, h => by simp at h
theorem s_par2 {i j : Nat} {x y : Str} {a b : Expr} {ies : IEs} {px py pt : Pos} {kt k2 : Nat} {pt2 : Pos} (h1 : Sn X x i) (h2 : Sn X y j) (hij : i ≠ j) (hc : X.calm = true) (hx : X.env.scope.names.lookup x = some .local) (hy : X.env.scope.names.lookup y = some .local) (ha : PA X [a, b] (tPs X.K F ies))
    (hw : swappedStores [.Tuple [.Name x px, .Name y py] kt pt] (.Tuple [a, b] k2 pt2) X.env = pure (some [x, y])) (hs : swapsWithSole [.Tuple [.Name x px, .Name y py] kt pt] (.Tuple [a, b] k2 pt2) pos.line X.env = pure false) :
    PS X (.Assign [.Tuple [.Name x px, .Name y py] kt pt] (.Tuple [a, b] k2 pt2) pos) (tS X.K F fu (.par [i, j] ies)) := ps_imp (ps_par hc h1.nd h1.at_ h2.at_ hij hx hy ha hw hs) fun E σ H ⟨g, s, o, hs, e, p⟩ => by
  simp only [evS, Option.bind_eq_some_iff, Option.map_eq_some_iff] at e
  obtain ⟨⟨rs, s1⟩, e1, s2, e2, e3⟩ := e
  cases e3
  refine ⟨g, s, rs, s1, hs, e1, fun vs g1 H1 hs1 x1 r1 => ?_⟩
  obtain ⟨g2, k1, k2⟩ := setAll_ok hs1 x1 r1 e2
  obtain ⟨v, w, rfl⟩ := two_of (r1.len.trans (setAll_len e2))
  exact ⟨v, w, rfl, p _ g2 H1 k1 k2⟩
theorem s_par3 {i j l : Nat} {x y z : Str} {a b c : Expr} {ies : IEs} {px py pz pt : Pos} {kt k2 : Nat} {pt2 : Pos} (h1 : Sn X x i) (h2 : Sn X y j) (h3 : Sn X z l) (hij : i ≠ j) (hil : i ≠ l) (hjl : j ≠ l) (hc : X.calm = true) (hx : X.env.scope.names.lookup x = some .local) (hy : X.env.scope.names.lookup y = some .local) (hz : X.env.scope.names.lookup z = some .local) (ha : PA X [a, b, c] (tPs X.K F ies))
    (hw : swappedStores [.Tuple [.Name x px, .Name y py, .Name z pz] kt pt] (.Tuple [a, b, c] k2 pt2) X.env = pure (some [x, y, z])) (hs : swapsWithSole [.Tuple [.Name x px, .Name y py, .Name z pz] kt pt] (.Tuple [a, b, c] k2 pt2) pos.line X.env = pure false) :
    PS X (.Assign [.Tuple [.Name x px, .Name y py, .Name z pz] kt pt] (.Tuple [a, b, c] k2 pt2) pos) (tS X.K F fu (.par [i, j, l] ies)) := ps_imp (ps_par3 hc h1.nd h1.at_ h2.at_ h3.at_ hij hil hjl hx hy hz ha hw hs) fun E σ H ⟨g, s, o, hs, e, p⟩ => by
  simp only [evS, Option.bind_eq_some_iff, Option.map_eq_some_iff] at e
  obtain ⟨⟨rs, s1⟩, e1, s2, e2, e3⟩ := e
  cases e3
  refine ⟨g, s, rs, s1, hs, e1, fun vs g1 H1 hs1 x1 r1 => ?_⟩
  obtain ⟨g2, k1, k2⟩ := setAll_ok hs1 x1 r1 e2
  obtain ⟨u, v, w, rfl⟩ := three_of (r1.len.trans (setAll_len e2))
  exact ⟨u, v, w, rfl, p _ g2 H1 k1 k2⟩
inductive Pnames (X : Cx) : List Expr → List Nat → TGs → Prop
  | nil : Pnames X [] [] gNil
  | cons {x : Str} {i : Nat} {px : Pos} {ts : List Expr} {is : List Nat} {t : TGs} : Sn X x i → Pnames X ts is t → Pnames X (.Name x px :: ts) (i :: is) (gCons (gName i) t)
theorem Pnames.pgs : ∀ {ts : List Expr} {is : List Nat} {t : TGs}, Pnames X ts is t → PGs X ts t
  | _, _, _, .nil => pgs_nil
  | _, _, _, .cons h r => pgs_cons (pg_name h.nd h.at_ h.loc h.fn) r.pgs (by rfl)
theorem Pnames.each : ∀ {ts : List Expr} {is : List Nat} {t : TGs}, Pnames X ts is t → (assignEach ts X.env).length = is.length ∧ (assignEach ts X.env).findIdx? (·.1) = none
  | _, _, _, .nil => ⟨rfl, rfl⟩
  | _, _, _, .cons (x := x) (px := px) (ts := ts) h r => by
    obtain ⟨h1, h2⟩ := Pnames.each r
    have e : assignEach (.Name x px :: ts) X.env = (false, assign (.Name x px) X.env) :: assignEach ts X.env := by rfl
    rw [e]
    refine ⟨by rw [List.length_cons, List.length_cons, h1], ?_⟩
    rw [List.findIdx?_cons]
    simp only [Bool.false_eq_true, if_false, h2, Option.map_none]
theorem Pnames.run {Q : L2.St → Hp → Prop} {H : Hp} : ∀ {ts : List Expr} {is : List Nat} {t : TGs} {vs : List V} {σ : L2.St}, Pnames X ts is t → vs.length = is.length → Q (setVs is vs σ) H → t vs σ H Q
  | _, _, _, [], σ, .nil, _, q => ⟨rfl, q⟩
  | _, _, _, _ :: _, σ, .nil, h, _ => by cases h
  | _, _, _, [], σ, .cons _ _, h, _ => by cases h
  | _, _, _, v :: vs, σ, .cons a r, h, q => ⟨v, vs, rfl, Pnames.run r (Nat.succ.inj h) q⟩
theorem evPs_len {F : CallT} : ∀ {es : IEs} {s : Sta} {p : List Rv × Sta}, evPs F es s = some p → p.1.length = es.len
  | .nil, s, p, h => by
    cases h
    rfl
  | .cons a r, s, p, h => by
    simp only [evPs, Option.bind_eq_some_iff, Option.map_eq_some_iff] at h
    obtain ⟨q1, e1, q2, e3, rfl⟩ := h
    show q2.1.length + 1 = r.len + 1
    rw [evPs_len e3]
theorem s_parT {ts es : List Expr} {is : List Nat} {t : TGs} {ies : IEs} {kt k2 : Nat} {tpos pt2 : Pos} (hn : Pnames X ts is t) (hc : X.calm = true) (ha : PA X es (tPs X.K F ies)) (hl : ies.len ≤ LIM) (hli : ies.len = is.length)
    (hs : swapsWithSole [.Tuple ts kt tpos] (.Tuple es k2 pt2) pos.line X.env = pure false) (hw : swappedStores [.Tuple ts kt tpos] (.Tuple es k2 pt2) X.env = pure none) (h1 : (assignEach [.Tuple ts kt tpos] X.env).map (·.2) = [assign (.Tuple ts kt tpos) X.env]) :
    PS X (.Assign [.Tuple ts kt tpos] (.Tuple es k2 pt2) pos) (tS X.K F fu (.par is ies)) := ps_imp (ps_asg (pe_tup ha) (pg_tup hc hn.pgs hn.each.1 hn.each.2) hs hw h1) fun E σ H ⟨g, s, o, hs, e, p⟩ => by
  simp only [evS, Option.bind_eq_some_iff, Option.map_eq_some_iff] at e
  obtain ⟨⟨rs, s1⟩, e1, s2, e2, e3⟩ := e
  cases e3
  refine ⟨g, s, rs, s1, hs, e1, fun vs g1 H1 hs1 x1 r1 => ?_⟩
  have hlen : vs.length = ies.len := by rw [r1.len]; exact evPs_len e1
  refine ⟨by rw [hlen]; exact Nat.le_trans hl lim_line, fun q hq => ⟨q, vs, rfl, .inl (.inl upd_same), by rw [hlen, hli], hn.run (by rw [hlen, hli]) ?_⟩⟩
  -- the tuple is nobody's
  have pu : Pure g1.G H1 g1.G (upd H1 q (.tup vs)) := .one hs1.same hq
  have r2 : RvsOk X.K (g1.wG g1.G) s1 (upd H1 q (.tup vs)) H vs rs := keepR hq r1
  obtain ⟨g2, k1, k2⟩ := setAll_ok (hs1.pure pu) (x1.trans pu.ext) r2 e2
  exact p _ g2 _ k1 k2
where
  keepR {K : PySem.W.Frag} {H H0 : Hp} {g : Gh} {s : Sta} {q : Addr} {o : HO} (hq : H q = none) : ∀ {vs : List V} {rs : List Rv}, RvsOk K g s H H0 vs rs → RvsOk K (g.wG g.G) s (upd H q o) H0 vs rs
    | _, _, .nil => .nil
    | _, _, .cons (r := r) a d b => by
      refine .cons ?_ d (keepR hq b)
      cases r with
      | v x => exact a
      | f xs =>
        obtain ⟨c, ws, e, h1, h2, h3, h4, h5⟩ := a
        exact ⟨c, ws, e, by rw [upd_ne (ne_of_none h1 hq)]; exact h1, h2, h3, h4, h5⟩
      | fd xs =>
        obtain ⟨c, ws, e, h1, h2, h3, h4, h5⟩ := a
        exact ⟨c, ws, e, by rw [upd_ne (ne_of_none h1 hq)]; exact h1, h2, h3, h4, h5⟩
      | dr => exact a
      | scr ns => exact a

theorem KDen.put {K : PySem.W.Frag} {G : Hp} {v : V} {d : D} (k : Key) (h : Den K G v d) {ks : List (Key × V)} {kvs : List (Key × D)} (r : KDen K G ks kvs) : KDen K G (L2.putK ks k v) (putK kvs k d) := by
  have ha : (ks.any fun kv => decide (kv.1 = k)) = (kvs.any fun kv => decide (kv.1 = k)) := by
    clear h
    induction r with
    | nil => rfl
    | cons a r ih => rw [List.any_cons, List.any_cons, ih]
  unfold L2.putK putK
  rw [ha]
  split
  · clear ha
    rename_i hc
    clear hc
    induction r with
    | nil => exact .nil
    | @cons k' v' d' ks kvs a r ih =>
      rw [List.map_cons, List.map_cons]
      by_cases e : k' = k
      · simp only [e, if_true]
        exact .cons h ih
      · simp only [e, if_false]
        exact .cons a ih
  · clear ha
    rename_i hc
    clear hc
    induction r with
    | nil => exact .cons h .nil
    | cons a r ih => exact .cons a ih
theorem map_set_int (l : List Int) (j : Nat) (n : Int) : (l.map V.int).set j (.int n) = (l.set j n).map V.int := by
  rw [List.map_set]
theorem s_stsub {x : Str} {n : Nat} {px ps : Pos} {i e : Expr} {ii ie : IE} (hu : X.A.units + 64 < cLine) (h : Nm X x n) (hi : PE X i (tX X F ii)) (he : PE X e (tX X F ie)) (hss : swapsWithSole [.Subscript (.Name x px) i ps] e pos.line X.env = pure false) (hw : swappedStores [.Subscript (.Name x px) i ps] e X.env = pure none)
    (hs2 : swapsWith e (some (.Subscript (.Name x px) i ps)) pos.line X.env = pure false) (h1 : (assignEach [.Subscript (.Name x px) i ps] X.env).map (·.2) = [assign (.Subscript (.Name x px) i ps) X.env])
    (ha : ∀ v, assign (.Subscript (.Name x px) i ps) X.env v = (do
      let ov ← holding [v] (eval (.Name x px) X.env)
      let iv ← holding [v, ov] (eval i X.env)
      standAt ps
      holding [v, ov, iv] (setItem ov iv v)
      release [v, ov, iv] [])) : PS X (.Assign [.Subscript (.Name x px) i ps] e pos) (tS X.K F fu (.stsub n ii ie)) :=
  ps_imp (ps_orr (ps_asg he (pg_sub h.pe hi set_list ha) hss hw h1) (ps_dput (by omega) h.pe hi he hs2)) fun E σ H ⟨g, s, o, hs, e, p⟩ => by
    simp only [evS, Option.bind_eq_some_iff] at e
    obtain ⟨⟨r1, s1⟩, e1, e⟩ := e
    split at e
    · rename_i hb
      simp only [Option.bind_eq_some_iff, Option.map_eq_some_iff] at e
      obtain ⟨⟨r2, s2⟩, e2, d, e3, k, e4, s3, e5, e6⟩ := e
      cases e6
      -- the value, kept for good; the name; the index
      have go : ∀ {R : V → V → V → Hp → Prop}, (∀ v xv y g2 H2, σ[n]? = some (some xv) → StOk X.K g2 σ H2 s2 → Ext g s H g2 s2 H2 → Den X.K g2.G v d → Cur X.K g2.G H2 y k → R v xv y H2) →
          tX X F ie σ H fun v H1 => ∃ xv, σ[n]? = some (some xv) ∧ tX X F ii σ H1 fun y H2 => R v xv y H2 := fun {R} kk => by
        refine seq1 hs e1 fun v g1 H1 hs1 x1 q1 => ?_
        obtain ⟨g1', hs1', x1', dn, _⟩ := freezeD hs1 x1 q1 e3
        obtain ⟨xv, hv⟩ := bnd_val hs1' hb
        exact ⟨xv, hv, seq1 hs1' e2 fun y g2 H2 hs2 x2 q2 => kk v xv y g2 H2 hv hs2 (x1'.trans x2) (dn.mono x2.mono) (q2.cur e4)⟩
      unfold stS at e5
      split at e5
      · rename_i xs m h1
        simp only [Option.map_eq_some_iff] at e5
        obtain ⟨j, e6, e7⟩ := e5
        cases e7
        refine .inl (go (R := fun v xv y H2 => rSetL xv y v H2 fun H3 => E.nx σ H3) fun v xv y g2 H2 hv hs2 x2 dn cy => ?_)
        obtain ⟨k1, vs, k3, k4⟩ := hs2.slot n _ h1
        rw [hv] at k1
        cases k1
        obtain ⟨w1, w2⟩ := hs2.wr (i := n) (y := .own (xs.set j d)) (o := .lst (vs.set j v)) (by rw [h1]; trivial) trivial (fun z => z) ⟨hv, _, upd_same, k4.set j dn⟩
        exact ⟨_, vs, m, j, rfl, cy.int, k3, by rw [k4.len]; exact e6, p σ g2 _ w1 (x2.trans w2)⟩
      · rename_i kd kvs h1
        simp only [Option.bind_eq_some_iff] at e5
        obtain ⟨kk, e6, e7⟩ := e5
        split at e7
        · rename_i hz
          cases e7
          refine .inr (go (R := fun v xv y H2 => ∃ a H4, xv = .ref a ∧ DPut H2 a y v H4 ∧ E.nx σ H4) fun v xv y g2 H2 hv hs2 x2 dn cy => ?_)
          obtain ⟨k1, ks, k3, k4⟩ := hs2.slot n _ h1
          rw [hv] at k1
          cases k1
          obtain ⟨w1, w2⟩ := hs2.wr (i := n) (y := .dct (putK kvs kk d)) (o := .dK (L2.putK ks kk v)) (by rw [h1]; trivial) trivial (fun z => z) ⟨hv, _, upd_same, k4.put kk dn⟩
          refine ⟨_, _, rfl, ?_, p σ g2 _ w1 (x2.trans w2)⟩
          rw [cy.keyV e6]
          refine DPut.k k3 ?_
          have hz : kvs.length + 1 ≤ LIM := of_decide_eq_true hz
          have := k4.len
          have : LIM ≤ sizeLine := lim_line
          omega
        · cases e7
      · rename_i m h1
        split at e5
        · rename_i hm
          subst hm
          split at e5
          · rename_i mm S hS
            cases e5
            refine .inl (go (R := fun v xv y H2 => rSetL xv y v H2 fun H3 => E.nx σ H3) fun v xv y g2 H2 hv hs2 x2 dn cy => ?_)
            have k1 := hs2.slot n _ h1
            rw [hv] at k1
            cases k1
            obtain ⟨ne, ⟨c, k3, k4⟩, k5⟩ := hs2.dro S hS
            cases dn
            obtain ⟨w1, w2⟩ := hs2.wrD (S := S) (S' := { S with turn := mm }) (a := g2.p) (o := .lst [.ref c, .int mm, .ref g2.r]) hS (.inl rfl) ⟨ne, ⟨c, upd_same, k4⟩, by rw [upd_ne ne.symm]; exact k5⟩
            exact ⟨_, _, 1, 1, rfl, cy.int, k3, by rfl, p σ g2 _ w1 (x2.trans w2)⟩
          · cases e5
        · cases e5
      · rename_i m h1
        split at e5
        · rename_i mm S hS
          simp only [Option.map_eq_some_iff] at e5
          obtain ⟨j, e6, e7⟩ := e5
          cases e7
          refine .inl (go (R := fun v xv y H2 => rSetL xv y v H2 fun H3 => E.nx σ H3) fun v xv y g2 H2 hv hs2 x2 dn cy => ?_)
          have k1 := hs2.slot n _ h1
          rw [hv] at k1
          cases k1
          obtain ⟨ne, ⟨c, k3, k4⟩, k5⟩ := hs2.dro S hS
          cases dn
          obtain ⟨w1, w2⟩ := hs2.wrD (S := S) (S' := { S with rests := S.rests.set j mm }) (a := g2.r) (o := .lst ((S.rests.set j mm).map V.int)) hS (.inr rfl) ⟨ne, ⟨c, by rw [upd_ne ne]; exact k3, k4⟩, upd_same⟩
          refine ⟨_, _, m, j, rfl, cy.int, k5, by rw [List.length_map]; exact e6, ?_⟩
          rw [map_set_int]
          exact p σ g2 _ w1 (x2.trans w2)
        · cases e5
      · cases e5
    · cases e
theorem s_app {x : Str} {n : Nat} {px pa cp : Pos} {e : Expr} {ie : IE} (h : Nm X x n) (he : PE X e (tX X F ie)) (hst : starEach [e] X.env = [(false, eval e X.env)]) (hl : (pa.endLine == cp.line) = true) : PS X (.Expr (.Call (.Attribute (.Name x px) "append" pa) [e] [] cp) pos) (tS X.K F fu (.app n ie)) :=
  ps_imp (ps_expr (pe_bm PySem.F.plainAttrs_list PySem.F.slot_list_append PySem.F.type_list_append mt_append h.pe (pa_cons he pa_nil hst) (hfew := by rw [hst]; rfl) (hline := hl) (hs := hst)) (by rfl)) fun E σ H ⟨g, s, o, hs, e, p⟩ => by
    simp only [evS] at e
    split at e
    · rename_i hb
      simp only [Option.bind_eq_some_iff, Option.map_eq_some_iff] at e
      obtain ⟨⟨r1, s1⟩, e1, d, e2, s2, e3, e4⟩ := e
      cases e4
      unfold bndL at hb
      split at hb
      · rename_i ys h0
        obtain ⟨hv, ws, h3, _⟩ := hs.slot n _ h0
        refine ⟨_, hv, .inl ⟨rfl, _, .inl (.inl h3)⟩, seq1 hs e1 fun v g1 H1 hs1 x1 q1 => ?_⟩
        obtain ⟨g2, hs2, x2, dn, _⟩ := freezeD hs1 x1 q1 e2
        unfold appS at e3
        split at e3
        · rename_i xs h1
          split at e3
          · rename_i hz
            cases e3
            obtain ⟨k1, vs, k3, k4⟩ := hs2.slot n _ h1
            rw [hv] at k1
            have ek : V.ref (g.ow n) = V.ref (g2.ow n) := Option.some.inj (Option.some.inj k1)
            obtain ⟨w1, w2⟩ := hs2.wr (i := n) (y := .own (xs ++ [d])) (o := .lst (vs ++ [v])) (by rw [h1]; trivial) trivial (fun z => z) ⟨by rw [hv, ek], _, upd_same, k4.app (.cons dn .nil)⟩
            refine ⟨_, vs, v, ek, rfl, k3, ?_, p σ g2 _ w1 (x2.trans w2)⟩
            have hz : xs.length + 1 ≤ LIM := of_decide_eq_true hz
            have := k4.len
            have : LIM ≤ sizeLine := lim_line
            omega
          · cases e3
        · cases e3
      · cases hb
    · cases e

theorem s_undr {x xa xb xc : Str} {n a b c : Nat} {px pa pb pc tpos : Pos} {kt : Nat} (h : Nm X x n) (ha : Sn X xa a) (hb : Sn X xb b) (hc : Sn X xc c) (hcm : X.calm = true)
    (hs : swapsWithSole [.Tuple [.Name xa pa, .Name xb pb, .Name xc pc] kt tpos] (.Name x px) pos.line X.env = pure false) (hw : swappedStores [.Tuple [.Name xa pa, .Name xb pb, .Name xc pc] kt tpos] (.Name x px) X.env = pure none) (h1 : (assignEach [.Tuple [.Name xa pa, .Name xb pb, .Name xc pc] kt tpos] X.env).map (·.2) = [assign (.Tuple [.Name xa pa, .Name xb pb, .Name xc pc] kt tpos) X.env]) :
    PS X (.Assign [.Tuple [.Name xa pa, .Name xb pb, .Name xc pc] kt tpos] (.Name x px) pos) (tS X.K F fu (.undr a b c n)) := by
  have hn : Pnames X [.Name xa pa, .Name xb pb, .Name xc pc] [a, b, c] _ := .cons ha (.cons hb (.cons hc .nil))
  refine ps_imp (ps_asg h.pe (pg_unl hcm hn.pgs hn.each.1 hn.each.2) hs hw h1) fun E σ H ⟨g, s, o, hs, e, p⟩ => ?_
  simp only [evS] at e
  split at e
  · rename_i S k1 k2
    cases e
    have hv := hs.slot n _ k1
    obtain ⟨ne, ⟨cc, k3, k4⟩, k5⟩ := hs.dro S k2
    have hi : s.s.isSome = true := by rw [k2]; rfl
    obtain ⟨a1, a2⟩ := hs.setS (v := .ref cc) (y := .v (.list (S.cells.map .int))) a (fun z => z) (fun z => z.elim) ⟨_, rfl, k4⟩
    obtain ⟨b1, b2⟩ := a1.setS (v := .int S.turn) (y := .v (.int S.turn)) b (fun z => z) (fun z => z.elim) ⟨_, rfl, .int _⟩
    obtain ⟨c1, c2⟩ := b1.setS (v := .ref g.r) (y := .drr) c (fun z => z) (fun _ => hi) rfl
    exact ⟨_, hv, g.p, _, rfl, .inl (.inl k3), rfl, hn.run rfl (p _ g H c1 (a2.trans (b2.trans c2)))⟩
  · cases e
theorem s_mkdr {x : Str} {n : Nat} {px p0 lp : Pos} {j : Nat} {e : Expr} {ie : IE} (h : Nm X x n) (he : PE X e (tX X F ie)) (hst : starEach [e] X.env = [(false, eval e X.env)]) : PS X (.Return (some (.List [.Name x px, .Constant (.int 0) j p0, e] lp)) pos) (tS X.K F fu (.mkdr n ie)) :=
  ps_imp (ps_ret (pe_lst (pa_cons h.pe (pa_cons pe_int (pa_cons he pa_nil hst) (by rfl)) (by rfl)))) fun E σ H ⟨g, s, o, hs, e, p⟩ => by
    simp only [evS, Option.bind_eq_some_iff] at e
    obtain ⟨⟨r0, s0⟩, e0, ⟨r1, s1⟩, e1, e⟩ := e
    -- the cells stay for good
    have cells : ∀ xs, r0 = .v (.list xs) → ∃ g0 v, σ[n]? = some (some v) ∧ StOk X.K g0 σ H s0 ∧ Ext g s H g0 s0 H ∧ Den X.K g0.G v (.list xs) := fun xs er => by
      subst er
      unfold readV at e0
      split at e0
      · rename_i d h1
        cases e0
        obtain ⟨v, h2, h3⟩ := hs.slot n _ h1
        exact ⟨g, v, h2, hs, .refl _ _ _, h3⟩
      · rename_i ys h1
        cases e0
        obtain ⟨g', hs', x', v, h2, h3⟩ := hs.fz h1
        exact ⟨g', v, h2, hs', x', h3⟩
      · cases e0
      · cases e0
      · cases e0
    split at e
    · rename_i xs ys er0 er1
      obtain ⟨g0, v, hv, hs0, x0, dv⟩ := cells xs er0
      split at e
      · rename_i hno
        simp only [Option.bind_eq_some_iff, Option.map_eq_some_iff] at e
        obtain ⟨ns, i1, ms, i2, e4⟩ := e
        cases e4
        simp only at er1
        subst er1
        refine ⟨v, hv, seq1 hs0 e1 fun y g1 H1 hs1 x1 q1 => ⟨by show 3 ≤ sizeLine; decide, fun q hq => ?_⟩⟩
        obtain ⟨a, ws, rfl, k1, k2, k3, k4, k5⟩ := q1
        have ew := (k2.ints i2).1
        subst ew
        have dv1 := dv.mono x1.mono
        have exs : xs = ns.map PyData.int := by
          cases dv with
          | lst _ dd => exact (dd.ints i1).2
        subst exs
        have hs1n : s1.s = none := by
          have : s1.s.isNone = true := hno
          exact Option.isNone_iff_eq_none.mp this
        have nq : a ≠ q := ne_of_none k1 hq
        have pu : Pure g1.G H1 g1.G (upd H1 q (.lst [v, .int 0, .ref a])) := .one hs1.same hq
        have hs2 := hs1.pure pu
        obtain ⟨c, rfl⟩ : ∃ c, v = .ref c := by
          cases dv with
          | lst _ _ => exact ⟨_, rfl⟩
        have nodr : ∀ i : Nat, ¬ isDr (s1.g[i]?) := fun i hi => by
          have := hs1.drs i hi
          rw [hs1n] at this
          cases this
        refine p (.ref q) σ { g1 with p := q, r := a } (upd H1 q (.lst [.ref c, .int 0, .ref a])) ⟨hs2.same, hs2.len, fun i sl es => ?_, hs2.inj, fun b w => ?_, fun S es => ?_, fun _ i hi => ?_, fun _ _ => rfl⟩ ⟨x0.mono.trans x1.mono, fun b o eb w => ?_, fun b eb => (x0.trans x1).newG b eb, fun b w => ?_, fun b eb => x0.trk b (x1.trk b (pu.h.free eb)), fun hsm => ?_⟩ ⟨rfl, rfl⟩
        · have z := hs2.slot i sl es
          cases sl with
          | no => trivial
          | v d => exact z
          | own xs => exact z
          | dct xs => exact z
          | dr => exact absurd (show isDr (s1.g[i]?) by rw [show s1.g[i]? = _ from es]; trivial) (nodr i)
          | drr => exact absurd (show isDr (s1.g[i]?) by rw [show s1.g[i]? = _ from es]; trivial) (nodr i)
          | scr ns => exact z
        · rcases w with w | ⟨_, rfl | rfl⟩
          · exact hs1.sep b (.inl w)
          · exact hs1.same.free hq
          · exact k3
        · cases es
          exact ⟨nq.symm, ⟨c, upd_same, dv1⟩, by rw [upd_ne nq]; exact k1⟩
        · have t := hs1.there (.inl ⟨i, hi, rfl⟩)
          refine ⟨fun z => t (by rw [show g1.ow i = q from z]; exact hq), fun z => k4 (.inl ⟨i, hi, z⟩)⟩
        · exact pu.h _ _ ((x0.trans x1).keep b o eb w)
        · rcases w with w | ⟨_, rfl | rfl⟩
          · exact (x0.trans x1).own b (.inl w)
          · exact .inr (x0.trk _ (x1.trk _ hq))
          · exact .inr (x0.trk _ k5)
        · have := ((x0.trans x1).dr hsm).1
          rw [hs1n] at this
          cases this
      · cases e
    · cases e
end Tl

namespace Tl
open PySem L2
variable {X : Cx} {F : CallT} {fu : Nat} {pos : Pos}
theorem e_dsp {k v : Expr} {ik iv : IE} (hk : PE X k (tX X F ik)) (hv : PE X v (tX X F iv)) : PE X (.Dict [some k] [v] pos) (tX X F (.dsp ik iv)) :=
  pe_imp (pe_disp (pps_cons hk hv pps_nil) rfl rfl (fun z => by cases z) (by show 1 ≤ 15; decide)) fun σ H Q ⟨g, s, rv, s', hs, e, p⟩ => by
    simp only [evE, Option.bind_eq_some_iff, Option.map_eq_some_iff] at e
    obtain ⟨q1, e1, q2, e2, a, e3, b, e4, kk, e5, e6⟩ := e
    cases e6
    intro D hD
    have pu : Pure g.G H g.G (upd H D (.dK [])) := .one hs.same hD
    have hs0 := hs.pure pu
    have hG : g.G D = none := hs.same.free hD
    have nO : ¬ Ow g s D := fun w => hs.there w hD
    refine seq2 hs0 e1 e2 fun x y g2 H2 hs2 x2 r1 r2 => ?_
    obtain ⟨g3, hs3, x3, dn, _⟩ := freezeD hs2 x2 r2 e4
    have kp : H2 D = some (.dK []) := x3.keep D _ upd_same nO
    have hG3 : g3.G D = none := by
      cases q : g3.G D with
      | none => rfl
      | some o =>
        rcases x3.newG D (by rw [q]; simp) with z | z | z
        · exact absurd hG z
        · rw [upd_same] at z; cases z
        · exact absurd z nO
    have nO3 : ¬ Ow g3 q2.2 D := fun w => by
      rcases x3.own D w with z | z
      · exact nO z
      · rw [upd_same] at z; cases z
    refine ⟨kp, [(kk, y)], ?_, by show 1 ≤ 15; decide, ?_⟩
    · rw [(r1.cur e3).keyV e5]
      rfl
    · exact p (.ref D) g3 (upd H2 D (.dK [(kk, y)])) (hs3.poke hG3 nO3) ((pu.ext.trans x3).poke hD) ⟨D, _, rfl, upd_same, .cons dn .nil, hG3, nO3, hD⟩
theorem putK_len (kvs : List (Key × D)) (k : Key) (d : D) : (putK kvs k d).length ≤ kvs.length + 1 := by
  unfold putK
  split
  · rw [List.length_map]; omega
  · rw [List.length_append]; exact Nat.le_refl _
def dstep (F : CallT) (ke ie : IE) (T : Tg) (io : IO) (vs : List Nat) : D → List (Key × D) → Sta → Option (List (Key × D) × Sta) := fun x acc s =>
  (asgT T x (s.wipe vs)).bind fun s2 => (evT F io s2).bind fun q => if q.1 then (evE F ke q.2).bind fun r => (evE F ie r.2).bind fun t => r.1.d.bind fun a => t.1.d.bind fun b => (keyOf a).map fun k => (putK acc k b, t.2) else some (acc, q.2)
theorem dcomp_core {ke ie : IE} {T : Tg} {it : II} {io : IO} {vs : List Nat} {K : PySem.W.Frag} (hT : ∀ i ∈ T.nms, i ∈ vs) {σ : L2.St} {H : Hp} {R : VK} {g : Gh} {s s' : Sta} {rv : Rv} (hs : StOk K g σ H s) (e : evE F (.dcomp ke ie T it io vs) s = some (rv, s')) (p : Post K σ g s H s' rv R) :
    tDc (tI K F it) (tG K T) (tTs K F io) (tE K F ke) (tE K F ie) vs σ H R := by
  simp only [evE, Option.bind_eq_some_iff] at e
  obtain ⟨⟨ds, s1⟩, e1, e2⟩ := e
  split at e2
  · rename_i hz
    obtain ⟨z1, no⟩ := (Bool.and_eq_true _ _).mp hz
    have z1 : ds.length ≤ LIM := of_decide_eq_true z1
    simp only [Option.map_eq_some_iff] at e2
    obtain ⟨⟨accF, sF⟩, e3, e4⟩ := e2
    cases e4
    have e3 : dcLoop (dstep F ke ie T io vs) ds [] s1 = some (accF, sF) := e3
    refine ⟨g, s, ds, s1, hs, e1, fun J g1 H1 hs1 x1 itok D hD => ?_⟩
    have hG1 : g1.G D = none := hs1.same.free hD
    refine ⟨fun i m H' => i + m = ds.length ∧ ∃ acc si gi va, dcLoop (dstep F ke ie T io vs) (ds.drop i) acc si = some (accF, sF) ∧ StOk K gi (wipe σ vs) H' (si.wipe vs) ∧ Ext g1 (s1.wipe vs) H1 gi (si.wipe vs) H' ∧ H' D = some (.dK va) ∧ KDen K gi.G va acc ∧ gi.G D = none ∧ ¬ Ow gi (si.wipe vs) D ∧ acc.length ≤ i, ⟨ds.length, by omega, [], s1, g1, [], e3, ?_, ?_, upd_same, .nil, hG1, ?_, Nat.le_refl _⟩, fun i m H' hW => ?_⟩
    · exact (hs1.wipe vs).poke hG1 fun w => hs1.there (ow_wipe w) hD
    · exact (Ext.refl _ _ _).poke hD
    · exact fun w => hs1.there (ow_wipe w) hD
    · obtain ⟨hm, acc, si, gi, va, el, hsi, xi, hD', hva, hG, hO, hal⟩ := hW
      by_cases hi : i < ds.length
      · right
        have sG : Same g1.G H' := xi.mono.trans hsi.same
        rw [List.drop_eq_getElem_cons hi] at el
        unfold dcLoop at el
        rw [Option.bind_eq_some_iff] at el
        obtain ⟨⟨acc', si'⟩, el1, el⟩ := el
        simp only [dstep, Option.bind_eq_some_iff] at el1
        obtain ⟨s2, a1, ⟨b, s3⟩, a2, a3⟩ := el1
        refine ⟨itok.go i H' sG hi, fun H'' => ∃ acc si gi va, dcLoop (dstep F ke ie T io vs) (ds.drop (i + 1)) acc si = some (accF, sF) ∧ StOk K gi (wipe σ vs) H'' (si.wipe vs) ∧ Ext g1 (s1.wipe vs) H1 gi (si.wipe vs) H'' ∧ H'' D = some (.dK va) ∧ KDen K gi.G va acc ∧ gi.G D = none ∧ ¬ Ow gi (si.wipe vs) D ∧ acc.length ≤ i + 1,
          fun H'' hN => ?_, fun x H2 hy => ?_⟩
        · obtain ⟨w1, w2, w3, w4, w5⟩ := hN
          exact ⟨m - 1, by omega, by omega, w1, w2, w3, w4, w5⟩
        · obtain ⟨G', pu, dn⟩ := itok.yl i H' H2 gi.G x ds[i] xi.mono hsi.same (List.getElem?_eq_getElem hi) hy
          have hs2 := hsi.pure pu
          have x2 : Ext g1 (s1.wipe vs) H1 (gi.wG G') (si.wipe vs) H2 := xi.trans pu.ext
          have G2 : (gi.wG G').G D = none := by
            cases q : G' D with
            | none => exact q
            | some o =>
              rcases pu.n D (by rw [q]; simp) with z | z
              · exact absurd hG z
              · rw [hD'] at z; cases z
          refine ⟨gi.wG G', si.wipe vs, ds[i], s2, hs2, dn, a1, fun σ' g3 hs3 x3 c3 => ⟨?_, g3, s2, b, s3, hs3, a2, fun g4 H4 hs4 x4 => ?_⟩⟩
          · rw [c3 vs hT, wipe_wipe]
          · have ec : wipe σ' vs = wipe σ vs := by rw [c3 vs hT, wipe_wipe]
            have x34 := x3.trans x4
            have D2 : H2 D = some (.dK va) := pu.h _ _ hD'
            have O2 : ¬ Ow (gi.wG G') (si.wipe vs) D := hO
            have keepD : ∀ {g5 : Gh} {s5 : Sta} {H5 : Hp}, Ext (gi.wG G') (si.wipe vs) H2 g5 s5 H5 → H5 D = some (.dK va) ∧ g5.G D = none ∧ ¬ Ow g5 s5 D := fun {g5 s5 H5} x => by
              refine ⟨x.keep _ _ D2 O2, ?_, fun w => ?_⟩
              · cases q : g5.G D with
                | none => rfl
                | some o =>
                  rcases x.newG D (by rw [q]; simp) with z | z | z
                  · exact absurd G2 z
                  · rw [D2] at z; cases z
                  · exact absurd z O2
              · rcases x.own D w with z | z
                · exact O2 z
                · rw [D2] at z; cases z
            cases b with
            | false =>
              simp only [Bool.false_eq_true, if_false] at a3 ⊢
              cases a3
              obtain ⟨k1, k2, k3⟩ := keepD x34
              have h5 := hs4.wipe vs
              rw [ec] at h5
              exact ⟨_, _, g4, va, el, h5, (x2.trans x34).wipe vs, k1, (hva.mono pu.m).mono x34.mono, k2, fun w => k3 (ow_wipe w), by show acc.length ≤ i + 1; omega⟩
            | true =>
              simp only [if_true, Option.bind_eq_some_iff, Option.map_eq_some_iff] at a3 ⊢
              obtain ⟨⟨r5, s5⟩, b1, ⟨r6, s6⟩, c1, a5, b2, d6, c2, kk, c3', c4⟩ := a3
              cases c4
              refine seq2 hs4 b1 c1 fun yk yv g5 H5 hs5 x5 q5 q6 => ?_
              obtain ⟨g6, hs6, x6, dn6, _⟩ := freezeD hs5 x5 q6 c2
              have x36 := x34.trans x6
              obtain ⟨k1, k2, k3⟩ := keepD x36
              have hla : va.length = acc.length := hva.len
              refine ⟨va, kk, (q5.cur b2).keyV c3', k1, ?_, putK acc kk d6, s6, g6, L2.putK va kk yv, el, ?_, ?_, upd_same, (((hva.mono pu.m).mono x36.mono).put kk dn6), k2, fun w => k3 (ow_wipe w), ?_⟩
              · rw [hla]
                have : LIM < sizeLine := by decide
                omega
              · have h5 := (hs6.wipe vs).poke (a := D) (o := .dK (L2.putK va kk yv)) k2 fun w => k3 (ow_wipe w)
                rw [ec] at h5
                exact h5
              · exact ((x2.trans x36).wipe vs).poke hD
              · have := putK_len acc kk d6
                omega
      · left
        have ei : i = ds.length := by omega
        subst ei
        rw [List.drop_length] at el
        cases el
        refine ⟨itok.stop H' (xi.mono.trans hsi.same), ?_⟩
        obtain ⟨b1, b2⟩ := StOk.back hs1 no hsi xi
        refine p (.ref D) gi H' b1 (x1.trans b2) ⟨D, va, rfl, hD', hva, hG, fun w => ?_, x1.trk D hD⟩
        rcases b2.own D w with z | z
        · exact hs1.there z hD
        · rcases w with ⟨j, hj, ej⟩ | w
          · refine hO (.inl ⟨j, ?_, ej⟩)
            have gt : (sF.back s1 vs).g[j]? = if j ∈ vs then s1.g[j]? else sF.g[j]? := backG_get (by
              have e1 := hs1.len
              have e2 := hsi.len
              rw [wipe_length] at e2
              have e3 : (sF.wipe vs).g.length = sF.g.length := wipeG_len sF.g vs
              omega) vs j
            rw [gt] at hj
            by_cases hv : j ∈ vs
            · rw [if_pos hv] at hj
              have q := List.all_eq_true.mp no j hv
              cases ee : s1.g[j]? with
              | none => rw [ee] at hj; exact hj.elim
              | some y =>
                rw [ee] at hj q
                cases y with
                | own _ => cases q
                | dct _ => cases q
                | no => exact hj.elim
                | v _ => exact hj.elim
                | dr => exact hj.elim
                | drr => exact hj.elim
                | scr _ => exact hj.elim
            · rw [if_neg hv] at hj
              show isOwn ((wipeG sF.g vs)[j]?)
              rw [wipeG_out hv]; exact hj
          · exact hO (.inr w)
  · cases e2
theorem e_dcomp {ke ie : IE} {T : Tg} {it : II} {io : IO} {kx vx tg iter : Expr} {ifs : List Expr} {scope : Scope} {own : List (Str × Nat)} (hc : X.calm = true) (hN : X.N.Nodup) (hi : PI X tg iter (tI X.K F it)) (ok : BlkOk X.N X.env.scope scope own) (hT : ∀ i ∈ T.nms, i ∈ own.map (·.2))
    (hg : ∀ (s : Shared) (H : Hp) (C : Addr) (cl : List (Str × Addr)) (fp : List Addr), PG (X.blk s H scope (compEnvC scope cl C X.env) fp) tg (tG X.K T)) (ht : ∀ (s : Shared) (H : Hp) (C : Addr) (cl : List (Str × Addr)) (fp : List Addr), PTs (X.blk s H scope (compEnvC scope cl C X.env) fp) ifs (tTs X.K F io))
    (hk : ∀ (s : Shared) (H : Hp) (C : Addr) (cl : List (Str × Addr)) (fp : List Addr), PE (X.blk s H scope (compEnvC scope cl C X.env) fp) kx (tE X.K F ke))
    (he : ∀ (s : Shared) (H : Hp) (C : Addr) (cl : List (Str × Addr)) (fp : List Addr), PE (X.blk s H scope (compEnvC scope cl C X.env) fp) vx (tE X.K F ie)) (hf : ∀ x, foldedSetIterable iter X.env x = pure x) :
    PE X (.DictComp kx vx [⟨tg, iter, ifs, 0⟩] scope pos) (tX X F (.dcomp ke ie T it io (own.map (·.2)))) := pe_imp (pe_dc hc hN hi ok hg ht hk he hf) fun σ H Q ⟨g, s, rv, s', hs, e, p⟩ => dcomp_core hT hs e p

theorem s_ext {x : Str} {n : Nat} {px pa cp : Pos} {e : Expr} {ie : IE} (h : Nm X x n) (he : PE X e (tX X F ie)) (hst : starEach [e] X.env = [(false, eval e X.env)]) (hl : (pa.endLine == cp.line) = true) : PS X (.Expr (.Call (.Attribute (.Name x px) "extend" pa) [e] [] cp) pos) (tS X.K F fu (.ext n ie)) :=
  ps_imp (ps_expr (pe_bm PySem.F.plainAttrs_list PySem.F.slot_list_extend PySem.F.type_list_extend mt_extend h.pe (pa_cons he pa_nil hst) (hfew := by rw [hst]; rfl) (hline := hl) (hs := hst)) (by rfl)) fun E σ H ⟨g, s, o, hs, e, p⟩ => by
    simp only [evS] at e
    split at e
    · rename_i hb
      simp only [Option.bind_eq_some_iff] at e
      obtain ⟨⟨r1, s1⟩, e1, d, e2, e3⟩ := e
      unfold bndL at hb
      split at hb
      · rename_i ys h0
        obtain ⟨hv, ws, h3, _⟩ := hs.slot n _ h0
        refine ⟨_, hv, .inl ⟨rfl, _, .inl (.inl h3)⟩, seq1 hs e1 fun v g1 H1 hs1 x1 q1 => ?_⟩
        obtain ⟨g2, hs2, x2, dn, _⟩ := freezeD hs1 x1 q1 e2
        split at e3
        · rename_i zs
          obtain ⟨s2, e3, e4⟩ := Option.map_eq_some_iff.mp e3
          subst e4
          unfold extS at e3
          split at e3
          · rename_i xs h1
            split at e3
            · rename_i hz
              cases e3
              cases dn with
              | @lst b zv _ d1 d2 =>
                obtain ⟨k1, vs, k3, k4⟩ := hs2.slot n _ h1
                rw [hv] at k1
                have ek : V.ref (g.ow n) = V.ref (g2.ow n) := Option.some.inj (Option.some.inj k1)
                obtain ⟨w1, w2⟩ := hs2.wr (i := n) (y := .own (xs ++ zs)) (o := .lst (vs ++ zv)) (by rw [h1]; trivial) trivial (fun z => z) ⟨by rw [hv, ek], _, upd_same, k4.app d2⟩
                refine ⟨_, b, vs, zv, ek, rfl, k3, hs2.same _ _ d1, ?_, p σ g2 _ w1 (x2.trans w2)⟩
                have hz : xs.length + zs.length ≤ LIM := of_decide_eq_true hz
                rw [k4.len, d2.len]
                exact Nat.le_trans hz lim_line
            · cases e3
          · cases e3
        · cases e3
      · cases hb
    · cases e
theorem s_augI {x : Str} {i : Nat} {e : Expr} {ie : IE} {px : Pos} (h : Sn X x i) (he : PE X e (tX X F ie)) : PS X (.AugAssign (.Name x px) .Add e pos) (tS X.K F fu (.augI i ie)) :=
  ps_imp (ps_aug h.nd h.at_ h.loc he ip_add h.fn) fun E σ H ⟨g, s, o, hs, e, p⟩ => by
    simp only [evS, Option.bind_eq_some_iff, Option.map_eq_some_iff] at e
    obtain ⟨a, e1, q, e2, b, e3, e4⟩ := e
    cases e4
    unfold getI at e1
    split at e1
    · rename_i j h1
      cases e1
      obtain ⟨v, h2, h3⟩ := hs.slot i _ h1
      cases h3
      refine ⟨_, h2, seq1 hs e2 fun w g1 H1 hs1 x1 r1 => ?_⟩
      rw [asI_eq e3] at r1
      have ew := rv_int r1
      subst ew
      obtain ⟨g2, k1, k2, _⟩ := hs1.setR (v := .int (a + b)) (rv := .v (.int (a + b))) x1 (Den.int _) i
      exact ⟨a, b, rfl, rfl, p _ g2 H1 k1 k2⟩
    · cases e1
theorem s_never {st : Stmt} : PS X st (tS X.K F fu .never) := ps_imp ps_never fun E σ H ⟨g, s, o, hs, e, p⟩ => by
  simp only [evS, reduceCtorEq] at e
end Tl

namespace Tl
open PySem L2
variable {X : Cx} {F : CallT} {fu : Nat} {pos : Pos}

def isStar : Expr → Bool
  | .Starred .. => true
  | _ => false
def tyS : Ty → Str
  | .int => "int"
  | .bool => "bool"
  | .str => "str"
  | .tuple => "tuple"
  | .list => "list"
  | .dict => "dict"
theorem boot_ty (t : Ty) : bootBuiltins (tyS t) = some (.type (tyName t)) := by cases t <;> decide +kernel
theorem Cur.tyX {K : PySem.W.Frag} {G H : Hp} {v : V} {d : D} (c : Cur K G H v d) (s : Same G H) : TyX K H v (.type (dTy d)) := by
  rcases c with c | ⟨a, vs, xs, rfl, rfl, h1, h2⟩
  · exact c.ty s
  · exact .base (.lst h1)
theorem Cur.nodict {K : PySem.W.Frag} {G H : Hp} {v : V} {d : D} (c : Cur K G H v d) : ∀ l, d ≠ .dict l := by
  rcases c with c | ⟨a, vs, xs, rfl, rfl, h1, h2⟩
  · exact c.nodict
  · intro l e; cases e
theorem e_isi {e : Expr} {ie : IE} {t : Ty} {p0 p1 : Pos} (he : PE X e (tX X F ie)) (hg : Gl X "isinstance") (hm : X.mg "isinstance" = none) (hgt : Gl X (tyS t)) (hmt : X.mg (tyS t) = none) (hst : isStar e = false) :
    PE X (.Call (.Name "isinstance" p0) [e, .Name (tyS t) p1] [] pos) (tX X F (.isi ie [t])) := by
  have hty : PE X (.Name (tyS t) p1) (tC (.ty (tyName t))) := pe_bltn hgt hmt (boot_ty t) rfl (by cases t <;> decide) (by cases t <;> decide)
  have hs : ∀ es, starEach (e :: es) X.env = (false, eval e X.env) :: starEach es X.env := fun es => by cases e <;> first | rfl | (cases hst; done)
  refine pe_imp (pe_callB call_isi hg hm PyProof.Rows.boot_isinstance (pa_cons he (pa_cons hty pa_nil (by rfl)) (hs _)) (he := hs _) (hpl := by rfl)) fun σ H Q ⟨g, s, rv, s', hs, e, p⟩ => ?_
  simp only [evE, Option.bind_eq_some_iff, Option.map_eq_some_iff] at e
  obtain ⟨q, e1, d, e2, e3⟩ := e
  cases e3
  refine seq1 hs e1 fun v g1 H1 hs1 x1 r1 => ?_
  have c := r1.cur e2
  refine ⟨v, .ty (tyName t), .type (dTy d), .type (tyName t), isTy t d, rfl, .ty _, c.tyX hs1.same, kit_ty (kit_all t d c.nodict), ?_⟩
  have eb : ([t].any fun t => isTy t d) = isTy t d := by simp
  rw [← eb]
  exact p.same hs1 x1 (Den.bl _)
theorem star1 {e : Expr} (h : isStar e = false) (es : List Expr) (env : Env) : starEach (e :: es) env = (false, eval e env) :: starEach es env := by cases e <;> first | rfl | (cases h; done)
theorem rgV_dens {K : PySem.W.Frag} {G : Hp} (a b : Int) : Dens K G (rgV a b) (rngD a b) := by
  unfold rgV rngD
  generalize (b - a).toNat = n
  generalize List.range n = l
  induction l with
  | nil => exact .nil
  | cons x r ih => exact .cons (.int _) ih
theorem e_rngl2 {a b : Expr} {ia ib : IE} {p0 p1 pr : Pos} (ha : PE X a (tX X F ia)) (hb : PE X b (tX X F ib)) (hc : X.calm = true) (hg : Gl X "list") (hm : X.mg "list" = none) (hgr : Gl X "range") (hmr : X.mg "range" = none) (na : isStar a = false) (nb : isStar b = false) :
    PE X (.Call (.Name "list" p0) [.Call (.Name "range" p1) [a, b] [] pr] [] pos) (tX X F (.rngl ia ib)) := pe_imp (pe_listRg hc hg hm (prg_2 hgr hmr ha hb (star1 na _ _) (star1 nb _ _) (by rw [star1 nb]; rfl)) (by rfl)) fun σ H Q ⟨g, s, rv, s', hs, e, p⟩ => by
  simp only [evE, Option.bind_eq_some_iff] at e
  obtain ⟨q1, e1, q2, e2, i, e3, j, e4, e5⟩ := e
  split at e5
  · rename_i hz
    cases e5
    obtain ⟨z0, z3⟩ := (Bool.and_eq_true _ _).mp hz
    obtain ⟨z1, z2⟩ := (Bool.and_eq_true _ _).mp z0
    have z1 := small_spec z1
    have z2 := small_spec z2
    have z3 : (j - i).toNat ≤ LIM := of_decide_eq_true z3
    refine seq2 hs e1 e2 fun v w g2 H2 hs2 x2 r1 r2 => ?_
    rw [asI_eq e3] at r1
    rw [asI_eq e4] at r2
    refine ⟨i, j, rv_int r1, rv_int r2, ⟨by omega, by omega, by omega, by omega, ?_⟩, fun q hq => (p.fin hs2 x2).newL hs2.same (rgV_dens i j) q hq⟩
    have : LIM ≤ 2 ^ 24 := by decide
    omega
  · cases e5
theorem e_rngl1 {b : Expr} {ib : IE} {p0 p1 pr : Pos} (hb : PE X b (tX X F ib)) (hc : X.calm = true) (hg : Gl X "list") (hm : X.mg "list" = none) (hgr : Gl X "range") (hmr : X.mg "range" = none) (nb : isStar b = false) :
    PE X (.Call (.Name "list" p0) [.Call (.Name "range" p1) [b] [] pr] [] pos) (tX X F (.rngl (.con (.int 0)) ib)) := pe_imp (pe_listRg hc hg hm (prg_1 hgr hmr hb (star1 nb _ _)) (by rfl)) fun σ H Q ⟨g, s, rv, s', hs, e, p⟩ => by
  simp only [evE, Option.bind_eq_some_iff] at e
  obtain ⟨q1, e1, q2, e2, i, e3, j, e4, e5⟩ := e
  cases e1
  cases e3
  split at e5
  · rename_i hz
    cases e5
    obtain ⟨z0, z3⟩ := (Bool.and_eq_true _ _).mp hz
    obtain ⟨z1, z2⟩ := (Bool.and_eq_true _ _).mp z0
    have z2 := small_spec z2
    have z3 : (j - 0).toNat ≤ LIM := of_decide_eq_true z3
    refine seq1 hs e2 fun w g2 H2 hs2 x2 r2 => ?_
    rw [asI_eq e4] at r2
    refine ⟨j, rv_int r2, ⟨by omega, by omega, by omega, by omega, ?_⟩, fun q hq => (p.fin hs2 x2).newL hs2.same (rgV_dens 0 j) q hq⟩
    have : LIM ≤ 2 ^ 24 := by decide
    omega
  · cases e5
theorem e_sortedR {a : Expr} {ia : IE} {p0 kp cp : Pos} {j : Nat} (hu : X.A.units + 64 < cLine) (ha : PE X a (tX X F ia)) (hg : Gl X "sorted") (hm : X.mg "sorted" = none) (na : isStar a = false) :
    PE X (.Call (.Name "sorted" p0) [a] [⟨some "reverse", .Constant (.bool true) j cp, kp⟩] pos) (tX X F (.bi .sortedR (.cons ia .nil))) :=
  pe_imp (pe_callBK (call_SortedR hu) hg hm (by decide +kernel) (a_cons ha a_nil (star1 na _ _)) (pk_cons pe_bl pk_nil) (he := by rw [star1 na]; rfl) (hpl := by rw [star1 na]; rfl)) fun σ H Q ⟨g, s, rv, s', hs, e, p⟩ => by
    simp only [evE, Option.bind_eq_some_iff, Option.map_eq_some_iff] at e
    obtain ⟨q1, e1, xs, e2, r, e3, e4⟩ := e
    cases e4
    exact ⟨g, s, _, _, hs, e1, fun vs g1 H1 hs1 x1 r1 => ⟨rfl, g1.G, xs, _, hs1.same, r1.dens e2, e3, p.fin hs1 x1⟩⟩

structure Ct where
  N : List Str
  sc : Scope
  fn : Str → Bool
structure Tb where
  fs : List (Str × Nat)
  cs : List (Str × Int)
def idx (x : Str) : List Str → Option Nat
  | [] => none
  | y :: r => if y = x then some 0 else (idx x r).map (· + 1)
theorem idx_get {x : Str} : ∀ {l : List Str} {i : Nat}, idx x l = some i → l[i]? = some x
  | [], i, h => by cases h
  | y :: r, i, h => by
    unfold idx at h
    split at h
    · rename_i e
      cases h
      rw [e]; rfl
    · simp only [Option.map_eq_some_iff] at h
      obtain ⟨j, h1, rfl⟩ := h
      simpa using idx_get h1
def badN (x : Str) : Bool := (x == ("__debug__" : Str)) || (x == ("__classdict__" : Str)) || (x == ("__name__" : Str))
def slotOf (C : Ct) (x : Str) : Option Nat := if badN x then none else match C.sc.names.lookup x with
  | some .local => idx x C.N
  | some .cell => idx x C.N
  | some .free => idx x C.N
  | _ => none
def isGl (C : Ct) (x : Str) : Bool := !badN x && (match C.sc.names.lookup x with | some .globalImplicit => true | _ => false)
def stOf (C : Ct) (x : Str) : Option Nat := match C.sc.names.lookup x with
  | some .local => idx x C.N
  | some .cell => if C.fn x then idx x C.N else none
  | _ => none
def isLoc (C : Ct) (x : Str) : Bool := match C.sc.names.lookup x with | some .local => true | _ => false
def bnames : List Str := ["len", "max", "min", "sum", "all", "any", "sorted", "list", "tuple", "int", "abs", "repr", "range", "enumerate", "zip", "isinstance", "bool", "str", "dict", "set"]
def fIx (x : Str) : List (Str × Nat) → Option (Nat × Nat)
  | [] => none
  | (y, n) :: r => if y = x then some (0, n) else (fIx x r).map fun p => (p.1 + 1, p.2)

structure Ok (T : Tb) (F : CallT) (k : Nat) (C : Ct) (X : Cx) : Prop where
  N : X.N = C.N
  nd : X.N.Nodup
  sc : X.env.scope = C.sc
  fn : X.fn = C.fn
  calm : X.calm = true
  gd : X.A.guards = some []
  rm : Room k X.A
  bl : ∀ x ∈ bnames, X.mg x = none
  fns : ∀ x i n, fIx x T.fs = some (i, n) → ∃ fa fd ps, X.mg x = some (.ref fa) ∧ PySem.W.keepIn X.K (.ref fa) = true ∧ Binds X.K fd ps [] ∧ FnG X.prog X.w X.K X.mg X.base k fa fd ps (spF X.K F i n)
  cst : ∀ x i, T.cs.lookup x = some i → ∃ t, X.mg x = some (.int i t)
  xe : X.xe = fun _ _ => False
section
variable {T : Tb} {k : Nat} {C : Ct} {x : Str} {i : Nat}
theorem Ok.units (o : Ok T F k C X) : X.A.units + 64 < cLine := o.rm.units
theorem bad_parts (h : badN x = false) : (x == ("__debug__" : Str)) = false ∧ (x == ("__classdict__" : Str)) = false ∧ x ≠ "__name__" := by
  unfold badN at h
  simp only [Bool.or_eq_false_iff] at h
  exact ⟨h.1.1, h.1.2, fun e => by rw [e] at h; exact absurd h.2 (by decide)⟩
theorem slot_nm (o : Ok T F k C X) (h : slotOf C x = some i) : Nm X x i := by
  unfold slotOf at h
  split at h
  · cases h
  · rename_i hb
    have hb := bad_parts (by simpa using hb)
    have e : ∀ q, C.sc.names.lookup x = some q → X.env.scope.names.lookup x = some q := fun q e => by rw [o.sc]; exact e
    split at h
    · rename_i hl
      exact ⟨by rw [o.N]; exact idx_get h, .inl (e _ hl), hb.1, hb.2.1⟩
    · rename_i hl
      exact ⟨by rw [o.N]; exact idx_get h, .inr (.inl (e _ hl)), hb.1, hb.2.1⟩
    · rename_i hl
      exact ⟨by rw [o.N]; exact idx_get h, .inr (.inr (e _ hl)), hb.1, hb.2.1⟩
    · cases h
theorem gl_ok (o : Ok T F k C X) (h : isGl C x = true) : Gl X x ∧ (x == ("__debug__" : Str)) = false ∧ x ≠ "__name__" := by
  unfold isGl at h
  obtain ⟨h1, h2⟩ := (Bool.and_eq_true _ _).mp h
  have hb := bad_parts (by simpa using h1)
  refine ⟨?_, hb.1, hb.2.2⟩
  split at h2
  · rename_i hl
    show X.env.scope.names.lookup x = _
    rw [o.sc]; exact hl
  · cases h2
theorem st_sn (o : Ok T F k C X) (h : stOf C x = some i) : Sn X x i := by
  unfold stOf at h
  have e : ∀ q, C.sc.names.lookup x = some q → X.env.scope.names.lookup x = some q := fun q e => by rw [o.sc]; exact e
  split at h
  · rename_i hl
    exact ⟨o.nd, by rw [o.N]; exact idx_get h, .inl (e _ hl), .inr (e _ hl)⟩
  · rename_i hl
    split at h
    · rename_i hf
      exact ⟨o.nd, by rw [o.N]; exact idx_get h, .inr (e _ hl), .inl (by rw [o.fn]; exact hf)⟩
    · cases h
  · cases h
theorem loc_ok (o : Ok T F k C X) (h : isLoc C x = true) : X.env.scope.names.lookup x = some .local := by
  unfold isLoc at h
  rw [o.sc]
  split at h
  · assumption
  · cases h
def Ct.blk (C : Ct) (scope : Scope) : Ct := ⟨C.N, relS scope C.sc, fun x => scope.names.lookup x == some .cell⟩
theorem Ok.blk (o : Ok T F k C X) (scope : Scope) (s : Shared) (H : Hp) (A : Addr) (cl : List (Str × Addr)) (fp : List Addr) : Ok T F k (C.blk scope) (X.blk s H scope (compEnvC scope cl A X.env) fp) where
  N := o.N
  nd := o.nd
  sc := by
    show relabel scope X.env = relS scope C.sc
    rw [← o.sc]
    rfl
  fn := rfl
  calm := o.calm
  gd := o.gd
  rm := o.rm
  bl := o.bl
  fns := o.fns
  cst := o.cst
  xe := rfl
end
end Tl

namespace Tl
open PySem L2

def isSetE : Expr → Bool
  | .Set .. => true
  | _ => false
def isIfE : Expr → Bool
  | .IfExp .. => true
  | _ => false
def isSlE : Expr → Bool
  | .Slice .. => true
  | _ => false
def isCompE : Expr → Bool
  | .ListComp .. => true
  | .SetComp .. => true
  | .DictComp .. => true
  | _ => false
def isTupE : Expr → Bool
  | .Tuple .. => true
  | _ => false

def mapEs (f : Expr → Option IE) : List Expr → Option IEs
  | [] => some .nil
  | e :: r => if isStar e then none else (f e).bind fun a => (mapEs f r).map (.cons a)
def unStar : Expr → Option Expr
  | .Starred e _ => some e
  | _ => none
def mapXs (f : Expr → Option IE) : List Expr → Option IXs
  | [] => some .nil
  | e :: r => match unStar e with
    | some e' => (f e').bind fun a => (mapXs f r).map (.star a)
    | none => (f e).bind fun a => (mapXs f r).map (.cons a)
def isDcE : Expr → Bool
  | .DictComp .. => true
  | _ => false
def mapT (f : Expr → Option Tg) : List Expr → Option Tg
  | [] => some .nil
  | e :: r => if isStar e then none else (f e).bind fun a => (mapT f r).map (.cons a)
def cTg (C : Ct) : Nat → Expr → Option Tg
  | 0, _ => none
  | n + 1, e => match e with
    | .Name x _ => (stOf C x).map .n
    | .Tuple ts _ _ => mapT (cTg C n) ts
    | _ => none
def foldB (f : Expr → Option IE) (c : IE → IE → IE) : List Expr → Option IE
  | [] => none
  | e :: r => if isIfE e then none else match r with
    | [] => f e
    | _ :: _ => (f e).bind fun a => (foldB f c r).map (c a)
def biTab : List (Str × Nat × BI) := [("len", 1, .len), ("max", 2, .max2), ("max", 1, .maxL), ("min", 2, .min2), ("min", 1, .minL), ("min", 3, .min3), ("sum", 1, .sumL), ("all", 1, .allL), ("any", 1, .anyL), ("sorted", 1, .sorted), ("list", 1, .list), ("tuple", 1, .tuple), ("int", 1, .int1), ("abs", 1, .abs1), ("repr", 1, .repr)]
def biOf (f : Str) (n : Nat) : Option BI := (biTab.find? fun t => decide (t.1 = f) && decide (t.2.1 = n)).map (·.2.2)
def tyOf (x : Str) : Option Ty :=
  if x = "int" then some .int else if x = "bool" then some .bool else if x = "str" then some .str else if x = "tuple" then some .tuple else if x = "list" then some .list else if x = "dict" then some .dict else none
def ownOf (N : List Str) (scope : Scope) : List (Str × Nat) := scope.names.filterMap fun y => match y.2 with
  | .local => (idx y.1 N).map fun i => (y.1, i)
  | .cell => (idx y.1 N).map fun i => (y.1, i)
  | _ => none
def sub1 (l m : List Nat) : Bool := l.all fun i => m.contains i

def cNm (C : Ct) : Expr → Option Nat
  | .Name x _ => slotOf C x
  | _ => none
def cNil (C : Ct) : Expr → CmpOp → Expr → Option IE
  | .Name x _, .Eq, .List [] _ => (slotOf C x).map fun i => .nilv i false
  | .Name x _, .NotEq, .List [] _ => (slotOf C x).map fun i => .nilv i true
  | _, _, _ => none
def cIn (C : Ct) : CmpOp → Expr → Option (Nat × Bool)
  | .In, .Name x _ => (slotOf C x).map fun i => (i, false)
  | .NotIn, .Name x _ => (slotOf C x).map fun i => (i, true)
  | _, _ => none
def cLen (C : Ct) (f : Str) : List Expr → Option IE
  | [.Name x _] => if f = "len" then (slotOf C x).map .lenv else none
  | _ => none
def cIsi (C : Ct) (f : Str) : List Expr → Option (Expr × Ty)
  | [e, .Name t _] => if f = "isinstance" ∧ isGl C t = true then (tyOf t).map fun y => (e, y) else none
  | _ => none
def cRngl (C : Ct) (f : Str) : List Expr → Option (Option Expr × Expr)
  | [.Call (.Name r _) [b] [] _] => if f = "list" ∧ r = "range" ∧ isGl C r = true then some (none, b) else none
  | [.Call (.Name r _) [a, b] [] _] => if f = "list" ∧ r = "range" ∧ isGl C r = true then some (some a, b) else none
  | _ => none
def cSet (C : Ct) (f : Str) : List Expr → Option (BI × Expr)
  | [.Call (.Name r _) [a] [] _] => if r = "set" ∧ isGl C r = true ∧ isStar a = false then (if f = "len" then some (.lenSet, a) else if f = "sorted" then some (.sortSet, a) else none) else none
  | _ => none
def cImax (C : Ct) (x : Str) : List Expr → Bool
  | [.Call (.Name r _) [.Name y _] [] _] => decide (r = "max") && isGl C r && decide (y = x)
  | _ => false
def cIt (C : Ct) (tt : Bool) : Expr → Option (Nat × List Expr)
  | .Call (.Name f _) [a] [] _ => if isGl C f then (if f = "range" then some (0, [a]) else if f = "enumerate" ∧ tt = true then some (1, [a]) else none) else none
  | .Call (.Name f _) [a, b] [] _ => if isGl C f then (if f = "range" then some (0, [a, b]) else if f = "zip" ∧ tt = true then some (2, [a, b]) else none) else none
  | _ => none
mutual
def cE (T : Tb) : Nat → Ct → Expr → Option IE
  | 0, _, _ => none
  | n + 1, C, e => match e with
    | .Constant c _ _ => (match c with
      | .none => some (.con .none)
      | .bool b => some (.con (.bool b))
      | .int i => some (.con (.int i))
      | .str s => some (.con (.str s))
      | _ => none)
    | .Name x _ => (match slotOf C x with
      | some i => some (.var i)
      | none => if isGl C x then (T.cs.lookup x).map fun i => .con (.int i) else none)
    | .BinOp a op b _ => (cE T n C a).bind fun a => (cE T n C b).map fun b => .bin op a b
    | .UnaryOp .USub a _ => (cE T n C a).map .neg
    | .UnaryOp .Not a _ => if isIfE a then none else (cE T n C a).map .not_
    | .BoolOp .And es _ => foldB (cE T n C) .and_ es
    | .BoolOp .Or es _ => foldB (cE T n C) .or_ es
    | .IfExp c a b _ => if isIfE c then none else (cE T n C c).bind fun c => (cE T n C a).bind fun a => (cE T n C b).map fun b => .ite c a b
    | .Tuple es _ _ => (mapEs (cE T n C) es).bind fun l => if l.len ≤ LIM then some (.tup l) else none
    | .List es _ => if es.any isStar then (mapXs (cE T n C) es).map .lstx else (mapEs (cE T n C) es).bind fun l => if l.len ≤ LIM then some (.lst l) else none
    | .Dict [some k] [v] _ => (cE T n C k).bind fun k => (cE T n C v).map fun v => .dsp k v
    | .DictComp kx vx [⟨tg, it, ifs, a⟩] scope _ => if a = 0 then cDComp T n C kx vx tg it ifs scope else none
    | .Compare l [op] [r] _ => (match cNil C l op r with
      | some i => some i
      | none => (cE T n C l).bind fun a => (match cIn C op r with
        | some p => some (.inv a p.1 p.2)
        | none => if behindInMarks op r then none else (cE T n C r).map fun b => .cmp op a b))
    | .Compare l [op, op'] [b, c] _ => if lastMarks [op, op'] [b, c] then none else (cE T n C l).bind fun a => (cE T n C b).bind fun b => (cE T n C c).map fun c => .chain op op' a b c
    | .Subscript a (.Slice lo hi none _) _ => (cE T n C a).bind fun a => (cO T n C lo).bind fun l => (cO T n C hi).map fun h => .slice a l h
    | .Subscript a (.Slice none none (some (.UnaryOp .USub (.Constant (.int 1) _ _) _)) _) _ => (cE T n C a).map .rev
    | .Subscript a (.Slice (some b) none (some (.UnaryOp .USub (.Constant (.int 1) _ _) _)) _) _ => (cE T n C a).bind fun a => (cE T n C b).map fun b => .slb a b
    | .Subscript a (.Slice none (some b) (some (.UnaryOp .USub (.Constant (.int 1) _ _) _)) _) _ => (cE T n C a).bind fun a => (cE T n C b).map fun b => .sla a b
    | .Subscript a i _ => if isSlE i then none else (cE T n C i).bind fun i => (match cNm C a with
      | some x => some (.subv x i)
      | none => (cE T n C a).map fun a => .sub a i)
    | .Call (.Name f _) args kws _ => if isGl C f then (match kws with
      | [] => cCall T n C f args
      | [⟨some k, .Constant (.bool true) _ _, _⟩] => (match args with
        | [a] => if f = "sorted" ∧ k = "reverse" ∧ isStar a = false then (cE T n C a).map fun a => .bi .sortedR (.cons a .nil) else none
        | _ => none)
      | _ => none) else none
    | .Call (.Attribute (.Name x _) m pa) args [] pos => (match slotOf C x with
      | some i => if m = "pop" ∧ (pa.endLine == pos.line) = true then (match args with
        | [] => some (.pop0 i)
        | [e] => if isStar e then none else (cE T n C e).map (.pop1 i)
        | _ => none) else if m = "index" ∧ (pa.endLine == pos.line) = true then if cImax C x args then some (.imax i) else (match args with
        | [e] => if isStar e then none else (cE T n C e).map (.idx (.var i))
        | _ => none) else none
      | none => none)
    | .Call (.Attribute (.Call f (a0 :: ar) ks p1) m pa) [e] [] pos => if m = "index" ∧ (pa.endLine == pos.line) = true ∧ isStar e = false then (cE T n C (.Call f (a0 :: ar) ks p1)).bind fun a => (cE T n C e).map (.idx a) else none
    | .ListComp elt [⟨tg, it, ifs, a⟩] scope _ => if a = 0 then cComp T n C elt tg it ifs scope else none
    | _ => none
def cO (T : Tb) : Nat → Ct → Option Expr → Option IO
  | _, _, none => some .no
  | 0, _, some _ => none
  | n + 1, C, some e => (cE T n C e).map .so
def cCall (T : Tb) : Nat → Ct → Str → List Expr → Option IE
  | 0, _, _, _ => none
  | n + 1, C, f, args => match cLen C f args with
    | some i => some i
    | none => (match cSet C f args with
    | some p => (cE T n C p.2).map fun a => .bi p.1 (.cons a .nil)
    | none => (match cIsi C f args with
      | some p => if isStar p.1 then none else (cE T n C p.1).map fun a => .isi a [p.2]
      | none => (match cRngl C f args with
        | some (some a, b) => if isStar a || isStar b then none else (cE T n C a).bind fun a => (cE T n C b).map fun b => .rngl a b
        | some (none, b) => if isStar b then none else (cE T n C b).map fun b => .rngl (.con (.int 0)) b
        | none => (match biOf f args.length with
          | some b => (mapEs (cE T n C) args).map fun l => .bi b l
          | none => (fIx f T.fs).bind fun p => (mapEs (cE T n C) args).bind fun l => if l.len = p.2 ∧ 0 < p.2 then some (.call p.1 l) else none))))
def cI (T : Tb) : Nat → Ct → Bool → Expr → Option II
  | 0, _, _, _ => none
  | n + 1, C, tt, it => if isSetE it then none else (match cIt C tt it with
    | some (0, args) => (mapEs (cE T n C) args).map .rng
    | some (1, args) => (mapEs (cE T n C) args).map .enum
    | some (_, args) => (mapEs (cE T n C) args).map .zip
    | none => (cE T n C it).map .seq)
def cComp (T : Tb) : Nat → Ct → Expr → Expr → Expr → List Expr → Scope → Option IE
  | 0, _, _, _, _, _, _ => none
  | n + 1, C, elt, tg, it, ifs, scope => (cI T n C (isTupE tg) it).bind fun ii => (cTg (C.blk scope) n tg).bind fun t => (cIfs T n (C.blk scope) ifs).bind fun io => (cE T n (C.blk scope) elt).bind fun ie =>
      if blkC C.N C.sc scope (ownOf C.N scope) && sub1 t.nms ((ownOf C.N scope).map (·.2)) then some (.comp ie t ii io ((ownOf C.N scope).map (·.2))) else none
def cDComp (T : Tb) : Nat → Ct → Expr → Expr → Expr → Expr → List Expr → Scope → Option IE
  | 0, _, _, _, _, _, _, _ => none
  | n + 1, C, kx, vx, tg, it, ifs, scope => (cI T n C (isTupE tg) it).bind fun ii => (cTg (C.blk scope) n tg).bind fun t => (cIfs T n (C.blk scope) ifs).bind fun io => (cE T n (C.blk scope) kx).bind fun ke => (cE T n (C.blk scope) vx).bind fun ie =>
      if blkC C.N C.sc scope (ownOf C.N scope) && sub1 t.nms ((ownOf C.N scope).map (·.2)) then some (.dcomp ke ie t ii io ((ownOf C.N scope).map (·.2))) else none
def cIfs (T : Tb) : Nat → Ct → List Expr → Option IO
  | _, _, [] => some .no
  | 0, _, _ :: _ => none
  | n + 1, C, [c] => if isIfE c then none else (cE T n C c).map .so
  | _ + 1, _, _ :: _ :: _ => none
end
end Tl

namespace Tl
open PySem L2
variable {F : CallT} {fu : Nat} {T : Tb} {k : Nat}

theorem each1 {t : Expr} (h : isStar t = false) (ts : List Expr) (env : Env) : assignEach (t :: ts) env = (false, assign t env) :: assignEach ts env := by cases t <;> first | rfl | (cases h; done)
theorem any_star {X : Cx} {f : Expr → Option IE} (pos : Pos) : ∀ {es : List Expr} {l : IEs}, mapEs f es = some l → (backTo pos (starEach es X.env)).any (·.1) = false
  | [], _, _ => rfl
  | e :: r, l, h => by
    unfold mapEs at h
    split at h
    · cases h
    · rename_i hs
      simp only [Option.bind_eq_some_iff, Option.map_eq_some_iff] at h
      obtain ⟨a, _, l', h2, _⟩ := h
      rw [star1 (by simpa using hs)]
      have ih := any_star (X := X) pos h2
      unfold backTo at ih ⊢
      rw [List.map_cons, List.any_cons, ih]
      rfl
theorem mapEs_len {f : Expr → Option IE} : ∀ {es : List Expr} {l : IEs}, mapEs f es = some l → l.len = es.length
  | [], _, h => by cases h; rfl
  | e :: r, l, h => by
    unfold mapEs at h
    split at h
    · cases h
    · simp only [Option.bind_eq_some_iff, Option.map_eq_some_iff] at h
      obtain ⟨a, _, l', h2, rfl⟩ := h
      show l'.len + 1 = r.length + 1
      rw [mapEs_len h2]
theorem mapEs_pa {X : Cx} {f : Expr → Option IE} (hf : ∀ e ir, f e = some ir → PE X e (tX X F ir)) : ∀ {es : List Expr} {l : IEs}, mapEs f es = some l → PA X es (tAs X.K F l)
  | [], _, h => by cases h; exact a_nil
  | e :: r, l, h => by
    unfold mapEs at h
    split at h
    · cases h
    · rename_i hs
      simp only [Option.bind_eq_some_iff, Option.map_eq_some_iff] at h
      obtain ⟨a, h1, l', h2, rfl⟩ := h
      exact a_cons (hf e a h1) (mapEs_pa hf h2) (star1 (by simpa using hs) _ _)
theorem mapEs_pp {X : Cx} {f : Expr → Option IE} (hf : ∀ e ir, f e = some ir → PE X e (tX X F ir)) : ∀ {es : List Expr} {l : IEs}, mapEs f es = some l → PA X es (tPs X.K F l)
  | [], _, h => by cases h; exact p_nil
  | e :: r, l, h => by
    unfold mapEs at h
    split at h
    · cases h
    · rename_i hs
      simp only [Option.bind_eq_some_iff, Option.map_eq_some_iff] at h
      obtain ⟨a, h1, l', h2, rfl⟩ := h
      exact p_cons (hf e a h1) (mapEs_pp hf h2) (star1 (by simpa using hs) _ _)
theorem mapXs_pa {X : Cx} {f : Expr → Option IE} (hf : ∀ e ir, f e = some ir → PE X e (tX X F ir)) : ∀ {es : List Expr} {l : IXs}, mapXs f es = some l → PA X es (tXs X.K F l)
  | [], _, h => by cases h; exact x_nil
  | e :: r, l, h => by
    unfold mapXs at h
    split at h
    · rename_i e' hs
      simp only [Option.bind_eq_some_iff, Option.map_eq_some_iff] at h
      obtain ⟨a, h1, l', h2, rfl⟩ := h
      cases e <;> first | (cases hs; done) | skip
      cases hs
      exact x_star (hf _ a h1) (mapXs_pa hf h2) rfl
    · rename_i hs
      simp only [Option.bind_eq_some_iff, Option.map_eq_some_iff] at h
      obtain ⟨a, h1, l', h2, rfl⟩ := h
      exact x_cons (hf e a h1) (mapXs_pa hf h2) (star1 (by cases e <;> first | rfl | (cases hs; done)) _ _)
theorem mapEs_star {f : Expr → Option IE} {e : Expr} {r : List Expr} {l : IEs} (h : mapEs f (e :: r) = some l) : isStar e = false := by
  unfold mapEs at h
  split at h
  · cases h
  · rename_i hs
    simpa using hs

theorem mapT_pgs {X : Cx} {f : Expr → Option Tg} (hf : ∀ e t, f e = some t → PG X e (tG X.K t)) : ∀ {es : List Expr} {t : Tg}, mapT f es = some t → PGs X es (tGs X.K t) ∧ t.cnt = some es.length ∧ (assignEach es X.env).length = es.length ∧ (assignEach es X.env).findIdx? (·.1) = none
  | [], _, h => by
    cases h
    exact ⟨gs_nil, rfl, rfl, rfl⟩
  | e :: r, t, h => by
    unfold mapT at h
    split at h
    · cases h
    · rename_i hs
      have hs : isStar e = false := by simpa using hs
      simp only [Option.bind_eq_some_iff, Option.map_eq_some_iff] at h
      obtain ⟨a, h1, t', h2, rfl⟩ := h
      obtain ⟨k1, k2, k3, k4⟩ := mapT_pgs hf h2
      refine ⟨gs_cons (hf e a h1) k1 (by rw [each1 hs]; rfl), by simp [Tg.cnt, k2], by rw [each1 hs, List.length_cons, List.length_cons, k3], ?_⟩
      rw [each1 hs, List.findIdx?_cons]
      simp only [Bool.false_eq_true, if_false, k4, Option.map_none]
theorem tg_ok {C : Ct} {X : Cx} (o : Ok T F k C X) : ∀ (n : Nat) (e : Expr) (t : Tg), cTg C n e = some t → PG X e (tG X.K t)
  | 0, _, _, h => by cases h
  | n + 1, e, t, h => by
    unfold cTg at h
    split at h
    · simp only [Option.map_eq_some_iff] at h
      obtain ⟨i, h1, rfl⟩ := h
      have s := st_sn o h1
      exact g_name s.nd s.at_ s.loc s.fn
    · obtain ⟨k1, k2, k3, k4⟩ := mapT_pgs (fun e t h => tg_ok o n e t h) h
      exact g_tup o.calm k1 k2 k3 k4
    · cases h

structure CompOk (X : Cx) (F : CallT) (elt tg it : Expr) (ifs : List Expr) (scope : Scope) (ir : IE) : Prop where
  ex : ∃ ie t ii io own, ir = .comp ie t ii io (own.map (·.2)) ∧ PI X tg it (tI X.K F ii) ∧ BlkOk X.N X.env.scope scope own ∧ (∀ i ∈ t.nms, i ∈ own.map (·.2)) ∧
    (∀ (s : Shared) (H : Hp) (A : Addr) (cl : List (Str × Addr)) (fp : List Addr), PG (X.blk s H scope (compEnvC scope cl A X.env) fp) tg (tG X.K t)) ∧
    (∀ (s : Shared) (H : Hp) (A : Addr) (cl : List (Str × Addr)) (fp : List Addr), PTs (X.blk s H scope (compEnvC scope cl A X.env) fp) ifs (tTs X.K F io)) ∧
    (∀ (s : Shared) (H : Hp) (A : Addr) (cl : List (Str × Addr)) (fp : List Addr), PE (X.blk s H scope (compEnvC scope cl A X.env) fp) elt (tE X.K F ie)) ∧ isSetE it = false
structure DCompOk (X : Cx) (F : CallT) (kx vx tg it : Expr) (ifs : List Expr) (scope : Scope) (ir : IE) : Prop where
  ex : ∃ ke ie t ii io own, ir = .dcomp ke ie t ii io (own.map (·.2)) ∧ PI X tg it (tI X.K F ii) ∧ BlkOk X.N X.env.scope scope own ∧ (∀ i ∈ t.nms, i ∈ own.map (·.2)) ∧
    (∀ (s : Shared) (H : Hp) (A : Addr) (cl : List (Str × Addr)) (fp : List Addr), PG (X.blk s H scope (compEnvC scope cl A X.env) fp) tg (tG X.K t)) ∧
    (∀ (s : Shared) (H : Hp) (A : Addr) (cl : List (Str × Addr)) (fp : List Addr), PTs (X.blk s H scope (compEnvC scope cl A X.env) fp) ifs (tTs X.K F io)) ∧
    (∀ (s : Shared) (H : Hp) (A : Addr) (cl : List (Str × Addr)) (fp : List Addr), PE (X.blk s H scope (compEnvC scope cl A X.env) fp) kx (tE X.K F ke)) ∧
    (∀ (s : Shared) (H : Hp) (A : Addr) (cl : List (Str × Addr)) (fp : List Addr), PE (X.blk s H scope (compEnvC scope cl A X.env) fp) vx (tE X.K F ie)) ∧ isSetE it = false
def SDComp (T : Tb) (F : CallT) (k n : Nat) : Prop := ∀ (C : Ct) (X : Cx) (kx vx tg it : Expr) (ifs : List Expr) (scope : Scope) (ir : IE), Ok T F k C X → cDComp T n C kx vx tg it ifs scope = some ir → DCompOk X F kx vx tg it ifs scope ir
def SE (T : Tb) (F : CallT) (k n : Nat) : Prop := ∀ (C : Ct) (X : Cx) (e : Expr) (ir : IE), Ok T F k C X → cE T n C e = some ir → PE X e (tX X F ir) ∧ (isIfE e = false → PT X e (tXT X F ir))
def SO (T : Tb) (F : CallT) (k n : Nat) : Prop := ∀ (C : Ct) (X : Cx) (e : Option Expr) (ir : IO), Ok T F k C X → cO T n C e = some ir → PO X e (tO X.K F ir)
def SCall (T : Tb) (F : CallT) (k n : Nat) : Prop := ∀ (C : Ct) (X : Cx) (f : Str) (args : List Expr) (ir : IE) (p0 pos : Pos), Ok T F k C X → isGl C f = true → cCall T n C f args = some ir → PE X (.Call (.Name f p0) args [] pos) (tX X F ir)
def SI (T : Tb) (F : CallT) (k n : Nat) : Prop := ∀ (C : Ct) (X : Cx) (tg it : Expr) (ii : II), Ok T F k C X → cI T n C (isTupE tg) it = some ii → PI X tg it (tI X.K F ii) ∧ isSetE it = false
def SComp (T : Tb) (F : CallT) (k n : Nat) : Prop := ∀ (C : Ct) (X : Cx) (elt tg it : Expr) (ifs : List Expr) (scope : Scope) (ir : IE), Ok T F k C X → cComp T n C elt tg it ifs scope = some ir → CompOk X F elt tg it ifs scope ir
def SIfs (T : Tb) (F : CallT) (k n : Nat) : Prop := ∀ (C : Ct) (X : Cx) (ifs : List Expr) (io : IO), Ok T F k C X → cIfs T n C ifs = some io → PTs X ifs (tTs X.K F io)

theorem fold_ok {X : Cx} {it : Expr} (h : isSetE it = false) (x : Value) : foldedSetIterable it X.env x = pure x := by cases it <;> first | rfl | (cases h; done)
theorem step_O {n : Nat} (h : SE T F k n) : SO T F k (n + 1) := fun C X e ir o h1 => by
  cases e with
  | none =>
    cases h1
    exact o_no
  | some e =>
    simp only [cO, Option.map_eq_some_iff] at h1
    obtain ⟨ie, h2, rfl⟩ := h1
    exact o_so (h C X e ie o h2).1
theorem step_Ifs {n : Nat} (h : SE T F k n) : SIfs T F k (n + 1) := fun C X ifs io o h1 => by
  match ifs, h1 with
  | [], h1 =>
    cases h1
    exact ts_nil
  | [c], h1 =>
    simp only [cIfs] at h1
    split at h1
    · cases h1
    · rename_i hi
      simp only [Option.map_eq_some_iff] at h1
      obtain ⟨ic, h2, rfl⟩ := h1
      exact ts_one ((h C X c ic o h2).2 (by simpa using hi))
  | _ :: _ :: _, h1 => cases h1
theorem cIt_shape {C : Ct} {tt : Bool} {it : Expr} {m : Nat} {args : List Expr} (h : cIt C tt it = some (m, args)) :
    (∃ p q a, it = .Call (.Name "range" p) [a] [] q ∧ m = 0 ∧ args = [a] ∧ isGl C "range" = true) ∨ (∃ p q a b, it = .Call (.Name "range" p) [a, b] [] q ∧ m = 0 ∧ args = [a, b] ∧ isGl C "range" = true) ∨
    (∃ p q a, it = .Call (.Name "enumerate" p) [a] [] q ∧ m = 1 ∧ args = [a] ∧ isGl C "enumerate" = true ∧ tt = true) ∨ (∃ p q a b, it = .Call (.Name "zip" p) [a, b] [] q ∧ m = 2 ∧ args = [a, b] ∧ isGl C "zip" = true ∧ tt = true) := by
  unfold cIt at h
  split at h
  · split at h
    · rename_i hg
      split at h
      · rename_i e
        cases h
        subst e
        exact .inl ⟨_, _, _, rfl, rfl, rfl, hg⟩
      · split at h
        · rename_i e
          cases h
          obtain ⟨rfl, ht⟩ := e
          exact .inr (.inr (.inl ⟨_, _, _, rfl, rfl, rfl, hg, ht⟩))
        · cases h
    · cases h
  · split at h
    · rename_i hg
      split at h
      · rename_i e
        cases h
        subst e
        exact .inr (.inl ⟨_, _, _, _, rfl, rfl, rfl, hg⟩)
      · split at h
        · rename_i e
          cases h
          obtain ⟨rfl, ht⟩ := e
          exact .inr (.inr (.inr ⟨_, _, _, _, rfl, rfl, rfl, hg, ht⟩))
        · cases h
    · cases h
  · cases h
theorem step_I {n : Nat} (h : SE T F k n) : SI T F k (n + 1) := fun C X tg it ii o h1 => by
  simp only [cI] at h1
  split at h1
  · cases h1
  · rename_i hset
    refine ⟨?_, by simpa using hset⟩
    have he : ∀ e ir, cE T n C e = some ir → PE X e (tX X F ir) := fun e ir z => (h C X e ir o z).1
    split at h1
    · rename_i args hc
      simp only [Option.map_eq_some_iff] at h1
      obtain ⟨l, h2, rfl⟩ := h1
      have pa := mapEs_pa he h2
      have ln := mapEs_len h2
      rcases cIt_shape hc with ⟨p, q, a, rfl, -, rfl, hg⟩ | ⟨p, q, a, b, rfl, -, rfl, hg⟩ | ⟨_, _, _, _, z, _⟩ | ⟨_, _, _, _, _, z, _⟩
      · exact i_rng1 (gl_ok o hg).1 (o.bl _ (by decide)) pa (star1 (mapEs_star h2) _ _) ln
      · have hb : isStar b = false := by
          unfold mapEs at h2
          split at h2
          · cases h2
          · simp only [Option.bind_eq_some_iff, Option.map_eq_some_iff] at h2
            obtain ⟨_, _, _, h3, _⟩ := h2
            exact mapEs_star h3
        exact i_rng2 (gl_ok o hg).1 (o.bl _ (by decide)) pa (by rw [star1 (mapEs_star h2), star1 hb]; rfl) (star1 hb _ _) ln
      · cases z
      · cases z
    · rename_i args hc
      simp only [Option.map_eq_some_iff] at h1
      obtain ⟨l, h2, rfl⟩ := h1
      have pa := mapEs_pa he h2
      rcases cIt_shape hc with ⟨_, _, _, _, z, _⟩ | ⟨_, _, _, _, _, z, _⟩ | ⟨p, q, a, rfl, -, rfl, hg, ht⟩ | ⟨_, _, _, _, _, z, _⟩
      · cases z
      · cases z
      · cases tg <;> first | (cases ht; done) | exact i_enum (gl_ok o hg).1 (o.bl _ (by decide)) pa (star1 (mapEs_star h2) _ _)
      · cases z
    · rename_i m args z0 z1 hc
      simp only [Option.map_eq_some_iff] at h1
      obtain ⟨l, h2, rfl⟩ := h1
      have pa := mapEs_pa he h2
      rcases cIt_shape hc with ⟨_, _, _, _, z, _⟩ | ⟨_, _, _, _, _, z, _⟩ | ⟨_, _, _, _, z, _⟩ | ⟨p, q, a, b, rfl, -, rfl, hg, ht⟩
      · exact absurd z z0
      · exact absurd z z0
      · exact absurd z z1
      · have h3 : ∃ l', mapEs (cE T n C) [b] = some l' := by
          unfold mapEs at h2
          split at h2
          · cases h2
          · simp only [Option.bind_eq_some_iff, Option.map_eq_some_iff] at h2
            obtain ⟨_, _, l', h3, _⟩ := h2
            exact ⟨l', h3⟩
        obtain ⟨l', h3⟩ := h3
        cases tg <;> first | (cases ht; done) | exact i_zip (gl_ok o hg).1 (o.bl _ (by decide)) pa (star1 (mapEs_star h2) _ _) (any_star _ h3)
    · simp only [Option.map_eq_some_iff] at h1
      obtain ⟨ie, h2, rfl⟩ := h1
      exact i_seq (he it ie h2)
theorem step_Comp {n : Nat} (h : SE T F k n) (hI : SI T F k n) (hF : SIfs T F k n) : SComp T F k (n + 1) := fun C X elt tg it ifs scope ir o h1 => by
  simp only [cComp, Option.bind_eq_some_iff] at h1
  obtain ⟨ii, h2, t, h3, io, h4, ie, h5, h6⟩ := h1
  split at h6
  · rename_i hz
    cases h6
    obtain ⟨z1, z2⟩ := (Bool.and_eq_true _ _).mp hz
    have hi := hI C X tg it ii o h2
    refine ⟨ie, t, ii, io, ownOf C.N scope, rfl, hi.1, ?_, fun i hi => ?_, fun s H A cl fp => tg_ok (o.blk scope s H A cl fp) n tg t h3, fun s H A cl fp => hF _ _ ifs io (o.blk scope s H A cl fp) h4, fun s H A cl fp => (h _ _ elt ie (o.blk scope s H A cl fp) h5).1, hi.2⟩
    · rw [o.N, o.sc]
      exact blkOk_by z1
    · have := List.all_eq_true.mp z2 i hi
      exact List.contains_iff_mem.mp this
  · cases h6
theorem step_DComp {n : Nat} (h : SE T F k n) (hI : SI T F k n) (hF : SIfs T F k n) : SDComp T F k (n + 1) := fun C X kx vx tg it ifs scope ir o h1 => by
  simp only [cDComp, Option.bind_eq_some_iff] at h1
  obtain ⟨ii, h2, t, h3, io, h4, ke, h7, ie, h5, h6⟩ := h1
  split at h6
  · rename_i hz
    cases h6
    obtain ⟨z1, z2⟩ := (Bool.and_eq_true _ _).mp hz
    have hi := hI C X tg it ii o h2
    refine ⟨ke, ie, t, ii, io, ownOf C.N scope, rfl, hi.1, ?_, fun i hi => ?_, fun s H A cl fp => tg_ok (o.blk scope s H A cl fp) n tg t h3, fun s H A cl fp => hF _ _ ifs io (o.blk scope s H A cl fp) h4, fun s H A cl fp => (h _ _ kx ke (o.blk scope s H A cl fp) h7).1, fun s H A cl fp => (h _ _ vx ie (o.blk scope s H A cl fp) h5).1, hi.2⟩
    · rw [o.N, o.sc]
      exact blkOk_by z1
    · have := List.all_eq_true.mp z2 i hi
      exact List.contains_iff_mem.mp this
  · cases h6
end Tl

namespace Tl
open PySem L2
variable {F : CallT} {fu : Nat} {T : Tb} {k : Nat}

def BiOk (X : Cx) (t : Str × Nat × BI) : Prop := t.1 ∈ bnames ∧ 0 < t.2.1 ∧ ((∃ id, bootBuiltins t.1 = some (.builtin id) ∧ CallR X (.builtin id) (rB X.K t.2.2)) ∨ ∃ id, bootBuiltins t.1 = some (.type id) ∧ CallR X (.type id) (rB X.K t.2.2))
inductive AllP {α : Type} (P : α → Prop) : List α → Prop
  | nil : AllP P []
  | cons {a : α} {r : List α} : P a → AllP P r → AllP P (a :: r)
theorem AllP.get {α : Type} {P : α → Prop} : ∀ {l : List α} {a : α}, AllP P l → a ∈ l → P a
  | _, _, .nil, h => by cases h
  | _, _, .cons p r, h => (List.mem_cons.mp h).elim (fun e => e ▸ p) r.get
theorem bi_all {C : Ct} {X : Cx} (o : Ok T F k C X) : AllP (BiOk X) biTab :=
  .cons ⟨by decide, by decide, .inl ⟨"len", by decide +kernel, call_Len⟩⟩ (.cons ⟨by decide, by decide, .inl ⟨"max", by decide +kernel, call_Max2 o.calm⟩⟩ (.cons ⟨by decide, by decide, .inl ⟨"max", by decide +kernel, call_MaxL o.calm o.units⟩⟩ (.cons ⟨by decide, by decide, .inl ⟨"min", by decide +kernel, call_Min2 o.calm⟩⟩ (.cons ⟨by decide, by decide, .inl ⟨"min", by decide +kernel, call_MinL o.calm o.units⟩⟩ (.cons ⟨by decide, by decide, .inl ⟨"min", by decide +kernel, call_Min3 o.calm⟩⟩ (.cons ⟨by decide, by decide, .inl ⟨"sum", by decide +kernel, call_Sum o.calm⟩⟩ (.cons ⟨by decide, by decide, .inl ⟨"all", by decide +kernel, call_All o.calm⟩⟩ (.cons ⟨by decide, by decide, .inl ⟨"any", by decide +kernel, call_Any o.calm⟩⟩ (.cons ⟨by decide, by decide, .inl ⟨"sorted", by decide +kernel, call_Sorted o.units⟩⟩ (.cons ⟨by decide, by decide, .inr ⟨"list", by decide +kernel, call_List⟩⟩ (.cons ⟨by decide, by decide, .inr ⟨"tuple", by decide +kernel, call_Tuple⟩⟩ (.cons ⟨by decide, by decide, .inr ⟨"int", by decide +kernel, call_Int⟩⟩ (.cons ⟨by decide, by decide, .inl ⟨"abs", by decide +kernel, call_Abs⟩⟩ (.cons ⟨by decide, by decide, .inl ⟨"repr", by decide +kernel, call_Repr o.gd o.units⟩⟩ (.nil)))))))))))))))
theorem bi_rule {C : Ct} {X : Cx} (o : Ok T F k C X) {f : Str} {m : Nat} {b : BI} (h : biOf f m = some b) :
    f ∈ bnames ∧ 0 < m ∧ ((∃ id, bootBuiltins f = some (.builtin id) ∧ CallR X (.builtin id) (rB X.K b)) ∨ ∃ t, bootBuiltins f = some (.type t) ∧ CallR X (.type t) (rB X.K b)) := by
  obtain ⟨t, h1, rfl⟩ := Option.map_eq_some_iff.mp h
  have q := (bi_all o).get (List.mem_of_find?_eq_some h1)
  have c := List.find?_some h1
  obtain ⟨c1, c2⟩ := (Bool.and_eq_true _ _).mp c
  have c1 := of_decide_eq_true c1
  have c2 := of_decide_eq_true c2
  subst c1 c2
  exact q
theorem tyOf_eq {x : Str} {t : Ty} (h : tyOf x = some t) : x = tyS t := by
  unfold tyOf at h
  split at h
  · cases h; assumption
  split at h
  · cases h; assumption
  split at h
  · cases h; assumption
  split at h
  · cases h; assumption
  split at h
  · cases h; assumption
  split at h
  · cases h; assumption
  · cases h
theorem ty_bn (t : Ty) : tyS t ∈ bnames := by cases t <;> decide
theorem cLen_shape {C : Ct} {f : Str} {args : List Expr} {ir : IE} (h : cLen C f args = some ir) : ∃ x p i, args = [.Name x p] ∧ f = "len" ∧ slotOf C x = some i ∧ ir = .lenv i := by
  unfold cLen at h
  split at h
  · split at h
    · rename_i e
      simp only [Option.map_eq_some_iff] at h
      obtain ⟨i, h1, rfl⟩ := h
      exact ⟨_, _, i, rfl, e, h1, rfl⟩
    · cases h
  · cases h
theorem cIsi_shape {C : Ct} {f : Str} {args : List Expr} {q : Expr × Ty} (h : cIsi C f args = some q) : ∃ p, args = [q.1, .Name (tyS q.2) p] ∧ f = "isinstance" ∧ isGl C (tyS q.2) = true := by
  unfold cIsi at h
  split at h
  · split at h
    · rename_i e
      obtain ⟨e1, e2⟩ := e
      simp only [Option.map_eq_some_iff] at h
      obtain ⟨y, h1, rfl⟩ := h
      have := tyOf_eq h1
      subst this
      exact ⟨_, rfl, e1, e2⟩
    · cases h
  · cases h
theorem cRngl_shape {C : Ct} {f : Str} {args : List Expr} {o : Option Expr} {b : Expr} (h : cRngl C f args = some (o, b)) :
    f = "list" ∧ isGl C "range" = true ∧ ((∃ p q, o = none ∧ args = [.Call (.Name "range" p) [b] [] q]) ∨ ∃ a p q, o = some a ∧ args = [.Call (.Name "range" p) [a, b] [] q]) := by
  unfold cRngl at h
  split at h
  · split at h
    · rename_i e
      obtain ⟨e1, rfl, e3⟩ := e
      cases h
      exact ⟨e1, e3, .inl ⟨_, _, rfl, rfl⟩⟩
    · cases h
  · split at h
    · rename_i e
      obtain ⟨e1, rfl, e3⟩ := e
      cases h
      exact ⟨e1, e3, .inr ⟨_, _, _, rfl, rfl⟩⟩
    · cases h
  · cases h
theorem cSet_shape {C : Ct} {f : Str} {args : List Expr} {q : BI × Expr} (h : cSet C f args = some q) : ∃ a p p', args = [.Call (.Name "set" p) [a] [] p'] ∧ isGl C "set" = true ∧ isStar a = false ∧ ((f = "len" ∧ q = (.lenSet, a)) ∨ (f = "sorted" ∧ q = (.sortSet, a))) := by
  unfold cSet at h
  split at h
  · split at h
    · rename_i e
      obtain ⟨rfl, e2, e3⟩ := e
      split at h
      · rename_i ef
        cases h
        exact ⟨_, _, _, rfl, e2, e3, .inl ⟨ef, rfl⟩⟩
      · split at h
        · rename_i ef
          cases h
          exact ⟨_, _, _, rfl, e2, e3, .inr ⟨ef, rfl⟩⟩
        · cases h
    · cases h
  · cases h
theorem cImax_shape {C : Ct} {x : Str} {args : List Expr} (h : cImax C x args = true) : ∃ p q p', args = [.Call (.Name "max" p) [.Name x q] [] p'] ∧ isGl C "max" = true := by
  unfold cImax at h
  split at h
  · obtain ⟨h1, h2⟩ := (Bool.and_eq_true _ _).mp h
    obtain ⟨h3, h4⟩ := (Bool.and_eq_true _ _).mp h1
    have h3 := of_decide_eq_true h3
    have h2 := of_decide_eq_true h2
    subst h3 h2
    exact ⟨_, _, _, rfl, h4⟩
  · cases h
theorem step_Call {n : Nat} (h : SE T F k n) : SCall T F k (n + 1) := fun C X f args ir p0 pos o hg h1 => by
  have he : ∀ e ir, cE T n C e = some ir → PE X e (tX X F ir) := fun e ir z => (h C X e ir o z).1
  have hg' := gl_ok o hg
  simp only [cCall] at h1
  split at h1
  · rename_i i hc
    cases h1
    obtain ⟨x, p, i, rfl, rfl, h2, rfl⟩ := cLen_shape hc
    exact e_lenv (slot_nm o h2) hg'.1 (o.bl _ (by decide))
  · split at h1
    · rename_i q hc
      simp only [Option.map_eq_some_iff] at h1
      obtain ⟨ia, h2, rfl⟩ := h1
      obtain ⟨a, p, q', rfl, h3, h4, ⟨rfl, rfl⟩ | ⟨rfl, rfl⟩⟩ := cSet_shape hc
      · exact e_lenSet o.calm o.units hg'.1 (o.bl _ (by decide)) (gl_ok o h3).1 (o.bl _ (by decide)) (he _ _ h2) (star1 h4 _ _)
      · exact e_sortSet o.calm o.units hg'.1 (o.bl _ (by decide)) (gl_ok o h3).1 (o.bl _ (by decide)) (he _ _ h2) (star1 h4 _ _)
    · split at h1
      · rename_i q hc
        split at h1
        · cases h1
        · rename_i hs
          simp only [Option.map_eq_some_iff] at h1
          obtain ⟨ia, h2, rfl⟩ := h1
          obtain ⟨p, rfl, rfl, h3⟩ := cIsi_shape hc
          exact e_isi (he _ _ h2) hg'.1 (o.bl _ (by decide)) (gl_ok o h3).1 (o.bl _ (ty_bn _)) (by simpa using hs)
      · split at h1
        · rename_i a b hc
          obtain ⟨rfl, h3, ⟨_, _, z, _⟩ | ⟨a', p, q, z, rfl⟩⟩ := cRngl_shape hc
          · cases z
          · cases z
            split at h1
            · cases h1
            · rename_i hs
              obtain ⟨s1, s2⟩ := Bool.or_eq_false_iff.mp (by simpa using hs)
              simp only [Option.bind_eq_some_iff, Option.map_eq_some_iff] at h1
              obtain ⟨ia, h2, ib, h4, rfl⟩ := h1
              exact e_rngl2 (he _ _ h2) (he _ _ h4) o.calm hg'.1 (o.bl _ (by decide)) (gl_ok o h3).1 (o.bl _ (by decide)) s1 s2
        · rename_i b hc
          obtain ⟨rfl, h3, ⟨p, q, z, rfl⟩ | ⟨_, _, _, z, _⟩⟩ := cRngl_shape hc
          · split at h1
            · cases h1
            · rename_i hs
              simp only [Option.map_eq_some_iff] at h1
              obtain ⟨ib, h4, rfl⟩ := h1
              exact e_rngl1 (he _ _ h4) o.calm hg'.1 (o.bl _ (by decide)) (gl_ok o h3).1 (o.bl _ (by decide)) (by simpa using hs)
          · cases z
        · split at h1
          · rename_i b hb
            simp only [Option.map_eq_some_iff] at h1
            obtain ⟨l, h2, rfl⟩ := h1
            obtain ⟨k1, k2, k3⟩ := bi_rule o hb
            match args, h2, k2 with
            | e :: es, h2, _ =>
              have pa := mapEs_pa he h2
              have st := mapEs_star h2
              have h3 : ∃ l', mapEs (cE T n C) es = some l' := by
                unfold mapEs at h2
                split at h2
                · cases h2
                · simp only [Option.bind_eq_some_iff, Option.map_eq_some_iff] at h2
                  obtain ⟨_, _, l', h3, _⟩ := h2
                  exact ⟨l', h3⟩
              obtain ⟨l', h3⟩ := h3
              rcases k3 with ⟨id, b1, b2⟩ | ⟨t, b1, b2⟩
              · exact e_bi b2 hg'.1 (o.bl _ k1) b1 pa hg'.2.2 hg'.2.1 (star1 st _ _) (any_star _ h3)
              · exact e_biTy b2 hg'.1 (o.bl _ k1) b1 pa hg'.2.2 hg'.2.1 (star1 st _ _) (any_star _ h3)
          · simp only [Option.bind_eq_some_iff] at h1
            obtain ⟨q, h2, l, h3, h4⟩ := h1
            split at h4
            · rename_i hl
              cases h4
              obtain ⟨fa, fd, ps, g1, g2, g3, g4⟩ := o.fns f q.1 q.2 h2
              match args, h3 with
              | [], h3 =>
                cases h3
                obtain ⟨z1, z2⟩ := hl
                simp only [IEs.len] at z1
                omega
              | e :: es, h3 =>
                have pa := mapEs_pa he h3
                have st := mapEs_star h3
                have h5 : ∃ l', mapEs (cE T n C) es = some l' := by
                  unfold mapEs at h3
                  split at h3
                  · cases h3
                  · simp only [Option.bind_eq_some_iff, Option.map_eq_some_iff] at h3
                    obtain ⟨_, _, l', h5, _⟩ := h3
                    exact ⟨l', h5⟩
                obtain ⟨l', h5⟩ := h5
                rw [← hl.1] at g4
                exact e_call g4 o.gd o.rm hg'.1 g1 g2 g3 pa hg'.2.1 (star1 st _ _) (any_star _ h5)
            · cases h4
theorem fold_and {n : Nat} {C : Ct} {X : Cx} (h : SE T F k n) (o : Ok T F k C X) (pos : Pos) : ∀ {es : List Expr} {ir : IE}, foldB (cE T n C) .and_ es = some ir → PE X (.BoolOp .And es pos) (tX X F ir) ∧ PW X (.BoolOp .And es pos) (tXT X F ir)
  | [], _, h1 => by cases h1
  | [e], ir, h1 => by
    simp only [foldB] at h1
    split at h1
    · cases h1
    · rename_i hi
      have q := h C X e ir o h1
      exact ⟨pe_one q.1, pw_and1 (q.2 (by simpa using hi))⟩
  | e :: e2 :: r, ir, h1 => by
    unfold foldB at h1
    split at h1
    · cases h1
    · rename_i hi
      simp only [Option.bind_eq_some_iff, Option.map_eq_some_iff] at h1
      obtain ⟨a, h2, b, h3, rfl⟩ := h1
      have q := h C X e a o h2
      obtain ⟨k1, k2⟩ := fold_and h o pos h3
      exact ⟨e_and q.1 k1, w_and (q.2 (by simpa using hi)) k2⟩
theorem fold_or {n : Nat} {C : Ct} {X : Cx} (h : SE T F k n) (o : Ok T F k C X) (pos : Pos) : ∀ {es : List Expr} {ir : IE}, foldB (cE T n C) .or_ es = some ir → PE X (.BoolOp .Or es pos) (tX X F ir) ∧ PW X (.BoolOp .Or es pos) (tXT X F ir)
  | [], _, h1 => by cases h1
  | [e], ir, h1 => by
    simp only [foldB] at h1
    split at h1
    · cases h1
    · rename_i hi
      have q := h C X e ir o h1
      exact ⟨pe_one q.1, pw_or1 (q.2 (by simpa using hi))⟩
  | e :: e2 :: r, ir, h1 => by
    unfold foldB at h1
    split at h1
    · cases h1
    · rename_i hi
      simp only [Option.bind_eq_some_iff, Option.map_eq_some_iff] at h1
      obtain ⟨a, h2, b, h3, rfl⟩ := h1
      have q := h C X e a o h2
      obtain ⟨k1, k2⟩ := fold_or h o pos h3
      exact ⟨e_or q.1 k1, w_or (q.2 (by simpa using hi)) k2⟩
theorem cNil_shape {C : Ct} {l r : Expr} {op : CmpOp} {ir : IE} (h : cNil C l op r = some ir) : ∃ x p q i neg, l = .Name x p ∧ r = .List [] q ∧ slotOf C x = some i ∧ ir = .nilv i neg ∧ ((op = .Eq ∧ neg = false) ∨ (op = .NotEq ∧ neg = true)) := by
  unfold cNil at h
  split at h
  · simp only [Option.map_eq_some_iff] at h
    obtain ⟨i, h1, rfl⟩ := h
    exact ⟨_, _, _, i, _, rfl, rfl, h1, rfl, .inl ⟨rfl, rfl⟩⟩
  · simp only [Option.map_eq_some_iff] at h
    obtain ⟨i, h1, rfl⟩ := h
    exact ⟨_, _, _, i, _, rfl, rfl, h1, rfl, .inr ⟨rfl, rfl⟩⟩
  · cases h
theorem cIn_shape {C : Ct} {r : Expr} {op : CmpOp} {q : Nat × Bool} (h : cIn C op r = some q) : ∃ x p, r = .Name x p ∧ slotOf C x = some q.1 ∧ ((op = .In ∧ q.2 = false) ∨ (op = .NotIn ∧ q.2 = true)) := by
  unfold cIn at h
  split at h
  · simp only [Option.map_eq_some_iff] at h
    obtain ⟨i, h1, rfl⟩ := h
    exact ⟨_, _, rfl, h1, .inl ⟨rfl, rfl⟩⟩
  · simp only [Option.map_eq_some_iff] at h
    obtain ⟨i, h1, rfl⟩ := h
    exact ⟨_, _, rfl, h1, .inr ⟨rfl, rfl⟩⟩
  · cases h
theorem plain_ix {i : Expr} (h : isSlE i = false) : PlainIx i := fun o v => by cases i <;> first | rfl | (cases h; done)
theorem cNm_shape {C : Ct} {a : Expr} {i : Nat} (h : cNm C a = some i) : ∃ x p, a = .Name x p ∧ slotOf C x = some i := by
  unfold cNm at h
  split at h
  · exact ⟨_, _, rfl, h⟩
  · cases h
theorem ab_call {X : Cx} (f a0 : Expr) (ar : List Expr) (ks : List Keyword) (p1 : Pos) : attributeBase (.Call f (a0 :: ar) ks p1) "index" X.env (eval (.Call f (a0 :: ar) ks p1) X.env) = eval (.Call f (a0 :: ar) ks p1) X.env := by cases f <;> rfl
theorem step_E {n : Nat} (h : SE T F k n) (hO : SO T F k n) (hC : SCall T F k n) (hL : SComp T F k n) (hD : SDComp T F k n) : SE T F k (n + 1) := fun C X e ir o h1 => by
  have he : ∀ e ir, cE T n C e = some ir → PE X e (tX X F ir) := fun e ir z => (h C X e ir o z).1
  have ht : ∀ e ir, cE T n C e = some ir → isIfE e = false → PT X e (tXT X F ir) := fun e ir z => (h C X e ir o z).2
  have hu := o.units
  simp only [cE] at h1
  split at h1
  · -- constants
    split at h1
    · cases h1; exact ⟨e_none, fun _ => t_val e_none fun _ => rfl⟩
    · cases h1; exact ⟨e_bool, fun _ => t_val e_bool fun _ => rfl⟩
    · cases h1; exact ⟨e_int, fun _ => t_val e_int fun _ => rfl⟩
    · cases h1; exact ⟨e_str, fun _ => t_val e_str fun _ => rfl⟩
    · cases h1
  · -- names
    split at h1
    · rename_i i hs
      cases h1
      exact ⟨e_var (slot_nm o hs), fun _ => t_val (e_var (slot_nm o hs)) fun _ => rfl⟩
    · split at h1
      · rename_i hg
        simp only [Option.map_eq_some_iff] at h1
        obtain ⟨i, h2, rfl⟩ := h1
        obtain ⟨t, h3⟩ := o.cst _ i h2
        have g := gl_ok o hg
        exact ⟨e_glob g.1 h3 g.2.1, fun _ => t_val (e_glob g.1 h3 g.2.1) fun _ => rfl⟩
      · cases h1
  · -- a op b
    simp only [Option.bind_eq_some_iff, Option.map_eq_some_iff] at h1
    obtain ⟨a, h2, b, h3, rfl⟩ := h1
    exact ⟨e_bin (he _ _ h2) (he _ _ h3), fun _ => t_val (e_bin (he _ _ h2) (he _ _ h3)) fun _ => rfl⟩
  · simp only [Option.map_eq_some_iff] at h1
    obtain ⟨a, h2, rfl⟩ := h1
    exact ⟨e_neg (he _ _ h2), fun _ => t_val (e_neg (he _ _ h2)) fun _ => rfl⟩
  · split at h1
    · cases h1
    · rename_i hi
      simp only [Option.map_eq_some_iff] at h1
      obtain ⟨a, h2, rfl⟩ := h1
      exact ⟨e_not (he _ _ h2), fun _ => t_not (ht _ _ h2 (by simpa using hi))⟩
  · obtain ⟨k1, k2⟩ := fold_and h o _ h1
    exact ⟨k1, fun _ => k2.pt⟩
  · obtain ⟨k1, k2⟩ := fold_or h o _ h1
    exact ⟨k1, fun _ => k2.pt⟩
  · split at h1
    · cases h1
    · rename_i hi
      simp only [Option.bind_eq_some_iff, Option.map_eq_some_iff] at h1
      obtain ⟨c, h2, a, h3, b, h4, rfl⟩ := h1
      exact ⟨e_ite (ht _ _ h2 (by simpa using hi)) (he _ _ h3) (he _ _ h4), fun z => by cases z⟩
  · simp only [Option.bind_eq_some_iff] at h1
    obtain ⟨l, h2, h3⟩ := h1
    split at h3
    · rename_i hl
      cases h3
      exact ⟨e_tup (mapEs_pa he h2) hl, fun _ => t_val (e_tup (mapEs_pa he h2) hl) fun _ => rfl⟩
    · cases h3
  · split at h1
    · simp only [Option.map_eq_some_iff] at h1
      obtain ⟨l, h2, rfl⟩ := h1
      exact ⟨e_lstx (mapXs_pa he h2), fun _ => t_val (e_lstx (mapXs_pa he h2)) fun _ => rfl⟩
    · simp only [Option.bind_eq_some_iff] at h1
      obtain ⟨l, h2, h3⟩ := h1
      split at h3
      · rename_i hl
        cases h3
        exact ⟨e_lst (mapEs_pa he h2) hl, fun _ => t_val (e_lst (mapEs_pa he h2) hl) fun _ => rfl⟩
      · cases h3
  · simp only [Option.bind_eq_some_iff, Option.map_eq_some_iff] at h1
    obtain ⟨a, h2, b, h3, rfl⟩ := h1
    exact ⟨e_dsp (he _ _ h2) (he _ _ h3), fun _ => t_val (e_dsp (he _ _ h2) (he _ _ h3)) fun _ => rfl⟩
  · split at h1
    · rename_i ha
      subst ha
      obtain ⟨ke, ie, t, ii, io, own, rfl, k1, k2, k3, k4, k5, k6, k8, k7⟩ := (hD C X _ _ _ _ _ _ _ o h1).ex
      have q := fun pos => e_dcomp (pos := pos) o.calm o.nd k1 k2 k3 k4 k5 k6 k8 (fold_ok k7)
      exact ⟨q _, fun _ => t_val (q _) fun _ => rfl⟩
    · cases h1
  · -- one comparison
    split at h1
    · rename_i i hc
      cases h1
      obtain ⟨x, p, q, i, neg, rfl, rfl, h2, rfl, hop⟩ := cNil_shape hc
      exact ⟨e_nilv hu hop (slot_nm o h2), fun _ => t_nilv hu hop (slot_nm o h2)⟩
    · simp only [Option.bind_eq_some_iff] at h1
      obtain ⟨a, h2, h1⟩ := h1
      split at h1
      · rename_i q hc
        cases h1
        obtain ⟨x, p, rfl, h3, ⟨rfl, h4⟩ | ⟨rfl, h4⟩⟩ := cIn_shape hc
        · rw [h4]
          exact ⟨e_in hu (he _ _ h2) (slot_nm o h3), fun _ => t_in hu (he _ _ h2) (slot_nm o h3)⟩
        · rw [h4]
          exact ⟨e_notin hu (he _ _ h2) (slot_nm o h3), fun _ => t_notin hu (he _ _ h2) (slot_nm o h3)⟩
      · split at h1
        · cases h1
        · rename_i hm
          simp only [Option.map_eq_some_iff] at h1
          obtain ⟨b, h3, rfl⟩ := h1
          have hm := (Bool.not_eq_true _).mp hm
          exact ⟨e_cmp hu (he _ _ h2) (he _ _ h3) hm, fun _ => t_cmp hu (he _ _ h2) (he _ _ h3) hm⟩
  · split at h1
    · cases h1
    · rename_i hm
      simp only [Option.bind_eq_some_iff, Option.map_eq_some_iff] at h1
      obtain ⟨a, h2, b, h3, c, h4, rfl⟩ := h1
      have hm := (Bool.not_eq_true _).mp hm
      exact ⟨e_chain hu (he _ _ h2) (he _ _ h3) (he _ _ h4) hm, fun _ => t_chain hu (he _ _ h2) (he _ _ h3) (he _ _ h4) hm⟩
  · simp only [Option.bind_eq_some_iff, Option.map_eq_some_iff] at h1
    obtain ⟨a, h2, l, h3, u, h4, rfl⟩ := h1
    exact ⟨e_slice (he _ _ h2) (hO C X _ _ o h3) (hO C X _ _ o h4), fun _ => t_val (e_slice (he _ _ h2) (hO C X _ _ o h3) (hO C X _ _ o h4)) fun _ => rfl⟩
  · simp only [Option.map_eq_some_iff] at h1
    obtain ⟨a, h2, rfl⟩ := h1
    exact ⟨e_rev (he _ _ h2), fun _ => t_val (e_rev (he _ _ h2)) fun _ => rfl⟩
  · simp only [Option.bind_eq_some_iff, Option.map_eq_some_iff] at h1
    obtain ⟨a, h2, b, h3, rfl⟩ := h1
    exact ⟨e_slb (he _ _ h2) (he _ _ h3), fun _ => t_val (e_slb (he _ _ h2) (he _ _ h3)) fun _ => rfl⟩
  · simp only [Option.bind_eq_some_iff, Option.map_eq_some_iff] at h1
    obtain ⟨a, h2, b, h3, rfl⟩ := h1
    exact ⟨e_sla (he _ _ h2) (he _ _ h3), fun _ => t_val (e_sla (he _ _ h2) (he _ _ h3)) fun _ => rfl⟩
  · split at h1
    · cases h1
    · rename_i hsl
      have hsl := plain_ix (by simpa using hsl)
      simp only [Option.bind_eq_some_iff] at h1
      obtain ⟨i, h2, h1⟩ := h1
      split at h1
      · rename_i x hc
        cases h1
        obtain ⟨y, p, rfl, h3⟩ := cNm_shape hc
        exact ⟨e_subv hu (slot_nm o h3) (he _ _ h2) hsl, fun _ => t_val (e_subv hu (slot_nm o h3) (he _ _ h2) hsl) fun _ => rfl⟩
      · simp only [Option.map_eq_some_iff] at h1
        obtain ⟨a, h3, rfl⟩ := h1
        exact ⟨e_sub (he _ _ h3) (he _ _ h2) hsl, fun _ => t_val (e_sub (he _ _ h3) (he _ _ h2) hsl) fun _ => rfl⟩
  · split at h1
    · rename_i hg
      split at h1
      · have q := fun p0 pos => hC C X _ _ _ p0 pos o hg h1
        exact ⟨q _ _, fun _ => t_val (q _ _) fun _ => rfl⟩
      · split at h1
        · split at h1
          · rename_i hc
            obtain ⟨rfl, rfl, hs⟩ := hc
            simp only [Option.map_eq_some_iff] at h1
            obtain ⟨a, h2, rfl⟩ := h1
            have q := fun j pos p0 kp cp => e_sortedR (j := j) (pos := pos) (p0 := p0) (kp := kp) (cp := cp) hu (he _ _ h2) (gl_ok o hg).1 (o.bl _ (by decide)) hs
            exact ⟨q _ _ _ _ _, fun _ => t_val (q _ _ _ _ _) fun _ => rfl⟩
          · cases h1
        · cases h1
      · cases h1
    · cases h1
  · split at h1
    · rename_i i hs
      split at h1
      · rename_i hm
        obtain ⟨rfl, hl⟩ := hm
        split at h1
        · cases h1
          have q := fun px => e_pop0 (F := F) (px := px) (slot_nm o hs) hl
          exact ⟨q _, fun _ => t_val (q _) fun _ => rfl⟩
        · split at h1
          · cases h1
          · rename_i hst
            simp only [Option.map_eq_some_iff] at h1
            obtain ⟨a, h2, rfl⟩ := h1
            have q := fun px => e_pop1 (px := px) (slot_nm o hs) (he _ _ h2) (star1 (by simpa using hst) _ _) hl
            exact ⟨q _, fun _ => t_val (q _) fun _ => rfl⟩
        · cases h1
      · split at h1
        · rename_i hm
          obtain ⟨rfl, hl⟩ := hm
          split at h1
          · rename_i him
            cases h1
            obtain ⟨p1, p2, p3, rfl, hg⟩ := cImax_shape him
            have q := fun px => e_imax (F := F) (px := px) (px2 := p2) (pm := p1) (pc := p3) hu o.calm (slot_nm o hs) (gl_ok o hg).1 (o.bl _ (by decide)) hl
            exact ⟨q _, fun _ => t_val (q _) fun _ => rfl⟩
          · split at h1
            · split at h1
              · cases h1
              · rename_i hst
                simp only [Option.map_eq_some_iff] at h1
                obtain ⟨a, h2, rfl⟩ := h1
                have q := fun px => e_idx (e_var (pos := px) (slot_nm o hs)) (he _ _ h2) (star1 (by simpa using hst) _ _) rfl hl
                exact ⟨q _, fun _ => t_val (q _) fun _ => rfl⟩
            · cases h1
        · cases h1
    · cases h1
  · split at h1
    · rename_i hm
      obtain ⟨rfl, hl, hst⟩ := hm
      simp only [Option.bind_eq_some_iff, Option.map_eq_some_iff] at h1
      obtain ⟨a, h2, b, h3, rfl⟩ := h1
      have q := e_idx (he _ _ h2) (he _ _ h3) (star1 hst _ _) (ab_call _ _ _ _ _) hl
      exact ⟨q, fun _ => t_val q fun _ => rfl⟩
    · cases h1
  · split at h1
    · rename_i ha
      subst ha
      obtain ⟨ie, t, ii, io, own, rfl, k1, k2, k3, k4, k5, k6, k7⟩ := (hL C X _ _ _ _ _ _ o h1).ex
      have q := fun pos => e_comp (pos := pos) o.calm o.nd k1 k2 k3 k4 k5 k6 (fold_ok k7)
      exact ⟨q _, fun _ => t_val (q _) fun _ => rfl⟩
    · cases h1
  · cases h1
theorem sound (T : Tb) (F : CallT) (k : Nat) : ∀ n, SE T F k n ∧ SO T F k n ∧ SCall T F k n ∧ SI T F k n ∧ SComp T F k n ∧ SIfs T F k n ∧ SDComp T F k n
  | 0 => by
    refine ⟨fun C X e ir _ h => (by cases h), fun C X e ir _ h => ?_, fun C X f a ir _ _ _ _ h => (by cases h), fun C X tg it ii _ h => (by cases h), fun C X elt tg it ifs sc ir _ h => (by cases h), fun C X ifs io _ h => ?_, fun C X kx vx tg it ifs sc ir _ h => (by cases h)⟩
    · cases e with
      | none =>
        have h : some IO.no = some ir := by simpa [cO] using h
        cases h
        exact o_no
      | some e => simp [cO] at h
    · cases ifs with
      | nil =>
        have h : some IO.no = some io := by simpa [cIfs] using h
        cases h
        exact ts_nil
      | cons c r => simp [cIfs] at h
  | n + 1 => by
    obtain ⟨h1, h2, h3, h4, h5, h6, h7⟩ := sound T F k n
    exact ⟨step_E h1 h2 h3 h5 h7, step_O h1, step_Call h1, step_I h1, step_Comp h1 h4 h6, step_Ifs h1, step_DComp h1 h4 h6⟩
end Tl

namespace Tl
open PySem L2
variable {F : CallT} {fu : Nat} {T : Tb} {k : Nat}

def nmE : Expr → Option (Str × Pos)
  | .Name x p => some (x, p)
  | _ => none
def allNm : List Expr → Option (List (Str × Pos))
  | [] => some []
  | e :: r => (nmE e).bind fun a => (allNm r).map (a :: ·)
def allSt (C : Ct) : List (Str × Pos) → Option (List Nat)
  | [] => some []
  | p :: r => (stOf C p.1).bind fun a => (allSt C r).map (a :: ·)
def swN (C : Ct) (ts vs : List Expr) : Option (Option (List Str)) :=
  if !(ts.length == 2 || ts.length == 3) || vs.length != ts.length then some none
  else if vs.any isStar then some none
  else
    let line := (ts.head?.map (·.pos.line)).getD 0
    let names := ts.filterMap fun
      | .Name id pos => if C.sc.names.lookup id == some .local && pos.line == line then some id else none
      | _ => none
    if names.length != ts.length || names.eraseDups.length != names.length then some none
    else if vs.all (foldedForSure 8) then some none
    else if vs.all (constantsAlone 8) then none
    else some (some names)
def eStep : Nat := 40
mutual
def cS (T : Tb) : Nat → Ct → Stmt → Option IS
  | 0, _, _ => none
  | n + 1, C, st => match st with
    | .Assign [.Name x _] e _ => if isDcE e && isLoc C x then none else (stOf C x).bind fun i => (cE T eStep C e).map fun e => .set i e
    | .Assign [.Tuple ts _ _] (.Tuple es _ _) _ => (allNm ts).bind fun ns => (allSt C ns).bind fun is => (mapEs (cE T eStep C) es).bind fun l => (swN C ts es).bind fun w =>
        if l.len ≤ LIM ∧ l.len = is.length ∧ is.Nodup ∧ (w = none ∨ ((ts.length = 2 ∨ ts.length = 3) ∧ w = some (ns.map (·.1)) ∧ (ns.all fun p => isLoc C p.1) = true)) then some (.par is l) else none
    | .Assign [.Tuple ts _ _] e _ => if isTupE e || isCompE e then none else (match cDr C ts e with
      | some q => some q
      | none => (mapT (cTg C eStep) ts).bind fun t => (cE T eStep C e).map fun e => .unp t e)
    | .Assign [.Subscript (.Name x _) i _] e _ => if isSlE i then none else (slotOf C x).bind fun n => (cE T eStep C i).bind fun i => (cE T eStep C e).map fun e => .stsub n i e
    | .AugAssign (.Name x _) .Add e _ => (stOf C x).bind fun i => (cE T eStep C e).map fun e => .augI i e
    | .Raise .. => some .never
    | .Expr (.Call (.Attribute (.Name x _) m pa) [e] [] cp) _ => if m = "append" ∧ (pa.endLine == cp.line) = true ∧ isStar e = false then (slotOf C x).bind fun n => (cE T eStep C e).map fun e => .app n e else if m = "extend" ∧ (pa.endLine == cp.line) = true ∧ isStar e = false then (slotOf C x).bind fun n => (cE T eStep C e).map fun e => .ext n e else none
    | .Expr e _ => if isCompE e then none else (cE T eStep C e).map .drop
    | .If c a b _ => if isIfE c then none else (cE T eStep C c).bind fun c => (cSs T n C a).bind fun a => (cSs T n C b).map fun b => .if_ c a b
    | .For tg it body [] _ => (cTg C eStep tg).bind fun t => (cI T eStep C (isTupE tg) it).bind fun i => (cSs T n C body).map fun b => .for_ t i b
    | .While c body [] _ => if isIfE c then none else (cE T eStep C c).bind fun c => (cSs T n C body).map fun b => .while_ c b
    | .Return (some (.List [.Name x p1, .Constant (.int 0) j p2, e] lp)) _ => if x = "_law_cells" then (if isStar e then none else (slotOf C x).bind fun n => (cE T eStep C e).map fun e => .mkdr n e) else (cE T eStep C (.List [.Name x p1, .Constant (.int 0) j p2, e] lp)).map .ret
    | .Return (some e) _ => (cE T eStep C e).map .ret
    | .Return none _ => some .retN
    | .Break _ => some .brk
    | .Pass _ => some .pass
    | _ => none
def cDr (C : Ct) : List Expr → Expr → Option IS
  | [.Name a _, .Name b _, .Name c _], .Name x _ => if x = "_law_drawn" then (slotOf C x).bind fun n => (stOf C a).bind fun a => (stOf C b).bind fun b => (stOf C c).map fun c => .undr a b c n else none
  | _, _ => none
def cSs (T : Tb) : Nat → Ct → List Stmt → Option ISs
  | 0, _, _ => none
  | _ + 1, _, [] => some .nil
  | n + 1, C, s :: r => (cS T n C s).bind fun a => (cSs T n C r).map fun b => .cons a b
end

theorem allNm_eq : ∀ {ts : List Expr} {ns : List (Str × Pos)}, allNm ts = some ns → ts = ns.map fun p => .Name p.1 p.2
  | [], ns, h => by cases h; rfl
  | e :: r, ns, h => by
    simp only [allNm, Option.bind_eq_some_iff, Option.map_eq_some_iff] at h
    obtain ⟨a, h1, l, h2, rfl⟩ := h
    rw [List.map_cons, ← allNm_eq h2]
    cases e <;> first | (cases h1; done) | skip
    cases h1
    rfl
theorem pnames_ok {C : Ct} {X : Cx} (o : Ok T F k C X) : ∀ {ns : List (Str × Pos)} {is : List Nat}, allSt C ns = some is → (∃ t, Pnames X (ns.map fun p => .Name p.1 p.2) is t) ∧ is.length = ns.length
  | [], is, h => by
    cases h
    exact ⟨⟨_, .nil⟩, rfl⟩
  | p :: r, is, h => by
    simp only [allSt, Option.bind_eq_some_iff, Option.map_eq_some_iff] at h
    obtain ⟨a, h1, l, h2, rfl⟩ := h
    obtain ⟨⟨t, h3⟩, h4⟩ := pnames_ok o h2
    exact ⟨⟨_, .cons (st_sn o h1) h3⟩, by rw [List.length_cons, List.length_cons, h4]⟩
theorem swN_ok {C : Ct} {env : Env} (hs : env.scope = C.sc) (hk : C.sc.kind = .function) {ts vs : List Expr} {w : Option (List Str)} (h : swN C ts vs = some w) (k1 k2 : Nat) (p1 p2 : Pos) : swappedStores [.Tuple ts k1 p1] (.Tuple vs k2 p2) env = pure w := by
  have hb : env.blockKind = .function := by
    unfold Env.blockKind
    rw [hs, hk]
    rfl
  have e1 : (!(ts.length == 2 || ts.length == 3) || vs.length != ts.length || env.blockKind != .function) = (!(ts.length == 2 || ts.length == 3) || vs.length != ts.length) := by rw [hb]; simp
  have ek : ∀ id, env.kindOf id = C.sc.names.lookup id := fun id => by unfold Env.kindOf; rw [hs]
  unfold swN at h
  unfold swappedStores
  simp only [ek]
  by_cases c1 : (!(ts.length == 2 || ts.length == 3) || vs.length != ts.length) = true
  · rw [if_pos c1] at h
    cases h
    exact if_pos (e1.trans c1)
  · rw [if_neg c1] at h
    refine (if_neg (by rw [e1]; exact c1)).trans ?_
    by_cases c2 : vs.any isStar = true
    · rw [if_pos c2] at h
      cases h
      exact if_pos c2
    · rw [if_neg c2] at h
      refine (if_neg c2).trans ?_
      simp only at h
      split at h
      · rename_i c3
        cases h
        exact if_pos c3
      · rename_i c3
        refine (if_neg c3).trans ?_
        split at h
        · rename_i c4
          cases h
          exact if_pos c4
        · rename_i c4
          refine (if_neg c4).trans ?_
          split at h
          · cases h
          · rename_i c5
            cases h
            exact if_neg c5
end Tl

namespace Tl
open PySem L2
variable {F : CallT} {fu : Nat} {T : Tb} {k : Nat}

theorem comp_shape {n : Nat} {C : Ct} {elt : Expr} {gs : List Comprehension} {scope : Scope} {p : Pos} {ir : IE} (h : cE T (n + 1) C (.ListComp elt gs scope p) = some ir) : ∃ tg it ifs, gs = [⟨tg, it, ifs, 0⟩] ∧ cComp T n C elt tg it ifs scope = some ir := by
  simp only [cE] at h
  split at h <;> first | (rename_i z; cases z; done) | skip
  · rename_i z
    cases z
    split at h
    · rename_i ha
      subst ha
      exact ⟨_, _, _, rfl, h⟩
    · cases h
  · cases h
theorem swap_no {e : Expr} (h : isCompE e = false) (t : Option Expr) (l : Nat) (env : Env) : swapsWith e t l env = pure false := by cases e <;> first | rfl | (cases h; done)
theorem sole_no {e : Expr} (h : isCompE e = false) (t : Expr) (l : Nat) (env : Env) : swapsWithSole [t] e l env = pure false := swap_no h (some t) l env
theorem cE_comp {n : Nat} {C : Ct} {e : Expr} {ir : IE} (h : cE T n C e = some ir) (hc : isCompE e = true) : (∃ kx vx gs scope p, e = .DictComp kx vx gs scope p) ∨ ∃ elt gs scope p, e = .ListComp elt gs scope p := by
  cases n with
  | zero => cases h
  | succ n => cases e <;> first | (cases hc; done) | exact .inr ⟨_, _, _, _, rfl⟩ | exact .inl ⟨_, _, _, _, _, rfl⟩ | (cases h; done)
theorem set_ok {C : Ct} {X : Cx} (o : Ok T F k C X) (hk : C.sc.kind = .function) {x : Str} {i : Nat} {px pos : Pos} {e : Expr} {ie : IE} (hi : stOf C x = some i) (he : cE T eStep C e = some ie) (hd : (isDcE e && isLoc C x) = false) : PS X (.Assign [.Name x px] e pos) (tS X.K F fu (.set i ie)) := by
  have pe := ((sound T F k eStep).1 C X e ie o he).1
  cases hc : isCompE e with
  | false => exact s_set (st_sn o hi) pe (swap_no hc _ _ _)
  | true =>
    rcases cE_comp he hc with ⟨kx, vx, gs, scope, p, rfl⟩ | ⟨elt, gs, scope, p, rfl⟩
    · have es : swapsWith (.DictComp kx vx gs scope p) (some (.Name x px)) pos.line X.env = pure (X.env.blockKind == .function && X.env.kindOf x == some .local && px.line == p.line && !(scope.names.any fun (n, k) => n == x && (k == .local || k == .cell))) := rfl
      refine s_set (st_sn o hi) pe (es.trans ?_)
      have hl : (X.env.kindOf x == some .local) = false := by
        have hd : isLoc C x = false := by simpa [isDcE] using hd
        unfold isLoc at hd
        unfold Env.kindOf
        rw [o.sc]
        cases q : C.sc.names.lookup x with
        | none => rfl
        | some y =>
          rw [q] at hd
          cases y <;> first | rfl | (cases hd; done)
      rw [hl]
      simp
    have es : swapsWith (.ListComp elt gs scope p) (some (.Name x px)) pos.line X.env = pure (X.env.blockKind == .function && X.env.kindOf x == some .local && px.line == p.line && !(scope.names.any fun (n, k) => n == x && (k == .local || k == .cell))) := rfl
    cases hq : (X.env.blockKind == .function && X.env.kindOf x == some .local && px.line == p.line && !(scope.names.any fun (n, k) => n == x && (k == .local || k == .cell))) with
    | false => exact s_set (st_sn o hi) pe (es.trans (by rw [hq]))
    | true =>
      obtain ⟨tg, it, ifs, rfl, h2⟩ := comp_shape (n := 39) he
      obtain ⟨ie, t, ii, io, own, rfl, k1, k2, k3, k4, k5, k6, k7⟩ := ((sound T F k 39).2.2.2.2.1 C X _ _ _ _ _ _ o h2).ex
      have hl : X.env.scope.names.lookup x = some .local := by
        simp only [Bool.and_eq_true] at hq
        have := hq.1.1.2
        exact eq_of_beq this
      exact s_setLc (st_sn o hi) hl o.calm (es.trans (by rw [hq])) k1 k2 k3 k4 k5 k6 (fold_ok k7)
theorem par_ok {C : Ct} {X : Cx} (o : Ok T F k C X) (hk : C.sc.kind = .function) {ts es : List Expr} {ns : List (Str × Pos)} {is : List Nat} {l : IEs} {w : Option (List Str)} {k1 k2 : Nat} {p1 p2 pos : Pos} (h1 : allNm ts = some ns) (h2 : allSt C ns = some is) (h3 : mapEs (cE T eStep C) es = some l) (h4 : swN C ts es = some w)
    (h5 : l.len ≤ LIM ∧ l.len = is.length ∧ is.Nodup ∧ (w = none ∨ ((ts.length = 2 ∨ ts.length = 3) ∧ w = some (ns.map (·.1)) ∧ (ns.all fun p => isLoc C p.1) = true))) : PS X (.Assign [.Tuple ts k1 p1] (.Tuple es k2 p2) pos) (tS X.K F fu (.par is l)) := by
  obtain ⟨z1, z2, z3, z4⟩ := h5
  have hw := swN_ok o.sc hk h4 k1 k2 p1 p2
  have pa := mapEs_pp (fun e ir h => ((sound T F k eStep).1 C X e ir o h).1) h3
  have ets := allNm_eq h1
  obtain ⟨⟨t, pn⟩, ln⟩ := pnames_ok o h2
  have le := mapEs_len h3
  rcases z4 with rfl | ⟨z5, z6, z7⟩
  · rw [← ets] at pn
    exact s_parT pn o.calm pa z1 z2 rfl hw rfl
  · subst z6
    have hlen : ts.length = ns.length := by rw [ets, List.length_map]
    have loc : ∀ p ∈ ns, X.env.scope.names.lookup p.1 = some .local := fun p hp => loc_ok o (List.all_eq_true.mp z7 p hp)
    rcases z5 with z5 | z5
    · obtain ⟨a, b, rfl⟩ := two_of (l := ns) (by omega)
      obtain ⟨c, d, rfl⟩ := two_of (l := es) (by omega)
      subst ets
      simp only [allSt, Option.bind_eq_some_iff, Option.map_eq_some_iff] at h2
      obtain ⟨i, i1, _, ⟨j, j1, _, h6, rfl⟩, rfl⟩ := h2
      cases h6
      refine s_par2 (st_sn o i1) (st_sn o j1) (fun e => ?_) o.calm (loc _ (by simp)) (loc _ (by simp)) pa hw rfl
      subst e
      simp at z3
    · obtain ⟨a, b, c, rfl⟩ := three_of (l := ns) (by omega)
      obtain ⟨u, v, w, rfl⟩ := three_of (l := es) (by omega)
      subst ets
      simp only [allSt, Option.bind_eq_some_iff, Option.map_eq_some_iff] at h2
      obtain ⟨i, i1, _, ⟨j, j1, _, ⟨m, m1, _, h6, rfl⟩, rfl⟩, rfl⟩ := h2
      cases h6
      simp only [List.nodup_cons, List.mem_cons, List.not_mem_nil, or_false, not_or] at z3
      exact s_par3 (st_sn o i1) (st_sn o j1) (st_sn o m1) z3.1.1 z3.1.2 z3.2.1 o.calm (loc _ (by simp)) (loc _ (by simp)) (loc _ (by simp)) pa hw rfl
theorem cDr_shape {C : Ct} {ts : List Expr} {e : Expr} {q : IS} (h : cDr C ts e = some q) : ∃ a b c x pa pb pc px ia ib ic n, ts = [.Name a pa, .Name b pb, .Name c pc] ∧ e = .Name x px ∧ slotOf C x = some n ∧ stOf C a = some ia ∧ stOf C b = some ib ∧ stOf C c = some ic ∧ q = .undr ia ib ic n := by
  unfold cDr at h
  split at h
  · split at h
    · simp only [Option.bind_eq_some_iff, Option.map_eq_some_iff] at h
      obtain ⟨n, h1, ia, h2, ib, h3, ic, h4, rfl⟩ := h
      exact ⟨_, _, _, _, _, _, _, _, ia, ib, ic, n, rfl, rfl, h1, h2, h3, h4, rfl⟩
    · cases h
  · cases h
theorem sw_tup {e : Expr} (h : isTupE e = false) (ts : List Expr) (k1 : Nat) (p1 : Pos) (env : Env) : swappedStores [.Tuple ts k1 p1] e env = pure none := by cases e <;> first | rfl | (cases h; done)
theorem asg_sub {i : Expr} (h : isSlE i = false) (x : Str) (px ps : Pos) (env : Env) (v : Value) : assign (.Subscript (.Name x px) i ps) env v = (do
      let ov ← holding [v] (eval (.Name x px) env)
      let iv ← holding [v, ov] (eval i env)
      standAt ps
      holding [v, ov, iv] (setItem ov iv v)
      release [v, ov, iv] []) := by cases i <;> first | rfl | (cases h; done)
theorem sw_sub (e : Expr) (x : Str) (px ps : Pos) (i : Expr) (l : Nat) (env : Env) : swapsWith e (some (.Subscript (.Name x px) i ps)) l env = pure false := by cases e <;> rfl
theorem sole_sub (e : Expr) (x : Str) (px ps : Pos) (i : Expr) (l : Nat) (env : Env) : swapsWithSole [.Subscript (.Name x px) i ps] e l env = pure false := sw_sub e x px ps i l env
theorem step_S {n : Nat} (hb : ∀ (C : Ct) (X : Cx) (sts : List Stmt) (is : ISs), Ok T F k C X → C.sc.kind = .function → cSs T n C sts = some is → PSs X sts (tSs X.K F fu is)) {C : Ct} {X : Cx} {st : Stmt} {is : IS} (o : Ok T F k C X) (hk : C.sc.kind = .function) (h : cS T (n + 1) C st = some is) : PS X st (tS X.K F fu is) := by
  have he : ∀ e ir, cE T eStep C e = some ir → PE X e (tX X F ir) := fun e ir z => ((sound T F k eStep).1 C X e ir o z).1
  have ht : ∀ e ir, cE T eStep C e = some ir → isIfE e = false → PT X e (tXT X F ir) := fun e ir z => ((sound T F k eStep).1 C X e ir o z).2
  simp only [cS] at h
  split at h
  · split at h
    · cases h
    · rename_i hd
      simp only [Option.bind_eq_some_iff, Option.map_eq_some_iff] at h
      obtain ⟨i, h1, e, h2, rfl⟩ := h
      exact set_ok o hk h1 h2 ((Bool.not_eq_true _).mp hd)
  · simp only [Option.bind_eq_some_iff] at h
    obtain ⟨ns, h1, is, h2, l, h3, w, h4, h5⟩ := h
    split at h5
    · rename_i hz
      cases h5
      exact par_ok o hk h1 h2 h3 h4 hz
    · cases h5
  · split at h
    · cases h
    · rename_i hte
      obtain ⟨t1, t2⟩ := Bool.or_eq_false_iff.mp ((Bool.not_eq_true _).mp hte)
      split at h
      · rename_i q hq
        cases h
        obtain ⟨a, b, c, x, pa, pb, pc, px, ia, ib, ic, m, rfl, rfl, h1, h2, h3, h4, rfl⟩ := cDr_shape hq
        exact s_undr (slot_nm o h1) (st_sn o h2) (st_sn o h3) (st_sn o h4) o.calm rfl (sw_tup rfl _ _ _ _) rfl
      · simp only [Option.bind_eq_some_iff, Option.map_eq_some_iff] at h
        obtain ⟨t, h1, e, h2, rfl⟩ := h
        obtain ⟨k1, k2, k3, k4⟩ := mapT_pgs (fun e t h => tg_ok o eStep e t h) h1
        exact s_unp (he _ _ h2) o.calm k1 k2 k3 k4 (sole_no t2 _ _ _) (sw_tup t1 _ _ _ _) rfl
  · split at h
    · cases h
    · rename_i hsl
      have hsl := (Bool.not_eq_true _).mp hsl
      simp only [Option.bind_eq_some_iff, Option.map_eq_some_iff] at h
      obtain ⟨m, h1, i, h2, e, h3, rfl⟩ := h
      exact s_stsub o.units (slot_nm o h1) (he _ _ h2) (he _ _ h3) (sole_sub _ _ _ _ _ _ _) rfl (sw_sub _ _ _ _ _ _ _) rfl (asg_sub hsl _ _ _ _)
  · simp only [Option.bind_eq_some_iff, Option.map_eq_some_iff] at h
    obtain ⟨i, h1, e, h2, rfl⟩ := h
    exact s_augI (st_sn o h1) (he _ _ h2)
  · cases h
    exact s_never
  · split at h
    · rename_i hc
      obtain ⟨rfl, h0, hst⟩ := hc
      simp only [Option.bind_eq_some_iff, Option.map_eq_some_iff] at h
      obtain ⟨m, h1, e, h2, rfl⟩ := h
      exact s_app (slot_nm o h1) (he _ _ h2) (star1 hst _ _) h0
    · split at h
      · rename_i hc
        obtain ⟨rfl, h0, hst⟩ := hc
        simp only [Option.bind_eq_some_iff, Option.map_eq_some_iff] at h
        obtain ⟨m, h1, e, h2, rfl⟩ := h
        exact s_ext (slot_nm o h1) (he _ _ h2) (star1 hst _ _) h0
      · cases h
  · split at h
    · cases h
    · rename_i hc
      simp only [Option.map_eq_some_iff] at h
      obtain ⟨e, h1, rfl⟩ := h
      exact s_drop (he _ _ h1) (swap_no ((Bool.not_eq_true _).mp hc) _ _ _)
  · split at h
    · cases h
    · rename_i hi
      simp only [Option.bind_eq_some_iff, Option.map_eq_some_iff] at h
      obtain ⟨c, h1, a, h2, b, h3, rfl⟩ := h
      exact s_if (ht _ _ h1 ((Bool.not_eq_true _).mp hi)) (hb C X _ _ o hk h2) (hb C X _ _ o hk h3)
  · simp only [Option.bind_eq_some_iff, Option.map_eq_some_iff] at h
    obtain ⟨t, h1, i, h2, b, h3, rfl⟩ := h
    have q := (sound T F k eStep).2.2.2.1 C X _ _ _ o h2
    exact s_for o.xe o.calm q.1 (tg_ok o eStep _ _ h1) (hb C X _ _ o hk h3) (fold_ok q.2)
  · split at h
    · cases h
    · rename_i hi
      simp only [Option.bind_eq_some_iff, Option.map_eq_some_iff] at h
      obtain ⟨c, h1, b, h2, rfl⟩ := h
      exact s_while o.xe (ht _ _ h1 ((Bool.not_eq_true _).mp hi)) (hb C X _ _ o hk h2)
  · split at h
    · split at h
      · cases h
      · rename_i hst
        simp only [Option.bind_eq_some_iff, Option.map_eq_some_iff] at h
        obtain ⟨m, h1, e, h2, rfl⟩ := h
        exact s_mkdr (slot_nm o h1) (he _ _ h2) (star1 ((Bool.not_eq_true _).mp hst) _ _)
    · simp only [Option.map_eq_some_iff] at h
      obtain ⟨e, h1, rfl⟩ := h
      exact s_ret (he _ _ h1)
  · simp only [Option.map_eq_some_iff] at h
    obtain ⟨e, h1, rfl⟩ := h
    exact s_ret (he _ _ h1)
  · cases h; exact s_retN
  · cases h; exact s_brk
  · cases h; exact s_pass
  · cases h
theorem soundS : ∀ (n : Nat), (∀ (C : Ct) (X : Cx) (st : Stmt) (is : IS), Ok T F k C X → C.sc.kind = .function → cS T n C st = some is → PS X st (tS X.K F fu is)) ∧ (∀ (C : Ct) (X : Cx) (sts : List Stmt) (is : ISs), Ok T F k C X → C.sc.kind = .function → cSs T n C sts = some is → PSs X sts (tSs X.K F fu is))
  | 0 => ⟨fun C X st is _ _ h => (by cases h), fun C X st is _ _ h => (by cases h)⟩
  | n + 1 => by
    obtain ⟨h1, h2⟩ := soundS n
    refine ⟨fun C X st is o hk h => step_S h2 o hk h, fun C X sts is o hk h => ?_⟩
    cases sts with
    | nil =>
      have h : some ISs.nil = some is := h
      cases h
      exact ss_nil
    | cons st sts =>
      simp only [cSs, Option.bind_eq_some_iff, Option.map_eq_some_iff] at h
      obtain ⟨a, h3, b, h4, rfl⟩ := h
      exact ss_cons (h1 C X st a o hk h3) (h2 C X sts b o hk h4)
end Tl

namespace Tl
open PySem L2 PySem.Spec PyProof.Rows

section
variable {K : PySem.W.Frag} {g g' : Gh} {H H' : Hp} {S : Option DS}
theorem slot_calm {r a : Rv} (e : r.arg = some a) : ¬ isOwn (some a.slot) := by
  cases r <;> cases e <;> exact fun h => h
theorem args_get : ∀ {vs : List V} {as : List Rv} {i : Nat} {x : Rv}, ArgsOk K g ⟨[], S⟩ H H vs as → as[i]? = some x → ∃ v r, vs[i]? = some v ∧ Rv.arg r = some x ∧ RvOk K g ⟨[], S⟩ H H v x
  | _, _, i, x, .nil, h => by simp at h
  | _, _, 0, x, .cons e q k, h => by
    simp only [List.getElem?_cons_zero, Option.some.injEq] at h
    subst h
    exact ⟨_, _, rfl, e, q⟩
  | _, _, i + 1, x, .cons e q k, h => by
    simp only [List.getElem?_cons_succ] at h ⊢
    exact args_get k h
theorem startG_get {n : Nat} {as : List Rv} {i : Nat} {x : Slot} (h : (startG n as)[i]? = some x) : (∃ a, as[i]? = some a ∧ x = a.slot) ∨ (as.length ≤ i ∧ x = .no) := by
  unfold startG at h
  by_cases hi : i < as.length
  · rw [List.getElem?_append_left (by rw [List.length_map]; exact hi), List.getElem?_map] at h
    obtain ⟨a, e1, e2⟩ := Option.map_eq_some_iff.mp h
    exact .inl ⟨a, e1, e2.symm⟩
  · rw [List.getElem?_append_right (by rw [List.length_map]; omega)] at h
    exact .inr ⟨by omega, (List.mem_replicate.mp (List.mem_of_getElem? h)).2⟩
theorem start_calm {vs : List V} {as : List Rv} (ha : ArgsOk K g ⟨[], S⟩ H H vs as) (n i : Nat) : ¬ isOwn ((startG n as)[i]?) := by
  cases q : (startG n as)[i]? with
  | none => exact fun h => h
  | some x =>
    rcases startG_get q with ⟨a, e, rfl⟩ | ⟨_, rfl⟩
    · obtain ⟨_, r, _, e2, _⟩ := args_get ha e
      exact slot_calm e2
    · exact fun h => h
theorem start_ok {N : List Str} {vs : List V} {as : List Rv} (hs : StOk K g [] H ⟨[], S⟩) (ha : ArgsOk K g ⟨[], S⟩ H H vs as) (hl : vs.length ≤ N.length) : StOk K g (start N vs) H ⟨startG N.length as, S⟩ where
  same := hs.same
  len := by
    have := ha.len
    simp only [L2.start, startG, List.length_append, List.length_map, List.length_replicate]
    omega
  slot := fun i x e => by
    rcases startG_get e with ⟨a, e1, rfl⟩ | ⟨_, rfl⟩
    · obtain ⟨v, r, e2, e3, q⟩ := args_get ha e1
      have e4 : (start N vs)[i]? = some (some v) := by
        unfold L2.start
        have hi : i < vs.length := (List.getElem?_eq_some_iff.mp e2).1
        rw [List.getElem?_append_left (by rw [List.length_map]; exact hi), List.getElem?_map, e2]
        rfl
      rw [e4]
      cases a with
      | v d => exact ⟨v, rfl, q⟩
      | f xs => cases r <;> cases e3
      | fd xs => cases r <;> cases e3
      | dr => exact congrArg (fun z => some (some z)) q.2
      | scr ns =>
        obtain ⟨b, rfl, h2⟩ := q
        exact ⟨b, rfl, h2⟩
    · trivial
  inj := fun i j h => absurd h (start_calm ha _ i)
  sep := fun a w => by
    rcases w with ⟨i, h, _⟩ | w
    · exact absurd h (start_calm ha _ i)
    · exact hs.sep a (.inr w)
  dro := hs.dro
  drw := fun _ i h => absurd h (start_calm ha _ i)
  drs := fun i h => by
    have h : isDr ((startG N.length as)[i]?) := h
    cases q : (startG N.length as)[i]? with
    | none => rw [q] at h; exact h.elim
    | some x =>
      rw [q] at h
      rcases startG_get q with ⟨a, e, rfl⟩ | ⟨_, rfl⟩
      · obtain ⟨_, r, _, e2, z⟩ := args_get ha e
        cases a with
        | dr => exact z.1
        | v d => exact h.elim
        | f xs => exact h.elim
        | fd xs => exact h.elim
        | scr ns => exact h.elim
      · exact h.elim
theorem Ext.leave {s s' : Sta} (x : Ext g s H g' s' H') (hn : ∀ i : Nat, ¬ isOwn (s.g[i]?)) : Ext g ⟨[], s.s⟩ H g' ⟨[], s'.s⟩ H' := by
  have go : ∀ {b}, Ow g s b → Ow g ⟨[], s.s⟩ b := fun {b} w => w.elim (fun ⟨i, h, _⟩ => absurd h (hn i)) .inr
  have back : ∀ {h : Gh} {t : Sta} {b}, Ow h ⟨[], t.s⟩ b → Ow h t b := fun {h t b} w => w.elim (fun ⟨i, z, _⟩ => by simp [isOwn] at z) .inr
  exact ⟨x.mono, fun b o e w => x.keep b o e fun z => w (go z), fun b e => (x.newG b e).imp id (Or.imp id go), fun b w => (x.own b (back w)).imp go id, x.trk, x.dr⟩
theorem RvOk.leave {s : Sta} {H0 : Hp} {v : V} {r : Rv} (q : RvOk K g s H H0 v r) : RvOk K g ⟨[], s.s⟩ H H0 v r := by
  have nw : ∀ {b}, ¬ Ow g s b → ¬ Ow g ⟨[], s.s⟩ b := fun {b} h w => h (w.elim (fun ⟨i, z, _⟩ => by simp [isOwn] at z) .inr)
  cases r with
  | v d => exact q
  | f xs =>
    obtain ⟨a, vs, e, h1, h2, h3, h4, h5⟩ := q
    exact ⟨a, vs, e, h1, h2, h3, nw h4, h5⟩
  | fd xs =>
    obtain ⟨a, vs, e, h1, h2, h3, h4, h5⟩ := q
    exact ⟨a, vs, e, h1, h2, h3, nw h4, h5⟩
  | dr => exact q
  | scr ns => exact q
end

structure Df where
  nm : Str
  st : Stmt
  ps : List Str
  N : List Str
def Df.ct (d : Df) : Ct := ⟨d.N, defScope d.st, fun _ => true⟩
structure Told (K : PySem.W.Frag) (mg : Str → Option Value) (T : Tb) (ds : List Df) : Prop where
  fs : ∀ d ∈ ds, ∃ fa fd, mg d.nm = some (.ref fa) ∧ FunD K d.nm d.nm (defArgs d.st) (defBody d.st) (defScope d.st) [] [] fa fd ∧ Binds K fd d.ps []
  bl : ∀ x ∈ bnames, mg x = none
  cs : ∀ x i, T.cs.lookup x = some i → ∃ t, mg x = some (.int i t)
structure Tab (T : Tb) (n : Nat) (ds : List Df) (tf : List Fn) : Prop where
  hT : T.fs = ds.map fun d => (d.nm, d.ps.length)
  sc : ∀ d ∈ ds, FnScope d.N d.ps (defScope d.st)
  cp : ∀ (i : Nat) (d : Df), ds[i]? = some d → ∃ b : ISs, tf[i]? = some (Fn.mk d.ps.length d.N.length b) ∧ cSs T n d.ct (defBody d.st) = some b

theorem fIx_get : ∀ {ds : List Df} {x : Str} {i n : Nat}, fIx x (ds.map fun d => (d.nm, d.ps.length)) = some (i, n) → ∃ d, ds[i]? = some d ∧ d.nm = x ∧ d.ps.length = n
  | [], x, i, n, h => by cases h
  | d :: r, x, i, n, h => by
    rw [List.map_cons] at h
    unfold fIx at h
    split at h
    · rename_i e
      cases h
      exact ⟨d, rfl, e, rfl⟩
    · obtain ⟨⟨j, m⟩, h1, h2⟩ := Option.map_eq_some_iff.mp h
      cases h2
      obtain ⟨d', e1, e2⟩ := fIx_get h1
      exact ⟨d', e1, e2⟩
section
variable {P : Program} {w : World} {K : PySem.W.Frag} {mg : Str → Option Value} {base : Heap} {T : Tb} {n fu : Nat} {ds : List Df} {tf : List Fn}
theorem tab_ok (Q : Tab T n ds tf) (W : Told K mg T ds) : ∀ (k i : Nat) (d : Df), ds[i]? = some d → ∀ (fa : Addr) (fd : FuncData), mg d.nm = some (.ref fa) → FunD K d.nm d.nm (defArgs d.st) (defBody d.st) (defScope d.st) [] [] fa fd →
    FnG P w K mg base k fa fd d.ps (spF K (callF tf fu k) i d.ps.length)
  | 0, i, d, hd, fa, fd, hm, Fd => ⟨fun vs H Q h => h.1, fun A o s H a us vs Q _ _ _ _ _ h => by
      obtain ⟨_, _, _, _, _, _, _, _, e, _⟩ := h
      cases e⟩
  | k + 1, i, d, hd, fa, fd, hm, Fd => by
    have hmem := List.mem_of_getElem? hd
    have S := Q.sc d hmem
    obtain ⟨b, hb1, hb2⟩ := Q.cp i d hd
    refine funG Fd S (fun vs H Q h => h.1) fun cdv A outer s H vs QQ hg hr hsp => ?_
    obtain ⟨hl, g, as, S0, rv, S1, hs, ha, he, hq⟩ := hsp
    refine ⟨tSs K (callF tf fu k) fu b, PSs.nox ?_, ?_⟩
    · refine (soundS (T := T) (F := callF tf fu k) (k := k) (fu := fu) n).2 d.ct (Cx.nox _) (defBody d.st) b ?_ S.kind hb2
      exact {
        N := rfl
        nd := S.nd
        sc := rfl
        fn := rfl
        calm := rfl
        gd := hg
        rm := hr
        bl := W.bl
        fns := fun x j m e => by
          rw [Q.hT] at e
          obtain ⟨d', e1, e2, e3⟩ := fIx_get e
          obtain ⟨fa', fd', h1, h2, h3⟩ := W.fs d' (List.mem_of_getElem? e1)
          refine ⟨fa', fd', d'.ps, e2 ▸ h1, h2.kp, h3, ?_⟩
          rw [← e3]
          exact tab_ok Q W k j d' e1 fa' fd' h1 h2
        cst := W.cs
        xe := rfl }
    · have he : (tf[i]?).bind (fun fn => runFn (callF tf fu k) fu fn as S0) = some (rv, S1) := he
      rw [hb1, Option.bind_some] at he
      unfold runFn at he
      split at he
      · obtain ⟨o, e1, e2⟩ := Option.bind_eq_some_iff.mp he
        have hpl : d.ps.length ≤ d.N.length := by
          have := congrArg List.length S.pre
          rw [List.length_take] at this
          omega
        refine ⟨g, ⟨startG d.N.length as, S0⟩, o, start_ok hs ha (by rw [hl]; exact hpl), e1, ?_⟩
        have cm := start_calm ha d.N.length
        cases o with
        | nx s' =>
          cases e2
          exact fun σ' g' H' hs' x => hq .non g' H' hs'.bare (x.leave cm) .non
        | rt r s' =>
          cases e2
          exact fun v σ' g' H' hs' x q => hq v g' H' hs'.bare (x.leave cm) q.leave
        | bk s' => cases e2
      · cases he

theorem scr_ok {H : Hp} {a : Addr} {ns : List Int} (hS : SqL K H a (ns.map V.int)) : StOk K ⟨H, fun _ => a, a, a⟩ [] H ⟨[], none⟩ ∧ ArgsOk K ⟨H, fun _ => a, a, a⟩ ⟨[], none⟩ H H [.ref a] [.scr ns] := by
  have no : ∀ b, ¬ Ow ⟨H, fun _ => a, a, a⟩ ⟨[], none⟩ b := fun b w => w.elim (fun ⟨i, z, _⟩ => by simp [isOwn] at z) fun z => by cases z.1
  exact ⟨⟨Same.refl _, rfl, fun i x e => by simp at e, fun i j h => by simp [isOwn] at h, fun b w => absurd w (no b), fun S e => (nomatch e), (fun e => nomatch e), fun i h => by simp [isDr] at h⟩,
    .cons (r := .scr ns) rfl ⟨a, rfl, hS⟩ .nil⟩

structure Alone (P : Program) (w : World) (K : PySem.W.Frag) (h : Heap) (a : Addr) (H : Hp) : Prop where
  ok : HOk P w H h
  at_ : ∀ b u, H b = some u → b = a ∧ K.lookup a = none ∧ ∃ o xs, u = .frz o (.lst xs)
variable {mb : Str → Option Value} {fa a : Addr} {fd : FuncData} {x : Str} {sp : SpG} {s₁ : Shared} {vs : List Value} {ns : List Int} {H : Hp}
theorem Alone.hid (L : Alone P w K s₁.heap a H) {b : Addr} {o : Obj} (e : s₁.heap.get? b = some o) (hb : b ≠ a) : (hidT s₁.heap H).get? b = some o := by
  refine hidT_get e ?_
  cases q : H b with
  | none => rfl
  | some u => exact absurd (L.at_ b u q).1 hb
theorem Alone.ns_ (L : Alone P w K s₁.heap a H) (ha : s₁.heap.get? a = some { cls := .type "list", data := .seq vs.toArray }) {b : Addr} {m : Str → Option Value} (z : s₁.heap.Ns b m) : (hidT s₁.heap H).Ns b m := by
  obtain ⟨o, es, ep, e, d, r⟩ := z
  refine ⟨o, es, ep, L.hid e fun q => ?_, d, r⟩
  rw [q, ha] at e
  cases e
  cases d
theorem Alone.run (L : Alone P w K s₁.heap a H) (KX : K.In s₁.heap) (gN : s₁.heap.Ns mainGlobals mg) (bN : s₁.heap.Ns builtinsNs mb) (bB : ∀ x : Str, x ≠ "__name__" → mb x = bootBuiltins x) (nl : s₁.heap.NoLimit) (hg : s₁.gens = #[])
    (ha : s₁.heap.get? a = some { cls := .type "list", data := .seq vs.toArray }) {k : Nat} (hr : Room k callerA) (F : ∀ base : Heap, FnG P w K mg base k fa fd [x] sp) (bd : BindsTo s₁ fd ⟨[.ref a], []⟩ [(x, .ref a)])
    (hsp : sp [.ref a] H fun v _ => v = .bl true) :
    codeAny (model P w) callerA (.call (.ref fa) ⟨[.ref a], []⟩) (fun r s' => r = .ok (.ret (.bool true)) ∧ OldK s₁.heap s'.heap ∧ s'.os = s₁.os ∧ AllBare s'.gens) s₁ := by
  have kb : K.In (hidT s₁.heap H) := fun b o e => by
    refine hidT_get (KX b o e) ?_
    cases q : H b with
    | none => rfl
    | some u =>
      obtain ⟨rfl, z, _⟩ := L.at_ b u q
      rw [z] at e
      cases e
  have md : Mod K mg (hidT s₁.heap H) := ⟨kb, L.ns_ ha gN, ⟨mb, L.ns_ ha bN, bB⟩, by
    obtain ⟨mc, h1, h2⟩ := nl
    exact ⟨mc, L.ns_ ha h1, h2⟩⟩
  have e0 : Env0 P w K mg (hidT s₁.heap H) callerA [] s₁ H := {
    frames := rfl
    mod := md
    bs := fun b o e => of_hidT e
    bsz := Nat.le_of_eq (hidT_size _ _)
    funs := trivial
    frf := fun b z => by cases z
    hok := L.ok
    bare := .of_eq hg }
  refine codeAny_mono ((F _).run callerA [] s₁ H _ [.ref a] [.ref a] _ rfl hr e0 bd (.cons rfl .nil) hsp) fun r s' z => ?_
  match r, z with
  | .ok (.ret u), ⟨v, H', h1, h2, h3, h4, h5, h6⟩ =>
    have h6 : v = .bl true := h6
    subst h6
    have h5 : u = Value.bool true := h5
    subst h5
    refine ⟨rfl, OldK.of_keep fun b o e => ?_, h1, h2⟩
    cases q : H b with
    | none => exact h3.keep b o e q (fun y => by cases y) (by simp)
    | some u =>
      obtain ⟨_, _, ob, xs, rfl⟩ := L.at_ b u q
      have y := (L.ok b _ q).1
      rw [e] at y
      cases y
      exact (h4 b _ (h3.frzs b _ _ q)).1
  | .ok .next, z => exact z.elim
  | .ok .brk, z => exact z.elim
  | .ok .cont, z => exact z.elim
  | .error e, z => exact False.elim z
theorem alone_of (KX : K.In s₁.heap) (ha : s₁.heap.get? a = some { cls := .type "list", data := .seq vs.toArray }) (hi : IntsAre vs ns) (hl : ns.length ≤ sizeLine) : ∃ H, Alone P w K s₁.heap a H ∧ SqL K H a (ns.map V.int) := by
  have rv := vals_ints hi
  have lv := hi.length
  cases hk : K.lookup a with
  | some o =>
    have e := KX a o hk
    rw [ha] at e
    cases e
    exact ⟨fun _ => none, ⟨fun b u z => (nomatch (show (none : Option HO) = some u from z)), fun b u z => (nomatch (show (none : Option HO) = some u from z))⟩,
      .inr ⟨_, vs.toArray, _, hk, rfl, rfl, rfl, by rw [List.size_toArray, lv]; exact hl, by simpa using rv⟩⟩
  | none =>
    let H : Hp := fun b => if b = a then some (.frz { cls := .type "list", data := .seq vs.toArray } (.lst (ns.map V.int))) else none
    have is : ∀ b u, H b = some u → b = a ∧ u = .frz { cls := .type "list", data := .seq vs.toArray } (.lst (ns.map V.int)) := fun b u z => by
      by_cases q : b = a
      · exact ⟨q, (Option.some.inj ((if_pos q).symm.trans z)).symm⟩
      · exact (nomatch (if_neg q).symm.trans z)
    refine ⟨H, ⟨fun b u z => ?_, fun b u z => ⟨(is b u z).1, hk, _, _, (is b u z).2⟩⟩, .inl (.inr ⟨{ cls := .type "list", data := .seq vs.toArray }, if_pos rfl⟩)⟩
    obtain ⟨rfl, rfl⟩ := is b u z
    exact ⟨ha, by rw [List.length_map]; exact hl, vs, _, rv, ha⟩
end
theorem law_end {l : PySem.W.OpenLaw} {m k n fu : Nat} {q : Program} {loose : List Str} {XP : (Str → Option Value) → Heap → Prop} {YP : World → Heap → Prop} {d : DefRec} {T : Tb} {ds : List Df} {tf : List Fn} {i : Nat} {dl : Df} {x : Str}
    (hn : l.most = some m) (hm : m ≤ sizeLine) (hdf : d.params.defaults = []) (hr : Room k callerA) (Q : Tab T n ds tf) (hi : ds[i]? = some dl) (hx : dl.ps = [x]) (hnm : d.name = dl.nm)
    (hY : ∀ (w : World) (mg : Str → Option Value) (h : Heap), YP w h → h.Ns mainGlobals mg → ∃ K : PySem.W.Frag, K.In h ∧ Told K mg T ds)
    (hb : ∀ (K : PySem.W.Frag) (f : Addr) (fd : FuncData), FunD K dl.nm dl.nm (defArgs dl.st) (defBody dl.st) (defScope dl.st) [] [] f fd → ∀ (s : Shared) (v : Value), BindsTo s fd ⟨[v], []⟩ [(x, v)])
    (law : ∀ ns : List Int, ns.length ≤ m → ∃ S, callF tf fu k i [.scr ns] none = some (.v (.bool true), S)) :
    PySem.W.WalkO q loose XP YP l.row.toRowW d [] (fun f vs => PySem.call f vs) := by
  refine Att.attach_call hn hdf fun w s₀ s₁ mg mb fa o pm cd doc a vs ns G Y ho hd hcd hmg hobj hints hlen hg => ?_
  obtain ⟨K, KX, W⟩ := hY w mg _ Y G.T.g
  obtain ⟨fa', fd, h1, h2, h3⟩ := W.fs dl (List.mem_of_getElem? hi)
  rw [hnm, h1] at hmg
  cases hmg
  obtain ⟨H, L, hS⟩ := alone_of (P := l.prog) (w := w) KX hobj hints (Nat.le_trans hlen hm)
  obtain ⟨S, e⟩ := law ns hlen
  obtain ⟨z1, z2⟩ := scr_ok hS
  refine L.run KX G.T.g G.T.b G.T.builtins G.T.nolimit hg hobj hr (x := x) (sp := spF K (callF tf fu k) i dl.ps.length) (fun base => ?_) (hb K fa fd h2 s₁ (.ref a)) ⟨by rw [hx]; rfl, _, _, _, _, S, z1, z2, e, fun v g' H' _ _ r => ?_⟩
  · have := tab_ok (P := l.prog) (w := w) (base := base) (fu := fu) Q W k i dl hi fa fd h1 h2
    rwa [hx] at this ⊢
  · cases r
    rfl
end Tl

namespace Tl
open PySem L2 PySem.Spec PyProof.Rows
def Df.dd (d : Df) : He.DefD := ⟨(d.nm, none), d.nm, d.nm, defArgs d.st, defBody d.st, defScope d.st, [], []⟩
def faOf (T : Tb) (ds : List Df) : List He.Fa := (ds.map fun d => He.Fa.glo d.nm) ++ ((bnames.map He.Fa.free) ++ T.cs.map fun p => He.Fa.int p.1 p.2)
theorem mem_look : ∀ {l : List (Str × Int)} {x : Str} {i : Int}, l.lookup x = some i → (x, i) ∈ l := PySem.mem_of_lookup
theorem told_of {K : PySem.W.Frag} {h : Heap} {mg : Str → Option Value} {T : Tb} {ds : List Df} (X : K.In h) (G : h.Ns mainGlobals mg) (c : He.SaysD (faOf T ds) (ds.map Df.dd) K)
    (hb : ∀ d ∈ ds, ∀ (f : Addr) (fd : FuncData), FunD K d.nm d.nm (defArgs d.st) (defBody d.st) (defScope d.st) [] [] f fd → Binds K fd d.ps []) : Told K mg T ds where
  fs := fun d hd => by
    obtain ⟨i, hi⟩ := List.mem_iff_getElem?.mp hd
    obtain ⟨fd, F⟩ := c.def_ i (d := d.dd) (by rw [List.getElem?_map, hi]; rfl)
    have hm : He.Fa.glo d.nm ∈ faOf T ds := List.mem_append_left _ (List.mem_map.mpr ⟨d, hd, rfl⟩)
    obtain ⟨j, hj⟩ := List.mem_iff_getElem?.mp hm
    exact ⟨He.ga K d.nm, fd, He.glo_ok X G (c.fact j hj), F, hb d hd _ fd F⟩
  bl := fun x hx => by
    have hm : He.Fa.free x ∈ faOf T ds := List.mem_append_right _ (List.mem_append_left _ (List.mem_map.mpr ⟨x, hx, rfl⟩))
    obtain ⟨j, hj⟩ := List.mem_iff_getElem?.mp hm
    exact He.free_ok X G (c.fact j hj)
  cs := fun x i e => by
    have hm : He.Fa.int x i ∈ faOf T ds := List.mem_append_right _ (List.mem_append_right _ (List.mem_map.mpr ⟨(x, i), mem_look e, rfl⟩))
    obtain ⟨j, hj⟩ := List.mem_iff_getElem?.mp hm
    exact He.int_ok X G (c.fact j hj)
end Tl

namespace Tl
open PySem

def W {α : Type} (o : Option α) (Q : α → Prop) : Prop := ∃ a, o = some a ∧ Q a
section
variable {α β : Type} {o : Option α} {Q Q' : α → Prop}
theorem W.mono (h : W o Q) (k : ∀ a, Q a → Q' a) : W o Q' := h.elim fun a z => ⟨a, z.1, k a z.2⟩
theorem W_some {a : α} : W (some a) Q ↔ Q a := ⟨fun ⟨_, e, q⟩ => by cases e; exact q, fun q => ⟨a, rfl, q⟩⟩
theorem W_bind {f : α → Option β} {Q : β → Prop} : W (o.bind f) Q ↔ W o fun a => W (f a) Q := by
  cases o with
  | none => exact ⟨fun ⟨_, e, _⟩ => (nomatch e), fun ⟨_, e, _⟩ => (nomatch e)⟩
  | some a => rw [Option.bind_some, W_some]
theorem W_map {f : α → β} {Q : β → Prop} : W (o.map f) Q ↔ W o fun a => Q (f a) := by
  cases o with
  | none => exact ⟨fun ⟨_, e, _⟩ => (nomatch e), fun ⟨_, e, _⟩ => (nomatch e)⟩
  | some a => rw [Option.map_some, W_some, W_some]
theorem W_guard {c : Prop} [Decidable c] : W (if c then o else none) Q ↔ c ∧ W o Q := by
  by_cases h : c
  · rw [if_pos h]; exact ⟨fun z => ⟨h, z⟩, fun z => z.2⟩
  · rw [if_neg h]; exact ⟨fun ⟨_, e, _⟩ => (nomatch e), fun z => absurd z.1 h⟩
theorem W_guardB {c : Bool} : W (if c = true then o else none) Q ↔ c = true ∧ W o Q := W_guard
end

section
variable {F : CallT} {fu : Nat}
def kS (F : CallT) (fu : Nat) (r : ISs) (Q : Out → Prop) : Out → Prop
  | .nx s => W (evSs F fu r s) Q
  | .rt v s => Q (.rt v s)
  | .bk s => Q (.bk s)
theorem kS_nx {r : ISs} {Q : Out → Prop} {s : Sta} : kS F fu r Q (.nx s) = W (evSs F fu r s) Q := rfl
theorem kS_rt {r : ISs} {Q : Out → Prop} {v : Rv} {s : Sta} : kS F fu r Q (.rt v s) = Q (.rt v s) := rfl
theorem kS_bk {r : ISs} {Q : Out → Prop} {s : Sta} : kS F fu r Q (.bk s) = Q (.bk s) := rfl
theorem W_nil {Q : Out → Prop} {s : Sta} : W (evSs F fu .nil s) Q ↔ Q (.nx s) := by
  rw [evSs, W_some]
theorem W_cons {a : IS} {r : ISs} {Q : Out → Prop} {s : Sta} : W (evSs F fu (.cons a r) s) Q ↔ W (evS F fu a s) (kS F fu r Q) := by
  rw [evSs, W_bind]
  constructor
  · refine fun h => h.mono fun o z => ?_
    cases o with
    | nx s => exact z
    | rt v s => exact (W_some (Q := Q)).mp z
    | bk s => exact (W_some (Q := Q)).mp z
  · refine fun h => h.mono fun o z => ?_
    cases o with
    | nx s => exact z
    | rt v s => exact (W_some (Q := Q)).mpr z
    | bk s => exact (W_some (Q := Q)).mpr z
def oQ (Q : Rv × Option DS → Prop) : Out → Prop
  | .nx s => Q (.v .none, s.s)
  | .rt r s => Q (r, s.s)
  | .bk _ => False
theorem oQ_nx {Q : Rv × Option DS → Prop} {s : Sta} : oQ Q (.nx s) = Q (.v .none, s.s) := rfl
theorem oQ_rt {Q : Rv × Option DS → Prop} {r : Rv} {s : Sta} : oQ Q (.rt r s) = Q (r, s.s) := rfl
theorem W_run {fn : Fn} {as : List Rv} {S : Option DS} {Q : Rv × Option DS → Prop} (hl : as.length = fn.np) (h : W (evSs F fu fn.body ⟨startG fn.nn as, S⟩) (oQ Q)) : W (runFn F fu fn as S) Q := by
  unfold runFn
  rw [if_pos hl, W_bind]
  refine h.mono fun o z => ?_
  cases o with
  | nx s => exact W_some.mpr z
  | rt r s => exact W_some.mpr z
  | bk s => exact z.elim
theorem W_call {tf : List Fn} {k i : Nat} {np nn : Nat} {b : ISs} {as : List Rv} {S : Option DS} {Q : Rv × Option DS → Prop} (hf : tf[i]? = some ⟨np, nn, b⟩) (hl : as.length = np) (h : W (evSs (callF tf fu k) fu b ⟨startG nn as, S⟩) (oQ Q)) : W (callF tf fu (k + 1) i as S) Q := by
  show W ((tf[i]?).bind fun fn => runFn (callF tf fu k) fu fn as S) Q
  rw [hf, Option.bind_some]
  exact W_run hl h

theorem W_for {step : D → Sta → Option Out} {Q : Out → Prop} (I : List D → Sta → Prop) (hs : ∀ x r s, I (x :: r) s → W (step x s) fun o => match o with
    | .nx s' => I r s'
    | .bk s' => Q (.nx s')
    | .rt v s' => Q (.rt v s')) (he : ∀ s, I [] s → Q (.nx s)) : ∀ {l : List D} {s : Sta}, I l s → W (forLoop step l s) Q
  | [], s, h => W_some.mpr (he s h)
  | x :: r, s, h => by
    rw [forLoop, W_bind]
    refine (hs x r s h).mono fun o z => ?_
    cases o with
    | nx s' => exact W_for I hs he z
    | bk s' => exact W_some.mpr z
    | rt v s' => exact W_some.mpr z
theorem W_compLoop {step : D → List D → Sta → Option (List D × Sta)} {Q : List D × Sta → Prop} (I : List D → List D → Sta → Prop) (hs : ∀ x r acc s, I (x :: r) acc s → W (step x acc s) fun p => I r p.1 p.2) (he : ∀ acc s, I [] acc s → Q (acc, s)) :
    ∀ {l acc : List D} {s : Sta}, I l acc s → W (compLoop step l acc s) Q
  | [], acc, s, h => W_some.mpr (he acc s h)
  | x :: r, acc, s, h => by
    rw [compLoop, W_bind]
    exact (hs x r acc s h).mono fun p z => W_compLoop I hs he z
def cStep (F : CallT) (elt : IE) (tg : Tg) (ifs : IO) (own : List Nat) (x : D) (acc : List D) (s : Sta) : Option (List D × Sta) :=
  (asgT tg x (s.wipe own)).bind fun s2 => (evT F ifs s2).bind fun q => if q.1 then (evE F elt q.2).bind fun r => r.1.d.map fun d => (acc ++ [d], r.2) else some (acc, q.2)
theorem evE_comp {elt : IE} {tg : Tg} {it : II} {ifs : IO} {own : List Nat} {s : Sta} : evE F (.comp elt tg it ifs own) s = (evI F it s).bind fun p => if okLen p.1.length && noOwn p.2 own then
    (compLoop (cStep F elt tg ifs own) p.1 [] p.2).map (fun q => (.f q.1, q.2.back p.2 own)) else none := by
  rw [evE] <;> rfl
theorem evI_seq {e : IE} {s : Sta} : evI F (.seq e) s = (evE F e s).bind fun p => p.1.d.bind fun d => (seqD d).map (·, p.2) := by rw [evI]
end
theorem cmpD_ii_eq {i j : Int} : cmpD .Eq (.int i) (.int j) = some (decide (i = j)) := rfl
theorem cmpD_ii_ne {i j : Int} : cmpD .NotEq (.int i) (.int j) = some (!decide (i = j)) := rfl
theorem cmpD_ii_lt {i j : Int} : cmpD .Lt (.int i) (.int j) = some (decide (i < j)) := rfl
theorem cmpD_ii_le {i j : Int} : cmpD .LtE (.int i) (.int j) = some (decide (i ≤ j)) := rfl
theorem cmpD_ii_gt {i j : Int} : cmpD .Gt (.int i) (.int j) = some (decide (j < i)) := rfl
theorem cmpD_ii_ge {i j : Int} : cmpD .GtE (.int i) (.int j) = some (decide (j ≤ i)) := rfl
theorem cmpD_bb_eq {i j : Bool} : cmpD .Eq (.bool i) (.bool j) = some (decide (i = j)) := by cases i <;> cases j <;> rfl
theorem cmpD_bb_ne {i j : Bool} : cmpD .NotEq (.bool i) (.bool j) = some (!decide (i = j)) := by cases i <;> cases j <;> rfl
theorem atD_in {α : Type} {xs : List α} {i : Int} (h0 : 0 ≤ i) (h1 : i < xs.length) : ∃ x, atD xs i = some x ∧ x ∈ xs ∧ xs[i.toNat]? = some x := by
  have h2 : i.toNat < xs.length := by omega
  refine ⟨xs[i.toNat], ?_, List.getElem_mem h2, by simp [h2]⟩
  unfold atD ixD
  rw [if_pos h0, if_pos h1, Option.bind_some]
  simp [h2]
theorem ixD_in {n : Nat} {i : Int} (h0 : 0 ≤ i) (h1 : i < n) : ixD n i = some i.toNat := by
  unfold ixD
  rw [if_pos h0, if_pos h1]
theorem at_0 {α : Type} {x : α} {l : List α} : atD (x :: l) 0 = some x := by
  unfold atD ixD
  rw [if_pos (by decide), if_pos (by rw [List.length_cons]; omega)]
  rfl
theorem at_1 {α : Type} {x y : α} {l : List α} : atD (x :: y :: l) 1 = some y := by
  unfold atD ixD
  rw [if_pos (by decide), if_pos (by rw [List.length_cons, List.length_cons]; omega)]
  rfl
theorem at_2 {α : Type} {x y z : α} {l : List α} : atD (x :: y :: z :: l) 2 = some z := by
  unfold atD ixD
  rw [if_pos (by decide), if_pos (by rw [List.length_cons, List.length_cons, List.length_cons]; omega)]
  rfl
theorem small_lit {n : Nat} : small (no_index (OfNat.ofNat n : Int)) = decide (n < 2 ^ 62) := rfl
theorem small_of {i : Int} (h : i.natAbs < 2 ^ 62) : small i = true := decide_eq_true h
theorem evE_var {F : CallT} {i : Nat} {s : Sta} : evE F (.var i) s = (readV s i) := by rw [evE]
theorem evE_con {F : CallT} {d : D} {s : Sta} : evE F (.con d) s = (some (.v d, s)) := by rw [evE]
theorem evE_bin {F : CallT} {op : Operator} {a : IE} {b : IE} {s : Sta} : evE F (.bin op a b) s = ((evE F a s).bind fun p => (evE F b p.2).bind fun q => p.1.d.bind fun x => q.1.d.bind fun y => (binR op x y).map (·, q.2)) := by rw [evE]
theorem evE_neg {F : CallT} {a : IE} {s : Sta} : evE F (.neg a) s = ((evE F a s).bind fun p => (asI p.1).map fun i => (.v (.int (-i)), p.2)) := by rw [evE]
theorem evE_not_ {F : CallT} {a : IE} {s : Sta} : evE F (.not_ a) s = ((evE F a s).bind fun p => (asB p.1).map fun i => (.v (.bool (!i)), p.2)) := by rw [evE]
theorem evE_cmp {F : CallT} {op : CmpOp} {a : IE} {b : IE} {s : Sta} : evE F (.cmp op a b) s = ((evE F a s).bind fun p => (evE F b p.2).bind fun q => p.1.d.bind fun x => q.1.d.bind fun y => (cmpD op x y).map fun c => (.v (.bool c), q.2)) := by rw [evE]
theorem evE_chain {F : CallT} {op : CmpOp} {op' : CmpOp} {a : IE} {b : IE} {c : IE} {s : Sta} : evE F (.chain op op' a b c) s = ((evE F a s).bind fun p => (evE F b p.2).bind fun q => p.1.d.bind fun x => q.1.d.bind fun y => (cmpD op x y).bind fun k =>
      if k then (evE F c q.2).bind fun r => r.1.d.bind fun z => (cmpD op' y z).map fun c => (.v (.bool c), r.2) else some (.v (.bool false), q.2)) := by rw [evE]
theorem evE_and_ {F : CallT} {a : IE} {b : IE} {s : Sta} : evE F (.and_ a b) s = ((evE F a s).bind fun p => (asB p.1).bind fun k => if k then evE F b p.2 else some (.v (.bool false), p.2)) := by rw [evE]
theorem evE_or_ {F : CallT} {a : IE} {b : IE} {s : Sta} : evE F (.or_ a b) s = ((evE F a s).bind fun p => (asB p.1).bind fun k => if k then some (.v (.bool true), p.2) else evE F b p.2) := by rw [evE]
theorem evE_ite {F : CallT} {c : IE} {a : IE} {b : IE} {s : Sta} : evE F (.ite c a b) s = ((evE F c s).bind fun p => (asB p.1).bind fun k => if k then evE F a p.2 else evE F b p.2) := by rw [evE]
theorem evE_tup {F : CallT} {es : IEs} {s : Sta} : evE F (.tup es) s = ((evEs F es s).bind fun p => (dAll p.1).map fun xs => (.v (.tuple xs), p.2)) := by rw [evE]
theorem evE_lst {F : CallT} {es : IEs} {s : Sta} : evE F (.lst es) s = ((evEs F es s).bind fun p => (dAll p.1).map fun xs => (.f xs, p.2)) := by rw [evE]
theorem evE_sub {F : CallT} {a : IE} {i : IE} {s : Sta} : evE F (.sub a i) s = ((evE F a s).bind fun p => (evE F i p.2).bind fun q => p.1.d.bind fun x => q.1.d.bind fun y => (subD x y).map fun d => (.v d, q.2)) := by rw [evE]
theorem evE_subv {F : CallT} {x : Nat} {i : IE} {s : Sta} : evE F (.subv x i) s = (if bnd s x then (evE F i s).bind fun q => q.1.d.bind fun y => (subS q.2 x y).map (fun d => (.v d, q.2)) else none) := by rw [evE]
theorem evE_slice {F : CallT} {a : IE} {lo : IO} {hi : IO} {s : Sta} : evE F (.slice a lo hi) s = ((evE F a s).bind fun p => (evO F lo p.2).bind fun q => (evO F hi q.2).bind fun r => (sliceV p.1 q.1 r.1).map (·, r.2)) := by rw [evE]
theorem evE_rev {F : CallT} {a : IE} {s : Sta} : evE F (.rev a) s = ((evE F a s).bind fun p => p.1.d.bind fun x => (revR x).map (·, p.2)) := by rw [evE]
theorem evE_lenv {F : CallT} {x : Nat} {s : Sta} : evE F (.lenv x) s = ((lenS s x).map fun (n : Nat) => (Rv.v (PyData.int (n : Int)), s)) := by rw [evE]
theorem evE_nilv {F : CallT} {x : Nat} {neg : Bool} {s : Sta} : evE F (.nilv x neg) s = ((nilS s x).map fun b => (.v (.bool (if neg then !b else b)), s)) := by rw [evE]
theorem evE_inv {F : CallT} {a : IE} {x : Nat} {neg : Bool} {s : Sta} : evE F (.inv a x neg) s = ((evE F a s).bind fun p => p.1.d.bind fun d => (inS p.2 x d).map fun b => (.v (.bool (if neg then !b else b)), p.2)) := by rw [evE]
theorem evE_call {F : CallT} {f : Nat} {es : IEs} {s : Sta} : evE F (.call f es) s = ((evEs F es s).bind fun p => (F f p.1 p.2.s).map fun q => (q.1, { p.2 with s := q.2 })) := by rw [evE]
theorem evE_bi {F : CallT} {b : BI} {es : IEs} {s : Sta} : evE F (.bi b es) s = ((evEs F es s).bind fun p => (dAll p.1).bind fun xs => (biR b xs).map (·, p.2)) := by rw [evE]
theorem evE_rngl {F : CallT} {a : IE} {b : IE} {s : Sta} : evE F (.rngl a b) s = ((evE F a s).bind fun p => (evE F b p.2).bind fun q => (asI p.1).bind fun i => (asI q.1).bind fun j => if small i && small j && okLen (j - i).toNat then some (.f (rngD i j), q.2) else none) := by rw [evE]
theorem evE_isi {F : CallT} {a : IE} {ts : List Ty} {s : Sta} : evE F (.isi a ts) s = ((evE F a s).bind fun p => p.1.d.map fun d => (.v (.bool (ts.any fun t => isTy t d)), p.2)) := by rw [evE]
theorem evE_pop0 {F : CallT} {x : Nat} {s : Sta} : evE F (.pop0 x) s = ((popS s x (-1)).map fun p => (.v p.1, p.2)) := by rw [evE]
theorem evE_pop1 {F : CallT} {x : Nat} {i : IE} {s : Sta} : evE F (.pop1 x i) s = (if bndL s x then (evE F i s).bind fun p => (asI p.1).bind fun k => if small k then (popS p.2 x k).map (fun q => (.v q.1, q.2)) else none else none) := by rw [evE]
theorem evE_lstx {F : CallT} {es : IXs} {s : Sta} : evE F (.lstx es) s = ((evXs F es s).bind fun p => if okLen p.1.length then some (.f p.1, p.2) else none) := by rw [evE]
theorem evE_dsp {F : CallT} {k v : IE} {s : Sta} : evE F (.dsp k v) s = ((evE F k s).bind fun p => (evE F v p.2).bind fun q => p.1.d.bind fun a => q.1.d.bind fun b => (keyOf a).map fun k => (.fd [(k, b)], q.2)) := by rw [evE]
theorem evE_imax {F : CallT} {x : Nat} {s : Sta} : evE F (.imax x) s = ((imaxS s x).map fun (n : Nat) => (Rv.v (PyData.int (n : Int)), s)) := by rw [evE]
theorem evE_slb {F : CallT} {a i : IE} {s : Sta} : evE F (.slb a i) s = ((evE F a s).bind fun p => (evE F i p.2).bind fun q => p.1.d.bind fun x => (asI q.1).bind fun i => (slbR x i).map (·, q.2)) := by rw [evE]
theorem evE_sla {F : CallT} {a i : IE} {s : Sta} : evE F (.sla a i) s = ((evE F a s).bind fun p => (evE F i p.2).bind fun q => p.1.d.bind fun x => (asI q.1).bind fun i => (slaR x i).map (·, q.2)) := by rw [evE]
theorem evE_idx {F : CallT} {a b : IE} {s : Sta} : evE F (.idx a b) s = ((evE F a s).bind fun p => (evE F b p.2).bind fun q => p.1.d.bind fun x => q.1.d.bind fun y => (idxD x y).map fun (n : Nat) => (Rv.v (PyData.int (n : Int)), q.2)) := by rw [evE]
def dcStep (F : CallT) (kx vx : IE) (tg : Tg) (ifs : IO) (own : List Nat) (x : D) (acc : List (L2.Key × D)) (s : Sta) : Option (List (L2.Key × D) × Sta) :=
  (asgT tg x (s.wipe own)).bind fun s2 => (evT F ifs s2).bind fun q => if q.1 then (evE F kx q.2).bind fun r => (evE F vx r.2).bind fun t => r.1.d.bind fun a => t.1.d.bind fun b => (keyOf a).map fun k => (putK acc k b, t.2) else some (acc, q.2)
theorem evE_dcomp {F : CallT} {kx vx : IE} {tg : Tg} {it : II} {ifs : IO} {own : List Nat} {s : Sta} : evE F (.dcomp kx vx tg it ifs own) s = (evI F it s).bind fun p => if okLen p.1.length && noOwn p.2 own then
    (dcLoop (dcStep F kx vx tg ifs own) p.1 [] p.2).map (fun q => (.fd q.1, q.2.back p.2 own)) else none := by
  rw [evE] <;> rfl
def extR (x : Nat) (d : D) (s : Sta) : Option Out := match d with
  | .list ys => (extS s x ys).map .nx
  | _ => none
theorem evS_ext {F : CallT} {fu : Nat} {x : Nat} {e : IE} {s : Sta} : evS F fu (.ext x e) s = (if bndL s x then (evE F e s).bind fun p => p.1.d.bind fun d => extR x d p.2 else none) := by rw [evS] <;> rfl
theorem ex_l {x : Nat} {ys : List D} {s : Sta} : extR x (.list ys) s = (extS s x ys).map .nx := rfl
theorem evS_augI {F : CallT} {fu : Nat} {i : Nat} {e : IE} {s : Sta} : evS F fu (.augI i e) s = ((getI s i).bind fun a => (evE F e s).bind fun p => (asI p.1).map fun b => .nx (p.2.set i (.v (.int (a + b))))) := by rw [evS]
theorem evXs_nil {F : CallT} {s : Sta} : evXs F .nil s = some ([], s) := by rw [evXs]
theorem evXs_cons {F : CallT} {a : IE} {r : IXs} {s : Sta} : evXs F (.cons a r) s = ((evE F a s).bind fun p => p.1.d.bind fun d => (evXs F r p.2).map fun q => (d :: q.1, q.2)) := by rw [evXs]
theorem evXs_star {F : CallT} {a : IE} {r : IXs} {s : Sta} : evXs F (.star a r) s = ((evE F a s).bind fun p => p.1.d.bind fun d => (seqD d).bind fun xs => (evXs F r p.2).map fun q => (xs ++ q.1, q.2)) := by rw [evXs]
theorem evS_set {F : CallT} {fu : Nat} {i : Nat} {e : IE} {s : Sta} : evS F fu (.set i e) s = ((evE F e s).map fun p => .nx (p.2.set i p.1.slot)) := by rw [evS]
theorem evS_unp {F : CallT} {fu : Nat} {t : Tg} {e : IE} {s : Sta} : evS F fu (.unp t e) s = ((evE F e s).bind fun p => p.1.d.bind fun d => (asgT t (unpD d) p.2).map .nx) := by rw [evS]
theorem evS_par {F : CallT} {fu : Nat} {is : List Nat} {es : IEs} {s : Sta} : evS F fu (.par is es) s = ((evPs F es s).bind fun p => (setAll is p.1 p.2).map .nx) := by rw [evS]
theorem evS_stsub {F : CallT} {fu : Nat} {x : Nat} {i : IE} {e : IE} {s : Sta} : evS F fu (.stsub x i e) s = ((evE F e s).bind fun p => if bnd p.2 x then (evE F i p.2).bind fun q => p.1.d.bind fun d => q.1.d.bind fun k => (stS q.2 x k d).map .nx else none) := by rw [evS]
theorem evS_app {F : CallT} {fu : Nat} {x : Nat} {e : IE} {s : Sta} : evS F fu (.app x e) s = (if bndL s x then (evE F e s).bind fun p => p.1.d.bind fun d => (appS p.2 x d).map .nx else none) := by rw [evS]
theorem evS_drop {F : CallT} {fu : Nat} {e : IE} {s : Sta} : evS F fu (.drop e) s = ((evE F e s).map fun p => .nx p.2) := by rw [evS]
theorem evS_if_ {F : CallT} {fu : Nat} {c : IE} {a : ISs} {b : ISs} {s : Sta} : evS F fu (.if_ c a b) s = ((evE F c s).bind fun p => (asB p.1).bind fun k => if k then evSs F fu a p.2 else evSs F fu b p.2) := by rw [evS]
theorem evS_ret {F : CallT} {fu : Nat} {e : IE} {s : Sta} : evS F fu (.ret e) s = ((evE F e s).bind fun p => (retArg p.1).map fun r => .rt r p.2) := by rw [evS]
theorem evS_retN {F : CallT} {fu : Nat}  {s : Sta} : evS F fu (.retN) s = (some (.rt (.v .none) s)) := by rw [evS]
theorem evS_brk {F : CallT} {fu : Nat}  {s : Sta} : evS F fu (.brk) s = (some (.bk s)) := by rw [evS]
theorem evS_pass {F : CallT} {fu : Nat}  {s : Sta} : evS F fu (.pass) s = (some (.nx s)) := by rw [evS]
theorem evS_undr {F : CallT} {fu : Nat} {a : Nat} {b : Nat} {c : Nat} {x : Nat} {s : Sta} : evS F fu (.undr a b c x) s = ((match s.g[x]?, s.s with
      | some .dr, some S => some (.nx (((s.set a (.v (.list (S.cells.map .int)))).set b (.v (.int S.turn))).set c .drr))
      | _, _ => none)) := by rw [evS] <;> rfl
def fStep (F : CallT) (fu : Nat) (t : Tg) (body : ISs) (x : D) (s : Sta) : Option Out := (asgT t x s).bind fun s' => evSs F fu body s'
theorem evS_for {F : CallT} {fu : Nat} {t : Tg} {it : II} {body : ISs} {s : Sta} : evS F fu (.for_ t it body) s = (evI F it s).bind fun p => forLoop (fStep F fu t body) p.1 p.2 := by rw [evS] <;> rfl
def wTest (F : CallT) (c : IE) (s : Sta) : Option (Bool × Sta) := (evE F c s).bind fun p => (asB p.1).map (·, p.2)
def wBody (F : CallT) (fu : Nat) (b : ISs) (s : Sta) : Option Out := evSs F fu b s
theorem evS_while {F : CallT} {fu : Nat} {c : IE} {body : ISs} {s : Sta} : evS F fu (.while_ c body) s = whileLoop (wTest F c) (wBody F fu body) fu s := by rw [evS] <;> rfl
def mkR (p : Rv) (q : Rv × Sta) : Option Out := match p, q.1 with
  | .v (.list xs), .f ys => if q.2.s.isNone then (allInts xs).bind fun ns => (allInts ys).map fun ms => .rt .dr { q.2 with s := some ⟨ns, 0, ms⟩ } else none
  | _, _ => none
theorem evS_mkdr {F : CallT} {fu : Nat} {x : Nat} {e : IE} {s : Sta} : evS F fu (.mkdr x e) s = (readV s x).bind fun p => (evE F e p.2).bind fun q => mkR p.1 q := by rw [evS] <;> rfl
section
variable {i j : Int} {xs ys : List D} {d e : D} {g : List Slot} {S : Option DS} {n : Nat} {b c : Bool}
theorem b_add : binR .Add (.int i) (.int j) = some (.v (.int (i + j))) := rfl
theorem b_sub : binR .Sub (.int i) (.int j) = some (.v (.int (i - j))) := rfl
theorem b_mul : binR .Mult (.int i) (.int j) = if (small i || small j) = true then some (.v (.int (i * j))) else none := rfl
theorem b_div : binR .FloorDiv (.int i) (.int j) = if (decide (0 < j) && decide (j.natAbs < 2 ^ 200)) = true then some (.v (.int (i / j))) else none := rfl
theorem b_mod : binR .Mod (.int i) (.int j) = if decide (0 < j) = true then some (.v (.int (i % j))) else none := rfl
theorem b_pow : binR .Pow (.int i) (.int j) = if (decide (0 ≤ j) && decide (j ≤ 1000) && small i) = true then some (.v (.int (i ^ j.toNat))) else none := rfl
theorem b_shl : binR .LShift (.int i) (.int j) = if (decide (0 ≤ j) && decide (j ≤ 1000) && small i) = true then some (.v (.int (i * 2 ^ j.toNat))) else none := rfl
theorem b_shr : binR .RShift (.int i) (.int j) = if decide (0 ≤ j) = true then some (.v (.int (i / 2 ^ j.toNat))) else none := rfl
theorem b_and : binR .BitAnd (.int i) (.int j) = some (.v (.int (Builtin.bitAnd i j))) := rfl
theorem b_addL : binR .Add (.list xs) (.list ys) = if okLen (xs.length + ys.length) = true then some (.f (xs ++ ys)) else none := rfl
theorem b_addT : binR .Add (.tuple xs) (.tuple ys) = if okLen (xs.length + ys.length) = true then some (.v (.tuple (xs ++ ys))) else none := rfl
theorem b_mulL : binR .Mult (.list xs) (.int i) = if (okLen (xs.length * i.toNat) && small i) = true then some (.f (List.replicate i.toNat xs).flatten) else none := rfl
theorem sl_v : Rv.slot (.v d) = .v d := rfl
theorem sl_f : Rv.slot (.f xs) = .own xs := rfl
theorem sl_dr : Rv.slot .dr = .dr := rfl
theorem sl_scr {ns : List Int} : Rv.slot (.scr ns) = .scr ns := rfl
theorem ar_v : Rv.arg (.v d) = some (.v d) := rfl
theorem ar_f : Rv.arg (.f xs) = some (.v (.list xs)) := rfl
theorem ar_dr : Rv.arg .dr = some .dr := rfl
theorem ar_scr {ns : List Int} : Rv.arg (.scr ns) = some (.scr ns) := rfl
theorem rv_v : Rv.d (.v d) = some d := rfl
theorem rv_f : Rv.d (.f xs) = some (.list xs) := rfl
theorem as_i : asI (.v (.int i)) = some i := rfl
theorem as_b : asB (.v (.bool b)) = some b := rfl
theorem da_nil : dAll [] = some [] := rfl
theorem da_cons {r : Rv} {rs : List Rv} : dAll (r :: rs) = r.d.bind fun a => (dAll rs).map (a :: ·) := rfl
theorem sa_nil {s : Sta} : setAll [] [] s = some s := rfl
theorem sa_cons {k : Nat} {is : List Nat} {r : Rv} {rs : List Rv} {s : Sta} : setAll (k :: is) (r :: rs) s = setAll is rs (s.set k r.slot) := rfl
theorem bi_len : biR .len [d] = (lenD d).map fun (n : Nat) => Rv.v (PyData.int (n : Int)) := rfl
theorem bi_max2 : biR .max2 [.int i, .int j] = some (.v (.int (if j > i then j else i))) := rfl
theorem bi_min2 : biR .min2 [.int i, .int j] = some (.v (.int (if j < i then j else i))) := rfl
theorem bi_maxL : biR .maxL [d] = (match (seqD d).bind allInts with
    | some (n :: ns) => some (.v (.int (maxI n ns)))
    | _ => none) := rfl
theorem bi_min3 {k : Int} : biR .min3 [.int i, .int j, .int k] = some (.v (.int (if k < (if j < i then j else i) then k else if j < i then j else i))) := rfl
theorem bi_minL : biR .minL [d] = (match (seqD d).bind allInts with
    | some (n :: ns) => some (.v (.int (minI n ns)))
    | _ => none) := rfl
theorem bi_sumL : biR .sumL [.list xs] = (allInts xs).map fun ns => .v (.int ns.sum) := rfl
theorem bi_allL : biR .allL [.list xs] = (allBools xs).map fun bs => .v (.bool (bs.all id)) := rfl
theorem bi_anyL : biR .anyL [.list xs] = (allBools xs).map fun bs => .v (.bool (bs.any id)) := rfl
theorem bi_sortedT : biR .sorted [.tuple xs] = (sortR xs).map .f := rfl
theorem bi_lenSet {d : D} : biR .lenSet [d] = (lenSetD d).map fun (n : Nat) => Rv.v (PyData.int (n : Int)) := rfl
theorem bi_sortSet {d : D} : biR .sortSet [d] = (sortSetD d).map .f := rfl
theorem bi_sorted : biR .sorted [.list xs] = (sortR xs).map .f := rfl
theorem bi_sortedR : biR .sortedR [.list xs] = (sortRR xs).map .f := rfl
theorem sortR_ints {ns : List Int} : sortR (ns.map PyData.int) = some ((sortI ns).map .int) := by unfold sortR; rw [allInts_map]
theorem sortRR_ints {ns : List Int} : sortRR (ns.map PyData.int) = some ((sortI ns).reverse.map .int) := by unfold sortRR; rw [allInts_map]
theorem bi_listL : biR .list [.list xs] = some (.f xs) := rfl
theorem bi_listT : biR .list [.tuple xs] = some (.f xs) := rfl
theorem bi_tupL : biR .tuple [.list xs] = some (.v (.tuple xs)) := rfl
theorem bi_tupT : biR .tuple [.tuple xs] = some (.v (.tuple xs)) := rfl
theorem bi_int1 : biR .int1 [.int i] = some (.v (.int i)) := rfl
theorem bi_int1b : biR .int1 [.bool b] = some (.v (.int (if b then 1 else 0))) := rfl
theorem bi_abs1 : biR .abs1 [.int i] = some (.v (.int (if i < 0 then -i else i))) := rfl
theorem bi_repr : biR .repr [d] = if (d.showable && decide (d.shown.length ≤ 1000000) && decide (d.depth ≤ 40)) = true then some (.v (.str d.shown)) else none := rfl
theorem ag_n {s : Sta} : asgT (.n n) d s = some (s.set n (.v d)) := by rw [asgT]
theorem ag_nil {s : Sta} : asgT .nil (.tuple []) s = some s := by rw [asgT]
theorem ag_cons {s : Sta} {a r : Tg} : asgT (.cons a r) (.tuple (d :: xs)) s = (asgT a d s).bind fun s1 => asgT r (.tuple xs) s1 := by rw [asgT]
theorem up_l : unpD (.list xs) = .tuple xs := rfl
theorem up_t : unpD (.tuple xs) = .tuple xs := rfl
theorem sq_l : seqD (.list xs) = some xs := rfl
theorem sq_t : seqD (.tuple xs) = some xs := rfl
theorem ln_l : lenD (.list xs) = some xs.length := rfl
theorem ln_t : lenD (.tuple xs) = some xs.length := rfl
theorem rg_1 : rngR [.v (.int j)] = if small j = true then some (rngD 0 j) else none := rfl
theorem rg_2 : rngR [.v (.int i), .v (.int j)] = if (small i && small j) = true then some (rngD i j) else none := rfl
theorem en_l : enumR [.v d] = (seqD d).map (enumD 0) := rfl
theorem zp_l : zipR [.v (.list xs), .v (.list ys)] = some (zipD xs ys) := rfl
theorem zp_t : zipR [.v (.tuple xs), .v (.tuple ys)] = some (zipD xs ys) := rfl
theorem sb_l : subD (.list xs) (.int i) = atD xs i := rfl
theorem sb_t : subD (.tuple xs) (.int i) = atD xs i := rfl
theorem ra_eq {r : Rv} : retArg r = r.arg := rfl
theorem rd_mk : readV ⟨g, S⟩ n = (match g[n]? with
  | some (.v d) => some (.v d, ⟨g, S⟩)
  | some (.own xs) => some (.v (.list xs), Sta.set ⟨g, S⟩ n (.v (.list xs)))
  | some .dr => some (.dr, ⟨g, S⟩)
  | some (.scr ns) => some (.scr ns, ⟨g, S⟩)
  | _ => none) := rfl
theorem st_mk {x : Slot} : Sta.set ⟨g, S⟩ n x = ⟨g.set n x, S⟩ := rfl
theorem wp_mk {own : List Nat} : Sta.wipe ⟨g, S⟩ own = ⟨wipeG g own, S⟩ := rfl
theorem bk_mk {own : List Nat} {g' : List Slot} {S' : Option DS} : Sta.back ⟨g, S⟩ ⟨g', S'⟩ own = ⟨backG g' g own, S⟩ := rfl
theorem ls_mk : lenS ⟨g, S⟩ n = (match g[n]? with
  | some (.v d) => lenD d
  | some (.own xs) => some xs.length
  | some (.scr ns) => some ns.length
  | some (.dct kvs) => some kvs.length
  | _ => none) := rfl
theorem nl_mk : nilS ⟨g, S⟩ n = (match g[n]? with
  | some (.v (.list xs)) => if shp (.list xs) then some xs.isEmpty else none
  | some (.own xs) => if shp (.list xs) then some xs.isEmpty else none
  | _ => none) := rfl
theorem bn_mk : bnd ⟨g, S⟩ n = (match g[n]? with
  | none => false
  | some .no => false
  | some _ => true) := rfl
theorem bl_mk : bndL ⟨g, S⟩ n = (match g[n]? with
  | some (.own _) => true
  | _ => false) := rfl
theorem no_mk {own : List Nat} : noOwn ⟨g, S⟩ own = own.all fun i => match g[i]? with
  | some (.own _) => false
  | some (.dct _) => false
  | _ => true := rfl
theorem ss_mk {k : D} : subS ⟨g, S⟩ n k = (match g[n]?, k with
  | some (.v d), _ => subD d k
  | some (.own xs), .int k => atD xs k
  | some (.dct kvs), k => (keyOf k).bind fun k => getK kvs k
  | some .drr, .int k => S.bind fun S => (atD S.rests k).map .int
  | _, _ => none) := rfl
theorem is_mk : inS ⟨g, S⟩ n d = (match g[n]? with
  | some (.v (.list xs)) => if flat d && xs.all flat then some (inD d xs) else none
  | some (.v (.tuple xs)) => if flat d && xs.all flat then some (inD d xs) else none
  | some (.own xs) => if flat d && xs.all flat then some (inD d xs) else none
  | some (.dct kvs) => (keyOf d).map fun k => (getK kvs k).isSome
  | _ => none) := rfl
theorem sS_mk {k : D} : stS ⟨g, S⟩ n k d = (match g[n]?, k with
  | some (.own xs), .int k => (ixD xs.length k).map fun j => Sta.set ⟨g, S⟩ n (.own (xs.set j d))
  | some (.dct kvs), k => (keyOf k).bind fun k => if okLen (kvs.length + 1) then some (Sta.set ⟨g, S⟩ n (.dct (putK kvs k d))) else none
  | some .dr, .int k => if k = 1 then (match d, S with
      | .int n, some S => some ⟨g, some { S with turn := n }⟩
      | _, _ => none) else none
  | some .drr, .int k => (match d, S with
      | .int n, some S => (ixD S.rests.length k).map fun j => ⟨g, some { S with rests := S.rests.set j n }⟩
      | _, _ => none)
  | _, _ => none) := rfl
theorem pS_mk : popS ⟨g, S⟩ n i = (match g[n]? with
  | some (.own xs) => (ixD xs.length i).bind fun j => (xs[j]?).map fun d => (d, Sta.set ⟨g, S⟩ n (.own (xs.eraseIdx j)))
  | _ => none) := rfl
theorem aS_mk : appS ⟨g, S⟩ n d = (match g[n]? with
  | some (.own xs) => if okLen (xs.length + 1) then some (Sta.set ⟨g, S⟩ n (.own (xs ++ [d]))) else none
  | _ => none) := rfl
theorem eS_mk : extS ⟨g, S⟩ n xs = (match g[n]? with
  | some (.own ys) => if okLen (ys.length + xs.length) then some (Sta.set ⟨g, S⟩ n (.own (ys ++ xs))) else none
  | _ => none) := rfl
theorem gI_mk : getI ⟨g, S⟩ n = (match g[n]? with
  | some (.v (.int i)) => some i
  | _ => none) := rfl
theorem ke_i : keyOf (.int i) = some (.inl i) := rfl
theorem ke_s {x : Str} : keyOf (.str x) = some (.inr x) := rfl
theorem sl_fd {kvs : List (L2.Key × D)} : Rv.slot (.fd kvs) = .dct kvs := rfl
theorem ai_nil : allInts [] = some [] := rfl
theorem ai_cons : allInts (.int i :: xs) = (allInts xs).map (i :: ·) := rfl
theorem sv_scr {ns : List Int} {lo hi : Option Int} : sliceV (.scr ns) lo hi = some (.f ((cutD ns lo hi).map .int)) := rfl
theorem sv_v {lo hi : Option Int} : sliceV (.v d) lo hi = sliceR d lo hi := rfl
theorem sv_f {lo hi : Option Int} : sliceV (.f xs) lo hi = sliceR (.list xs) lo hi := rfl
theorem sr_l {lo hi : Option Int} : sliceR (.list xs) lo hi = some (.f (cutD xs lo hi)) := rfl
theorem sr_t {lo hi : Option Int} : sliceR (.tuple xs) lo hi = some (.v (.tuple (cutD xs lo hi))) := rfl
theorem rr_t : revR (.tuple xs) = some (.v (.tuple xs.reverse)) := rfl
theorem slb_t : slbR (.tuple xs) i = if (decide (0 ≤ i) && small i) = true then some (.v (.tuple (xs.take (i.toNat + 1)).reverse)) else none := rfl
theorem sla_l : slaR (.list xs) i = if (decide (0 ≤ i) && small i) = true then some (.f (xs.drop (i.toNat + 1)).reverse) else none := rfl
theorem im_mk : imaxS ⟨g, S⟩ n = (match g[n]? with
  | some (.own xs) => match allInts xs with
    | some (n :: ns) => posD (.int (maxI n ns)) xs
    | _ => none
  | _ => none) := rfl
theorem rr_l : revR (.list xs) = some (.f xs.reverse) := rfl
end
end Tl

namespace Tl
open PySem

def bDraws : ISs := .cons (.set 1 (.bin .Add (.bi .list (.cons (.slice (.var 0) .no (.so (.con (.int 63)))) .nil)) (.bin .Mult (.lst (.cons (.con (.int 0)) .nil)) (.bi .int1 (.cons (.cmp .Eq (.lenv 0) (.con (.int 0))) .nil))))) (.cons (.mkdr 1 (.comp (.bin .Mult (.var 2) (.bi .int1 (.cons (.cmp .GtE (.var 2) (.bin .Pow (.con (.int 10)) (.con (.int 18)))) .nil))) (.n 2) (.seq (.var 1)) .no [2])) .nil)
def bNext : ISs := .cons (.undr 2 3 4 0) (.cons (.set 5 (.bin .Mod (.var 3) (.lenv 2))) (.cons (.stsub 0 (.con (.int 1)) (.bin .Add (.var 3) (.con (.int 1)))) (.cons (.if_ (.cmp .Gt (.subv 4 (.var 5)) (.con (.int 0))) (.cons (.set 6 (.bin .Mod (.subv 4 (.var 5)) (.var 1))) (.cons (.stsub 4 (.var 5) (.bin .FloorDiv (.subv 4 (.var 5)) (.var 1))) (.cons (.ret (.var 6)) .nil))) .nil) (.cons (.set 7 (.bin .Mod (.bin .Pow (.bin .Add (.bin .Add (.bin .Mod (.subv 2 (.var 5)) (.con (.int 2147483629))) (.bin .Mult (.con (.int 39119)) (.var 3))) (.con (.int 9901))) (.con (.int 3))) (.con (.int 2147483587)))) (.cons (.set 8 (.bin .Mod (.bin .Pow (.bin .Add (.bin .Add (.var 7) (.bin .Mult (.bin .Mult (.con (.int 7001)) (.var 3)) (.var 3))) (.con (.int 41))) (.con (.int 3))) (.con (.int 2147483563)))) (.cons (.ret (.bin .Mod (.bin .Mod (.bin .Add (.bin .Mult (.var 8) (.con (.int 2147483423))) (.var 7)) (.con (.int 4611686018427387847))) (.var 1))) .nil))))))

structure Gd (b : Nat) (S : DS) : Prop where
  ne : 0 < S.cells.length
  len : S.rests.length = S.cells.length
  t0 : 0 ≤ S.turn
  tb : S.turn ≤ b
theorem Gd.le {b c : Nat} {S : DS} (h : Gd b S) (l : b ≤ c) : Gd c S := ⟨h.ne, h.len, h.t0, Int.le_trans h.tb (by omega)⟩

variable {tf : List Fn} {fu k i : Nat}
theorem next_W {S : DS} {b : Nat} {m : Int} (hf : tf[i]? = some ⟨2, 9, bNext⟩) (hk : 0 < k) (hS : Gd b S) (hb : b ≤ 2 ^ 24) (h0 : 0 < m) (h1 : m < 2 ^ 199) :
    W (callF tf fu k i [.dr, .v (.int m)] (some S)) fun p => ∃ r S', p = (.v (.int r), some S') ∧ 0 ≤ r ∧ r < m ∧ Gd (b + 1) S' := by
  obtain ⟨k, rfl⟩ : ∃ j, k = j + 1 := ⟨k - 1, by omega⟩
  refine W_call hf rfl ?_
  obtain ⟨cs, t, rs⟩ := S
  obtain ⟨ne, ln, t0, tb⟩ := hS
  simp only at ne ln t0 tb
  have hp : 0 ≤ t % (cs.length : Int) := Int.emod_nonneg _ (by omega)
  have hq : t % (cs.length : Int) < (cs.length : Int) := Int.emod_lt_of_pos _ (by omega)
  obtain ⟨x, ex, _, _⟩ := atD_in (xs := rs) hp (by omega)
  obtain ⟨y, ey, my, _⟩ := atD_in (xs := cs.map PyData.int) hp (by rw [List.length_map]; omega)
  unfold bNext
  (try simp only [W_cons, W_nil, kS_nx, kS_rt, kS_bk, oQ_nx, oQ_rt, W_some, W_bind, W_map, W_guard, W_guardB, evE_comp, evS_for, evS_while, evS_mkdr, evE_var, evE_con, evE_bin, evE_neg, evE_not_, evE_cmp, evE_chain, evE_and_, evE_or_, evE_ite, evE_tup, evE_lst, evE_sub, evE_subv, evE_slice, evE_rev, evE_lenv, evE_nilv, evE_inv, evE_call, evE_bi, evE_rngl, evE_isi, evE_pop0, evE_pop1, evS_set, evS_unp, evS_par, evS_stsub, evS_app, evS_drop, evS_if_, evS_ret, evS_retN, evS_brk, evS_pass, evS_undr, evEs, evPs, evO, evI, evT, startG, List.map_cons, List.map_nil, List.set_cons_zero, List.set_cons_succ, List.getElem?_cons_zero, List.getElem?_cons_succ, List.length_cons, List.length_nil, List.cons_append, List.nil_append, List.replicate_succ, List.replicate_zero, Nat.reduceAdd, Nat.reduceSub, cmpD_ii_eq, cmpD_ii_ne, cmpD_ii_lt, cmpD_ii_le, cmpD_ii_gt, cmpD_ii_ge, cmpD_bb_eq, cmpD_bb_ne, List.all_cons, List.all_nil, List.any_cons, List.any_nil, Bool.or_false, Bool.or_true, Bool.true_or, Bool.false_or, Bool.and_true, Bool.true_and, Bool.and_self, isTy, wipeG, backG, Option.bind_some, Option.map_some, Bool.not_true, Bool.not_false, ite_true, ite_false, if_true, if_false, true_and, and_true, Bool.false_eq_true, evI_seq, List.isEmpty_nil, List.isEmpty_cons, List.length_map, decide_eq_true_eq, Bool.and_eq_true, b_add, b_sub, b_mul, b_div, b_mod, b_pow, b_addL, b_addT, b_mulL, sl_v, sl_f, sl_dr, sl_scr, ar_v, ar_f, ar_dr, ar_scr, rv_v, rv_f, as_i, as_b, da_nil, da_cons, sa_nil, sa_cons, bi_len, bi_max2, bi_min2, bi_maxL, bi_minL, bi_sumL, bi_allL, bi_anyL, bi_sorted, bi_sortedR, bi_listL, bi_listT, bi_tupL, bi_tupT, bi_int1, bi_int1b, bi_abs1, bi_repr, ag_n, ag_nil, ag_cons, up_l, up_t, sq_l, sq_t, ln_l, ln_t, rg_1, rg_2, en_l, zp_l, zp_t, sb_l, sb_t, ra_eq, rd_mk, st_mk, wp_mk, bk_mk, ls_mk, nl_mk, bn_mk, bl_mk, no_mk, ss_mk, is_mk, sS_mk, pS_mk, aS_mk, sv_scr, sv_v, sv_f, sr_l, sr_t, rr_l, evE_lstx, evE_dsp, evE_idx, evE_dcomp, evS_ext, ex_l, evS_augI, evXs_nil, evXs_cons, evXs_star, eS_mk, gI_mk, ke_i, ke_s, sl_fd, b_shl, b_shr, b_and, bi_min3, sortR_ints, sortRR_ints, ai_nil, ai_cons, allInts_map, evE_imax, evE_slb, evE_sla, rr_t, slb_t, sla_l, im_mk, bi_sortedT, bi_lenSet, bi_sortSet, Int.reduceLE, Int.reduceLT, Int.reduceToNat, Int.reducePow, Nat.reduceLT, Nat.reduceLeDiff, Nat.reducePow, Int.reduceNeg, Int.reduceAbs, small_lit, at_0, at_1, at_2, decide_true, decide_false, gt_iff_lt, ge_iff_le, eq_self, Bool.not_eq_true, ex])
  refine ⟨by omega, ?_⟩
  by_cases hx : 0 < x
  · rw [if_pos hx]
    (try simp only [W_cons, W_nil, kS_nx, kS_rt, kS_bk, oQ_nx, oQ_rt, W_some, W_bind, W_map, W_guard, W_guardB, evE_comp, evS_for, evS_while, evS_mkdr, evE_var, evE_con, evE_bin, evE_neg, evE_not_, evE_cmp, evE_chain, evE_and_, evE_or_, evE_ite, evE_tup, evE_lst, evE_sub, evE_subv, evE_slice, evE_rev, evE_lenv, evE_nilv, evE_inv, evE_call, evE_bi, evE_rngl, evE_isi, evE_pop0, evE_pop1, evS_set, evS_unp, evS_par, evS_stsub, evS_app, evS_drop, evS_if_, evS_ret, evS_retN, evS_brk, evS_pass, evS_undr, evEs, evPs, evO, evI, evT, startG, List.map_cons, List.map_nil, List.set_cons_zero, List.set_cons_succ, List.getElem?_cons_zero, List.getElem?_cons_succ, List.length_cons, List.length_nil, List.cons_append, List.nil_append, List.replicate_succ, List.replicate_zero, Nat.reduceAdd, Nat.reduceSub, cmpD_ii_eq, cmpD_ii_ne, cmpD_ii_lt, cmpD_ii_le, cmpD_ii_gt, cmpD_ii_ge, cmpD_bb_eq, cmpD_bb_ne, List.all_cons, List.all_nil, List.any_cons, List.any_nil, Bool.or_false, Bool.or_true, Bool.true_or, Bool.false_or, Bool.and_true, Bool.true_and, Bool.and_self, isTy, wipeG, backG, Option.bind_some, Option.map_some, Bool.not_true, Bool.not_false, ite_true, ite_false, if_true, if_false, true_and, and_true, Bool.false_eq_true, evI_seq, List.isEmpty_nil, List.isEmpty_cons, List.length_map, decide_eq_true_eq, Bool.and_eq_true, b_add, b_sub, b_mul, b_div, b_mod, b_pow, b_addL, b_addT, b_mulL, sl_v, sl_f, sl_dr, sl_scr, ar_v, ar_f, ar_dr, ar_scr, rv_v, rv_f, as_i, as_b, da_nil, da_cons, sa_nil, sa_cons, bi_len, bi_max2, bi_min2, bi_maxL, bi_minL, bi_sumL, bi_allL, bi_anyL, bi_sorted, bi_sortedR, bi_listL, bi_listT, bi_tupL, bi_tupT, bi_int1, bi_int1b, bi_abs1, bi_repr, ag_n, ag_nil, ag_cons, up_l, up_t, sq_l, sq_t, ln_l, ln_t, rg_1, rg_2, en_l, zp_l, zp_t, sb_l, sb_t, ra_eq, rd_mk, st_mk, wp_mk, bk_mk, ls_mk, nl_mk, bn_mk, bl_mk, no_mk, ss_mk, is_mk, sS_mk, pS_mk, aS_mk, sv_scr, sv_v, sv_f, sr_l, sr_t, rr_l, evE_lstx, evE_dsp, evE_idx, evE_dcomp, evS_ext, ex_l, evS_augI, evXs_nil, evXs_cons, evXs_star, eS_mk, gI_mk, ke_i, ke_s, sl_fd, b_shl, b_shr, b_and, bi_min3, sortR_ints, sortRR_ints, ai_nil, ai_cons, allInts_map, evE_imax, evE_slb, evE_sla, rr_t, slb_t, sla_l, im_mk, bi_sortedT, bi_lenSet, bi_sortSet, Int.reduceLE, Int.reduceLT, Int.reduceToNat, Int.reducePow, Nat.reduceLT, Nat.reduceLeDiff, Nat.reducePow, Int.reduceNeg, Int.reduceAbs, small_lit, at_0, at_1, at_2, decide_true, decide_false, gt_iff_lt, ge_iff_le, eq_self, Bool.not_eq_true, ex])
    refine ⟨h0, ⟨h0, by omega⟩, ?_⟩
    rw [ixD_in hp (by omega)]
    (try simp only [W_cons, W_nil, kS_nx, kS_rt, kS_bk, oQ_nx, oQ_rt, W_some, W_bind, W_map, W_guard, W_guardB, evE_comp, evS_for, evS_while, evS_mkdr, evE_var, evE_con, evE_bin, evE_neg, evE_not_, evE_cmp, evE_chain, evE_and_, evE_or_, evE_ite, evE_tup, evE_lst, evE_sub, evE_subv, evE_slice, evE_rev, evE_lenv, evE_nilv, evE_inv, evE_call, evE_bi, evE_rngl, evE_isi, evE_pop0, evE_pop1, evS_set, evS_unp, evS_par, evS_stsub, evS_app, evS_drop, evS_if_, evS_ret, evS_retN, evS_brk, evS_pass, evS_undr, evEs, evPs, evO, evI, evT, startG, List.map_cons, List.map_nil, List.set_cons_zero, List.set_cons_succ, List.getElem?_cons_zero, List.getElem?_cons_succ, List.length_cons, List.length_nil, List.cons_append, List.nil_append, List.replicate_succ, List.replicate_zero, Nat.reduceAdd, Nat.reduceSub, cmpD_ii_eq, cmpD_ii_ne, cmpD_ii_lt, cmpD_ii_le, cmpD_ii_gt, cmpD_ii_ge, cmpD_bb_eq, cmpD_bb_ne, List.all_cons, List.all_nil, List.any_cons, List.any_nil, Bool.or_false, Bool.or_true, Bool.true_or, Bool.false_or, Bool.and_true, Bool.true_and, Bool.and_self, isTy, wipeG, backG, Option.bind_some, Option.map_some, Bool.not_true, Bool.not_false, ite_true, ite_false, if_true, if_false, true_and, and_true, Bool.false_eq_true, evI_seq, List.isEmpty_nil, List.isEmpty_cons, List.length_map, decide_eq_true_eq, Bool.and_eq_true, b_add, b_sub, b_mul, b_div, b_mod, b_pow, b_addL, b_addT, b_mulL, sl_v, sl_f, sl_dr, sl_scr, ar_v, ar_f, ar_dr, ar_scr, rv_v, rv_f, as_i, as_b, da_nil, da_cons, sa_nil, sa_cons, bi_len, bi_max2, bi_min2, bi_maxL, bi_minL, bi_sumL, bi_allL, bi_anyL, bi_sorted, bi_sortedR, bi_listL, bi_listT, bi_tupL, bi_tupT, bi_int1, bi_int1b, bi_abs1, bi_repr, ag_n, ag_nil, ag_cons, up_l, up_t, sq_l, sq_t, ln_l, ln_t, rg_1, rg_2, en_l, zp_l, zp_t, sb_l, sb_t, ra_eq, rd_mk, st_mk, wp_mk, bk_mk, ls_mk, nl_mk, bn_mk, bl_mk, no_mk, ss_mk, is_mk, sS_mk, pS_mk, aS_mk, sv_scr, sv_v, sv_f, sr_l, sr_t, rr_l, evE_lstx, evE_dsp, evE_idx, evE_dcomp, evS_ext, ex_l, evS_augI, evXs_nil, evXs_cons, evXs_star, eS_mk, gI_mk, ke_i, ke_s, sl_fd, b_shl, b_shr, b_and, bi_min3, sortR_ints, sortRR_ints, ai_nil, ai_cons, allInts_map, evE_imax, evE_slb, evE_sla, rr_t, slb_t, sla_l, im_mk, bi_sortedT, bi_lenSet, bi_sortSet, Int.reduceLE, Int.reduceLT, Int.reduceToNat, Int.reducePow, Nat.reduceLT, Nat.reduceLeDiff, Nat.reducePow, Int.reduceNeg, Int.reduceAbs, small_lit, at_0, at_1, at_2, decide_true, decide_false, gt_iff_lt, ge_iff_le, eq_self, Bool.not_eq_true])
    exact ⟨_, _, rfl, Int.emod_nonneg _ (by omega), Int.emod_lt_of_pos _ h0, ne, by simp [ln], by simp only; omega, by simp only; omega⟩
  · rw [if_neg hx]
    obtain ⟨z, hz, rfl⟩ := List.mem_map.mp my
    have tb2 : t ≤ 16777216 := by omega
    have a1 : 0 ≤ z % 2147483629 := Int.emod_nonneg _ (by decide)
    have a2 : z % 2147483629 < 2147483629 := Int.emod_lt_of_pos _ (by decide)
    have a3 : small 39119 = true := by decide
    have a4 : small (z % 2147483629 + 39119 * t + 9901) = true := small_of (by omega)
    have a5 : small 7001 = true := by decide
    have a6 : small t = true := small_of (by omega)
    (try simp only [W_cons, W_nil, kS_nx, kS_rt, kS_bk, oQ_nx, oQ_rt, W_some, W_bind, W_map, W_guard, W_guardB, evE_comp, evS_for, evS_while, evS_mkdr, evE_var, evE_con, evE_bin, evE_neg, evE_not_, evE_cmp, evE_chain, evE_and_, evE_or_, evE_ite, evE_tup, evE_lst, evE_sub, evE_subv, evE_slice, evE_rev, evE_lenv, evE_nilv, evE_inv, evE_call, evE_bi, evE_rngl, evE_isi, evE_pop0, evE_pop1, evS_set, evS_unp, evS_par, evS_stsub, evS_app, evS_drop, evS_if_, evS_ret, evS_retN, evS_brk, evS_pass, evS_undr, evEs, evPs, evO, evI, evT, startG, List.map_cons, List.map_nil, List.set_cons_zero, List.set_cons_succ, List.getElem?_cons_zero, List.getElem?_cons_succ, List.length_cons, List.length_nil, List.cons_append, List.nil_append, List.replicate_succ, List.replicate_zero, Nat.reduceAdd, Nat.reduceSub, cmpD_ii_eq, cmpD_ii_ne, cmpD_ii_lt, cmpD_ii_le, cmpD_ii_gt, cmpD_ii_ge, cmpD_bb_eq, cmpD_bb_ne, List.all_cons, List.all_nil, List.any_cons, List.any_nil, Bool.or_false, Bool.or_true, Bool.true_or, Bool.false_or, Bool.and_true, Bool.true_and, Bool.and_self, isTy, wipeG, backG, Option.bind_some, Option.map_some, Bool.not_true, Bool.not_false, ite_true, ite_false, if_true, if_false, true_and, and_true, Bool.false_eq_true, evI_seq, List.isEmpty_nil, List.isEmpty_cons, List.length_map, decide_eq_true_eq, Bool.and_eq_true, b_add, b_sub, b_mul, b_div, b_mod, b_pow, b_addL, b_addT, b_mulL, sl_v, sl_f, sl_dr, sl_scr, ar_v, ar_f, ar_dr, ar_scr, rv_v, rv_f, as_i, as_b, da_nil, da_cons, sa_nil, sa_cons, bi_len, bi_max2, bi_min2, bi_maxL, bi_minL, bi_sumL, bi_allL, bi_anyL, bi_sorted, bi_sortedR, bi_listL, bi_listT, bi_tupL, bi_tupT, bi_int1, bi_int1b, bi_abs1, bi_repr, ag_n, ag_nil, ag_cons, up_l, up_t, sq_l, sq_t, ln_l, ln_t, rg_1, rg_2, en_l, zp_l, zp_t, sb_l, sb_t, ra_eq, rd_mk, st_mk, wp_mk, bk_mk, ls_mk, nl_mk, bn_mk, bl_mk, no_mk, ss_mk, is_mk, sS_mk, pS_mk, aS_mk, sv_scr, sv_v, sv_f, sr_l, sr_t, rr_l, evE_lstx, evE_dsp, evE_idx, evE_dcomp, evS_ext, ex_l, evS_augI, evXs_nil, evXs_cons, evXs_star, eS_mk, gI_mk, ke_i, ke_s, sl_fd, b_shl, b_shr, b_and, bi_min3, sortR_ints, sortRR_ints, ai_nil, ai_cons, allInts_map, evE_imax, evE_slb, evE_sla, rr_t, slb_t, sla_l, im_mk, bi_sortedT, bi_lenSet, bi_sortSet, Int.reduceLE, Int.reduceLT, Int.reduceToNat, Int.reducePow, Nat.reduceLT, Nat.reduceLeDiff, Nat.reducePow, Int.reduceNeg, Int.reduceAbs, small_lit, at_0, at_1, at_2, decide_true, decide_false, gt_iff_lt, ge_iff_le, eq_self, Bool.not_eq_true, ey, a3, a4, a5, a6])
    have c1 : 0 ≤ (z % 2147483629 + 39119 * t + 9901) ^ 3 % 2147483587 := Int.emod_nonneg _ (by decide)
    have c2 : (z % 2147483629 + 39119 * t + 9901) ^ 3 % 2147483587 < 2147483587 := Int.emod_lt_of_pos _ (by decide)
    have d1 : t * t ≤ 16777216 * 16777216 := Int.mul_le_mul tb2 tb2 t0 (by decide)
    have d2 : 0 ≤ t * t := Int.mul_nonneg t0 t0
    generalize (z % 2147483629 + 39119 * t + 9901) ^ 3 % 2147483587 = p at c1 c2 ⊢
    rw [Int.mul_assoc 7001 t t]
    generalize t * t = q at d1 d2 ⊢
    refine ⟨small_of (by omega), h0, _, _, rfl, Int.emod_nonneg _ (by omega), Int.emod_lt_of_pos _ h0, ne, ln, by simp only; omega, by simp only; omega⟩
theorem draws_W {ns : List Int} (hf : tf[i]? = some ⟨1, 3, bDraws⟩) (hk : 0 < k) (hn : ns.length ≤ 63) :
    W (callF tf fu k i [.scr ns] none) fun p => ∃ S', p = (.dr, some S') ∧ Gd 0 S' := by
  obtain ⟨k, rfl⟩ : ∃ j, k = j + 1 := ⟨k - 1, by omega⟩
  refine W_call hf rfl ?_
  unfold bDraws
  (try simp only [W_cons, W_nil, kS_nx, kS_rt, kS_bk, oQ_nx, oQ_rt, W_some, W_bind, W_map, W_guard, W_guardB, evE_comp, evS_for, evS_while, evS_mkdr, evE_var, evE_con, evE_bin, evE_neg, evE_not_, evE_cmp, evE_chain, evE_and_, evE_or_, evE_ite, evE_tup, evE_lst, evE_sub, evE_subv, evE_slice, evE_rev, evE_lenv, evE_nilv, evE_inv, evE_call, evE_bi, evE_rngl, evE_isi, evE_pop0, evE_pop1, evS_set, evS_unp, evS_par, evS_stsub, evS_app, evS_drop, evS_if_, evS_ret, evS_retN, evS_brk, evS_pass, evS_undr, evEs, evPs, evO, evI, evT, startG, List.map_cons, List.map_nil, List.set_cons_zero, List.set_cons_succ, List.getElem?_cons_zero, List.getElem?_cons_succ, List.length_cons, List.length_nil, List.cons_append, List.nil_append, List.replicate_succ, List.replicate_zero, Nat.reduceAdd, Nat.reduceSub, cmpD_ii_eq, cmpD_ii_ne, cmpD_ii_lt, cmpD_ii_le, cmpD_ii_gt, cmpD_ii_ge, cmpD_bb_eq, cmpD_bb_ne, List.all_cons, List.all_nil, List.any_cons, List.any_nil, Bool.or_false, Bool.or_true, Bool.true_or, Bool.false_or, Bool.and_true, Bool.true_and, Bool.and_self, isTy, wipeG, backG, Option.bind_some, Option.map_some, Bool.not_true, Bool.not_false, ite_true, ite_false, if_true, if_false, true_and, and_true, Bool.false_eq_true, evI_seq, List.isEmpty_nil, List.isEmpty_cons, List.length_map, decide_eq_true_eq, Bool.and_eq_true, b_add, b_sub, b_mul, b_div, b_mod, b_pow, b_addL, b_addT, b_mulL, sl_v, sl_f, sl_dr, sl_scr, ar_v, ar_f, ar_dr, ar_scr, rv_v, rv_f, as_i, as_b, da_nil, da_cons, sa_nil, sa_cons, bi_len, bi_max2, bi_min2, bi_maxL, bi_minL, bi_sumL, bi_allL, bi_anyL, bi_sorted, bi_sortedR, bi_listL, bi_listT, bi_tupL, bi_tupT, bi_int1, bi_int1b, bi_abs1, bi_repr, ag_n, ag_nil, ag_cons, up_l, up_t, sq_l, sq_t, ln_l, ln_t, rg_1, rg_2, en_l, zp_l, zp_t, sb_l, sb_t, ra_eq, rd_mk, st_mk, wp_mk, bk_mk, ls_mk, nl_mk, bn_mk, bl_mk, no_mk, ss_mk, is_mk, sS_mk, pS_mk, aS_mk, sv_scr, sv_v, sv_f, sr_l, sr_t, rr_l, evE_lstx, evE_dsp, evE_idx, evE_dcomp, evS_ext, ex_l, evS_augI, evXs_nil, evXs_cons, evXs_star, eS_mk, gI_mk, ke_i, ke_s, sl_fd, b_shl, b_shr, b_and, bi_min3, sortR_ints, sortRR_ints, ai_nil, ai_cons, allInts_map, evE_imax, evE_slb, evE_sla, rr_t, slb_t, sla_l, im_mk, bi_sortedT, bi_lenSet, bi_sortSet, Int.reduceLE, Int.reduceLT, Int.reduceToNat, Int.reducePow, Nat.reduceLT, Nat.reduceLeDiff, Nat.reducePow, Int.reduceNeg, Int.reduceAbs, small_lit, at_0, at_1, at_2, decide_true, decide_false, gt_iff_lt, ge_iff_le, eq_self, Bool.not_eq_true])
  have key : ∃ cs : List Int, List.map PyData.int (cutD ns none (some 63)) ++ (List.replicate (if (ns.length : Int) = 0 then (1 : Int) else 0).toNat [PyData.int 0]).flatten = cs.map PyData.int ∧ 0 < cs.length ∧ cs.length ≤ 63 := by
    cases ns with
    | nil => exact ⟨[0], rfl, by decide, by decide⟩
    | cons a r =>
      have z : ¬ (((a :: r).length : Int) = 0) := by rw [List.length_cons]; omega
      rw [if_neg z]
      refine ⟨cutD (a :: r) none (some 63), by simp, ?_, ?_⟩
      · unfold cutD sIxD
        simp
        omega
      · unfold cutD sIxD
        simp
        omega
  obtain ⟨cs, e, c0, c1⟩ := key
  have l1 := congrArg List.length e
  rw [List.length_append, List.length_map, List.length_map] at l1
  rw [e, l1, List.length_map]
  have o1 : okLen cs.length = true := decide_eq_true (by unfold LIM; omega)
  refine ⟨⟨by split <;> decide, by split <;> decide⟩, o1, o1, ?_⟩
  refine W_compLoop (fun rest acc s => ∃ (r ms : List Int) (x : Slot), rest = r.map PyData.int ∧ acc = ms.map PyData.int ∧ ms.length + r.length = cs.length ∧ s = ⟨[.scr ns, .v (.list (cs.map .int)), x], none⟩) ?_ ?_ ⟨cs, [], _, rfl, rfl, by simp, rfl⟩
  · rintro x rest acc s ⟨r, ms, sl, e1, rfl, e3, rfl⟩
    cases r with
    | nil => cases e1
    | cons a r =>
      rw [List.map_cons] at e1
      cases e1
      unfold cStep
      (try simp only [W_cons, W_nil, kS_nx, kS_rt, kS_bk, oQ_nx, oQ_rt, W_some, W_bind, W_map, W_guard, W_guardB, evE_comp, evS_for, evS_while, evS_mkdr, evE_var, evE_con, evE_bin, evE_neg, evE_not_, evE_cmp, evE_chain, evE_and_, evE_or_, evE_ite, evE_tup, evE_lst, evE_sub, evE_subv, evE_slice, evE_rev, evE_lenv, evE_nilv, evE_inv, evE_call, evE_bi, evE_rngl, evE_isi, evE_pop0, evE_pop1, evS_set, evS_unp, evS_par, evS_stsub, evS_app, evS_drop, evS_if_, evS_ret, evS_retN, evS_brk, evS_pass, evS_undr, evEs, evPs, evO, evI, evT, startG, List.map_cons, List.map_nil, List.set_cons_zero, List.set_cons_succ, List.getElem?_cons_zero, List.getElem?_cons_succ, List.length_cons, List.length_nil, List.cons_append, List.nil_append, List.replicate_succ, List.replicate_zero, Nat.reduceAdd, Nat.reduceSub, cmpD_ii_eq, cmpD_ii_ne, cmpD_ii_lt, cmpD_ii_le, cmpD_ii_gt, cmpD_ii_ge, cmpD_bb_eq, cmpD_bb_ne, List.all_cons, List.all_nil, List.any_cons, List.any_nil, Bool.or_false, Bool.or_true, Bool.true_or, Bool.false_or, Bool.and_true, Bool.true_and, Bool.and_self, isTy, wipeG, backG, Option.bind_some, Option.map_some, Bool.not_true, Bool.not_false, ite_true, ite_false, if_true, if_false, true_and, and_true, Bool.false_eq_true, evI_seq, List.isEmpty_nil, List.isEmpty_cons, List.length_map, decide_eq_true_eq, Bool.and_eq_true, b_add, b_sub, b_mul, b_div, b_mod, b_pow, b_addL, b_addT, b_mulL, sl_v, sl_f, sl_dr, sl_scr, ar_v, ar_f, ar_dr, ar_scr, rv_v, rv_f, as_i, as_b, da_nil, da_cons, sa_nil, sa_cons, bi_len, bi_max2, bi_min2, bi_maxL, bi_minL, bi_sumL, bi_allL, bi_anyL, bi_sorted, bi_sortedR, bi_listL, bi_listT, bi_tupL, bi_tupT, bi_int1, bi_int1b, bi_abs1, bi_repr, ag_n, ag_nil, ag_cons, up_l, up_t, sq_l, sq_t, ln_l, ln_t, rg_1, rg_2, en_l, zp_l, zp_t, sb_l, sb_t, ra_eq, rd_mk, st_mk, wp_mk, bk_mk, ls_mk, nl_mk, bn_mk, bl_mk, no_mk, ss_mk, is_mk, sS_mk, pS_mk, aS_mk, sv_scr, sv_v, sv_f, sr_l, sr_t, rr_l, evE_lstx, evE_dsp, evE_idx, evE_dcomp, evS_ext, ex_l, evS_augI, evXs_nil, evXs_cons, evXs_star, eS_mk, gI_mk, ke_i, ke_s, sl_fd, b_shl, b_shr, b_and, bi_min3, sortR_ints, sortRR_ints, ai_nil, ai_cons, allInts_map, evE_imax, evE_slb, evE_sla, rr_t, slb_t, sla_l, im_mk, bi_sortedT, bi_lenSet, bi_sortSet, Int.reduceLE, Int.reduceLT, Int.reduceToNat, Int.reducePow, Nat.reduceLT, Nat.reduceLeDiff, Nat.reducePow, Int.reduceNeg, Int.reduceAbs, small_lit, at_0, at_1, at_2, decide_true, decide_false, gt_iff_lt, ge_iff_le, eq_self, Bool.not_eq_true])
      refine ⟨?_, ?_⟩
      · split <;> simp [small]
      · refine ⟨r, ms ++ [_], _, rfl, by rw [List.map_append]; rfl, ?_, rfl⟩
        simp only [List.length_append, List.length_cons, List.length_nil] at e3 ⊢
        omega
  · rintro acc s ⟨r, ms, sl, e1, rfl, e3, rfl⟩
    cases r with
    | cons a r => cases e1
    | nil =>
      (try simp only [W_cons, W_nil, kS_nx, kS_rt, kS_bk, oQ_nx, oQ_rt, W_some, W_bind, W_map, W_guard, W_guardB, evE_comp, evS_for, evS_while, evS_mkdr, evE_var, evE_con, evE_bin, evE_neg, evE_not_, evE_cmp, evE_chain, evE_and_, evE_or_, evE_ite, evE_tup, evE_lst, evE_sub, evE_subv, evE_slice, evE_rev, evE_lenv, evE_nilv, evE_inv, evE_call, evE_bi, evE_rngl, evE_isi, evE_pop0, evE_pop1, evS_set, evS_unp, evS_par, evS_stsub, evS_app, evS_drop, evS_if_, evS_ret, evS_retN, evS_brk, evS_pass, evS_undr, evEs, evPs, evO, evI, evT, startG, List.map_cons, List.map_nil, List.set_cons_zero, List.set_cons_succ, List.getElem?_cons_zero, List.getElem?_cons_succ, List.length_cons, List.length_nil, List.cons_append, List.nil_append, List.replicate_succ, List.replicate_zero, Nat.reduceAdd, Nat.reduceSub, cmpD_ii_eq, cmpD_ii_ne, cmpD_ii_lt, cmpD_ii_le, cmpD_ii_gt, cmpD_ii_ge, cmpD_bb_eq, cmpD_bb_ne, List.all_cons, List.all_nil, List.any_cons, List.any_nil, Bool.or_false, Bool.or_true, Bool.true_or, Bool.false_or, Bool.and_true, Bool.true_and, Bool.and_self, isTy, wipeG, backG, Option.bind_some, Option.map_some, Bool.not_true, Bool.not_false, ite_true, ite_false, if_true, if_false, true_and, and_true, Bool.false_eq_true, evI_seq, List.isEmpty_nil, List.isEmpty_cons, List.length_map, decide_eq_true_eq, Bool.and_eq_true, b_add, b_sub, b_mul, b_div, b_mod, b_pow, b_addL, b_addT, b_mulL, sl_v, sl_f, sl_dr, sl_scr, ar_v, ar_f, ar_dr, ar_scr, rv_v, rv_f, as_i, as_b, da_nil, da_cons, sa_nil, sa_cons, bi_len, bi_max2, bi_min2, bi_maxL, bi_minL, bi_sumL, bi_allL, bi_anyL, bi_sorted, bi_sortedR, bi_listL, bi_listT, bi_tupL, bi_tupT, bi_int1, bi_int1b, bi_abs1, bi_repr, ag_n, ag_nil, ag_cons, up_l, up_t, sq_l, sq_t, ln_l, ln_t, rg_1, rg_2, en_l, zp_l, zp_t, sb_l, sb_t, ra_eq, rd_mk, st_mk, wp_mk, bk_mk, ls_mk, nl_mk, bn_mk, bl_mk, no_mk, ss_mk, is_mk, sS_mk, pS_mk, aS_mk, sv_scr, sv_v, sv_f, sr_l, sr_t, rr_l, evE_lstx, evE_dsp, evE_idx, evE_dcomp, evS_ext, ex_l, evS_augI, evXs_nil, evXs_cons, evXs_star, eS_mk, gI_mk, ke_i, ke_s, sl_fd, b_shl, b_shr, b_and, bi_min3, sortR_ints, sortRR_ints, ai_nil, ai_cons, allInts_map, evE_imax, evE_slb, evE_sla, rr_t, slb_t, sla_l, im_mk, bi_sortedT, bi_lenSet, bi_sortSet, Int.reduceLE, Int.reduceLT, Int.reduceToNat, Int.reducePow, Nat.reduceLT, Nat.reduceLeDiff, Nat.reducePow, Int.reduceNeg, Int.reduceAbs, small_lit, at_0, at_1, at_2, decide_true, decide_false, gt_iff_lt, ge_iff_le, eq_self, Bool.not_eq_true, mkR, allInts_map, Option.isNone])
      exact ⟨_, rfl, c0, by simpa using e3, by simp, by simp⟩
def bSize (x : Nat) : ISs := .cons (.set 2 (.call x (.cons (.var 0) (.cons (.bin .Add (.bi .min2 (.cons (.var 1) (.cons (.con (.int 3)) .nil))) (.con (.int 1))) .nil)))) (.cons (.ret (.sub (.lst (.cons (.var 2) (.cons (.bin .Sub (.var 1) (.var 2)) (.cons (.call x (.cons (.var 0) (.cons (.bin .Add (.var 1) (.con (.int 1))) .nil))) .nil)))) (.call x (.cons (.var 0) (.cons (.con (.int 3)) .nil))))) .nil)
theorem size_W {S : DS} {b j : Nat} {m : Int} (hn : tf[j]? = some ⟨2, 9, bNext⟩) (hf : tf[i]? = some ⟨2, 3, bSize j⟩) (hk : 1 < k) (hS : Gd b S) (hb : b + 3 ≤ 2 ^ 24) (h0 : 0 ≤ m) (h1 : m < 2 ^ 198) :
    W (callF tf fu k i [.dr, .v (.int m)] (some S)) fun p => ∃ r S', p = (.v (.int r), some S') ∧ 0 ≤ r ∧ r ≤ m ∧ Gd (b + 3) S' := by
  obtain ⟨k, rfl⟩ : ∃ j, k = j + 1 := ⟨k - 1, by omega⟩
  refine W_call hf rfl ?_
  unfold bSize
  (try simp only [W_cons, W_nil, kS_nx, kS_rt, kS_bk, oQ_nx, oQ_rt, W_some, W_bind, W_map, W_guard, W_guardB, evE_comp, evS_for, evS_while, evS_mkdr, evE_var, evE_con, evE_bin, evE_neg, evE_not_, evE_cmp, evE_chain, evE_and_, evE_or_, evE_ite, evE_tup, evE_lst, evE_sub, evE_subv, evE_slice, evE_rev, evE_lenv, evE_nilv, evE_inv, evE_call, evE_bi, evE_rngl, evE_isi, evE_pop0, evE_pop1, evS_set, evS_unp, evS_par, evS_stsub, evS_app, evS_drop, evS_if_, evS_ret, evS_retN, evS_brk, evS_pass, evS_undr, evEs, evPs, evO, evI, evT, startG, List.map_cons, List.map_nil, List.set_cons_zero, List.set_cons_succ, List.getElem?_cons_zero, List.getElem?_cons_succ, List.length_cons, List.length_nil, List.cons_append, List.nil_append, List.replicate_succ, List.replicate_zero, Nat.reduceAdd, Nat.reduceSub, cmpD_ii_eq, cmpD_ii_ne, cmpD_ii_lt, cmpD_ii_le, cmpD_ii_gt, cmpD_ii_ge, cmpD_bb_eq, cmpD_bb_ne, List.all_cons, List.all_nil, List.any_cons, List.any_nil, Bool.or_false, Bool.or_true, Bool.true_or, Bool.false_or, Bool.and_true, Bool.true_and, Bool.and_self, isTy, wipeG, backG, Option.bind_some, Option.map_some, Bool.not_true, Bool.not_false, ite_true, ite_false, if_true, if_false, true_and, and_true, Bool.false_eq_true, evI_seq, List.isEmpty_nil, List.isEmpty_cons, List.length_map, decide_eq_true_eq, Bool.and_eq_true, b_add, b_sub, b_mul, b_div, b_mod, b_pow, b_addL, b_addT, b_mulL, sl_v, sl_f, sl_dr, sl_scr, ar_v, ar_f, ar_dr, ar_scr, rv_v, rv_f, as_i, as_b, da_nil, da_cons, sa_nil, sa_cons, bi_len, bi_max2, bi_min2, bi_maxL, bi_minL, bi_sumL, bi_allL, bi_anyL, bi_sorted, bi_sortedR, bi_listL, bi_listT, bi_tupL, bi_tupT, bi_int1, bi_int1b, bi_abs1, bi_repr, ag_n, ag_nil, ag_cons, up_l, up_t, sq_l, sq_t, ln_l, ln_t, rg_1, rg_2, en_l, zp_l, zp_t, sb_l, sb_t, ra_eq, rd_mk, st_mk, wp_mk, bk_mk, ls_mk, nl_mk, bn_mk, bl_mk, no_mk, ss_mk, is_mk, sS_mk, pS_mk, aS_mk, sv_scr, sv_v, sv_f, sr_l, sr_t, rr_l, evE_lstx, evE_dsp, evE_idx, evE_dcomp, evS_ext, ex_l, evS_augI, evXs_nil, evXs_cons, evXs_star, eS_mk, gI_mk, ke_i, ke_s, sl_fd, b_shl, b_shr, b_and, bi_min3, sortR_ints, sortRR_ints, ai_nil, ai_cons, allInts_map, evE_imax, evE_slb, evE_sla, rr_t, slb_t, sla_l, im_mk, bi_sortedT, bi_lenSet, bi_sortSet, Int.reduceLE, Int.reduceLT, Int.reduceToNat, Int.reducePow, Nat.reduceLT, Nat.reduceLeDiff, Nat.reducePow, Int.reduceNeg, Int.reduceAbs, small_lit, at_0, at_1, at_2, decide_true, decide_false, gt_iff_lt, ge_iff_le, eq_self, Bool.not_eq_true])
  refine (next_W hn (by omega) hS (by omega) (by split <;> omega) (by split <;> omega)).mono ?_
  rintro _ ⟨r, S1, rfl, r0, r1, g1⟩
  (try simp only [W_cons, W_nil, kS_nx, kS_rt, kS_bk, oQ_nx, oQ_rt, W_some, W_bind, W_map, W_guard, W_guardB, evE_comp, evS_for, evS_while, evS_mkdr, evE_var, evE_con, evE_bin, evE_neg, evE_not_, evE_cmp, evE_chain, evE_and_, evE_or_, evE_ite, evE_tup, evE_lst, evE_sub, evE_subv, evE_slice, evE_rev, evE_lenv, evE_nilv, evE_inv, evE_call, evE_bi, evE_rngl, evE_isi, evE_pop0, evE_pop1, evS_set, evS_unp, evS_par, evS_stsub, evS_app, evS_drop, evS_if_, evS_ret, evS_retN, evS_brk, evS_pass, evS_undr, evEs, evPs, evO, evI, evT, startG, List.map_cons, List.map_nil, List.set_cons_zero, List.set_cons_succ, List.getElem?_cons_zero, List.getElem?_cons_succ, List.length_cons, List.length_nil, List.cons_append, List.nil_append, List.replicate_succ, List.replicate_zero, Nat.reduceAdd, Nat.reduceSub, cmpD_ii_eq, cmpD_ii_ne, cmpD_ii_lt, cmpD_ii_le, cmpD_ii_gt, cmpD_ii_ge, cmpD_bb_eq, cmpD_bb_ne, List.all_cons, List.all_nil, List.any_cons, List.any_nil, Bool.or_false, Bool.or_true, Bool.true_or, Bool.false_or, Bool.and_true, Bool.true_and, Bool.and_self, isTy, wipeG, backG, Option.bind_some, Option.map_some, Bool.not_true, Bool.not_false, ite_true, ite_false, if_true, if_false, true_and, and_true, Bool.false_eq_true, evI_seq, List.isEmpty_nil, List.isEmpty_cons, List.length_map, decide_eq_true_eq, Bool.and_eq_true, b_add, b_sub, b_mul, b_div, b_mod, b_pow, b_addL, b_addT, b_mulL, sl_v, sl_f, sl_dr, sl_scr, ar_v, ar_f, ar_dr, ar_scr, rv_v, rv_f, as_i, as_b, da_nil, da_cons, sa_nil, sa_cons, bi_len, bi_max2, bi_min2, bi_maxL, bi_minL, bi_sumL, bi_allL, bi_anyL, bi_sorted, bi_sortedR, bi_listL, bi_listT, bi_tupL, bi_tupT, bi_int1, bi_int1b, bi_abs1, bi_repr, ag_n, ag_nil, ag_cons, up_l, up_t, sq_l, sq_t, ln_l, ln_t, rg_1, rg_2, en_l, zp_l, zp_t, sb_l, sb_t, ra_eq, rd_mk, st_mk, wp_mk, bk_mk, ls_mk, nl_mk, bn_mk, bl_mk, no_mk, ss_mk, is_mk, sS_mk, pS_mk, aS_mk, sv_scr, sv_v, sv_f, sr_l, sr_t, rr_l, evE_lstx, evE_dsp, evE_idx, evE_dcomp, evS_ext, ex_l, evS_augI, evXs_nil, evXs_cons, evXs_star, eS_mk, gI_mk, ke_i, ke_s, sl_fd, b_shl, b_shr, b_and, bi_min3, sortR_ints, sortRR_ints, ai_nil, ai_cons, allInts_map, evE_imax, evE_slb, evE_sla, rr_t, slb_t, sla_l, im_mk, bi_sortedT, bi_lenSet, bi_sortSet, Int.reduceLE, Int.reduceLT, Int.reduceToNat, Int.reducePow, Nat.reduceLT, Nat.reduceLeDiff, Nat.reducePow, Int.reduceNeg, Int.reduceAbs, small_lit, at_0, at_1, at_2, decide_true, decide_false, gt_iff_lt, ge_iff_le, eq_self, Bool.not_eq_true])
  refine (next_W hn (by omega) g1 (by omega) (by omega) (by omega)).mono ?_
  rintro _ ⟨r2, S2, rfl, s0, s1, g2⟩
  (try simp only [W_cons, W_nil, kS_nx, kS_rt, kS_bk, oQ_nx, oQ_rt, W_some, W_bind, W_map, W_guard, W_guardB, evE_comp, evS_for, evS_while, evS_mkdr, evE_var, evE_con, evE_bin, evE_neg, evE_not_, evE_cmp, evE_chain, evE_and_, evE_or_, evE_ite, evE_tup, evE_lst, evE_sub, evE_subv, evE_slice, evE_rev, evE_lenv, evE_nilv, evE_inv, evE_call, evE_bi, evE_rngl, evE_isi, evE_pop0, evE_pop1, evS_set, evS_unp, evS_par, evS_stsub, evS_app, evS_drop, evS_if_, evS_ret, evS_retN, evS_brk, evS_pass, evS_undr, evEs, evPs, evO, evI, evT, startG, List.map_cons, List.map_nil, List.set_cons_zero, List.set_cons_succ, List.getElem?_cons_zero, List.getElem?_cons_succ, List.length_cons, List.length_nil, List.cons_append, List.nil_append, List.replicate_succ, List.replicate_zero, Nat.reduceAdd, Nat.reduceSub, cmpD_ii_eq, cmpD_ii_ne, cmpD_ii_lt, cmpD_ii_le, cmpD_ii_gt, cmpD_ii_ge, cmpD_bb_eq, cmpD_bb_ne, List.all_cons, List.all_nil, List.any_cons, List.any_nil, Bool.or_false, Bool.or_true, Bool.true_or, Bool.false_or, Bool.and_true, Bool.true_and, Bool.and_self, isTy, wipeG, backG, Option.bind_some, Option.map_some, Bool.not_true, Bool.not_false, ite_true, ite_false, if_true, if_false, true_and, and_true, Bool.false_eq_true, evI_seq, List.isEmpty_nil, List.isEmpty_cons, List.length_map, decide_eq_true_eq, Bool.and_eq_true, b_add, b_sub, b_mul, b_div, b_mod, b_pow, b_addL, b_addT, b_mulL, sl_v, sl_f, sl_dr, sl_scr, ar_v, ar_f, ar_dr, ar_scr, rv_v, rv_f, as_i, as_b, da_nil, da_cons, sa_nil, sa_cons, bi_len, bi_max2, bi_min2, bi_maxL, bi_minL, bi_sumL, bi_allL, bi_anyL, bi_sorted, bi_sortedR, bi_listL, bi_listT, bi_tupL, bi_tupT, bi_int1, bi_int1b, bi_abs1, bi_repr, ag_n, ag_nil, ag_cons, up_l, up_t, sq_l, sq_t, ln_l, ln_t, rg_1, rg_2, en_l, zp_l, zp_t, sb_l, sb_t, ra_eq, rd_mk, st_mk, wp_mk, bk_mk, ls_mk, nl_mk, bn_mk, bl_mk, no_mk, ss_mk, is_mk, sS_mk, pS_mk, aS_mk, sv_scr, sv_v, sv_f, sr_l, sr_t, rr_l, evE_lstx, evE_dsp, evE_idx, evE_dcomp, evS_ext, ex_l, evS_augI, evXs_nil, evXs_cons, evXs_star, eS_mk, gI_mk, ke_i, ke_s, sl_fd, b_shl, b_shr, b_and, bi_min3, sortR_ints, sortRR_ints, ai_nil, ai_cons, allInts_map, evE_imax, evE_slb, evE_sla, rr_t, slb_t, sla_l, im_mk, bi_sortedT, bi_lenSet, bi_sortSet, Int.reduceLE, Int.reduceLT, Int.reduceToNat, Int.reducePow, Nat.reduceLT, Nat.reduceLeDiff, Nat.reducePow, Int.reduceNeg, Int.reduceAbs, small_lit, at_0, at_1, at_2, decide_true, decide_false, gt_iff_lt, ge_iff_le, eq_self, Bool.not_eq_true])
  refine (next_W hn (by omega) g2 (by omega) (by omega) (by omega)).mono ?_
  rintro _ ⟨r3, S3, rfl, t0, t1, g3⟩
  (try simp only [W_cons, W_nil, kS_nx, kS_rt, kS_bk, oQ_nx, oQ_rt, W_some, W_bind, W_map, W_guard, W_guardB, evE_comp, evS_for, evS_while, evS_mkdr, evE_var, evE_con, evE_bin, evE_neg, evE_not_, evE_cmp, evE_chain, evE_and_, evE_or_, evE_ite, evE_tup, evE_lst, evE_sub, evE_subv, evE_slice, evE_rev, evE_lenv, evE_nilv, evE_inv, evE_call, evE_bi, evE_rngl, evE_isi, evE_pop0, evE_pop1, evS_set, evS_unp, evS_par, evS_stsub, evS_app, evS_drop, evS_if_, evS_ret, evS_retN, evS_brk, evS_pass, evS_undr, evEs, evPs, evO, evI, evT, startG, List.map_cons, List.map_nil, List.set_cons_zero, List.set_cons_succ, List.getElem?_cons_zero, List.getElem?_cons_succ, List.length_cons, List.length_nil, List.cons_append, List.nil_append, List.replicate_succ, List.replicate_zero, Nat.reduceAdd, Nat.reduceSub, cmpD_ii_eq, cmpD_ii_ne, cmpD_ii_lt, cmpD_ii_le, cmpD_ii_gt, cmpD_ii_ge, cmpD_bb_eq, cmpD_bb_ne, List.all_cons, List.all_nil, List.any_cons, List.any_nil, Bool.or_false, Bool.or_true, Bool.true_or, Bool.false_or, Bool.and_true, Bool.true_and, Bool.and_self, isTy, wipeG, backG, Option.bind_some, Option.map_some, Bool.not_true, Bool.not_false, ite_true, ite_false, if_true, if_false, true_and, and_true, Bool.false_eq_true, evI_seq, List.isEmpty_nil, List.isEmpty_cons, List.length_map, decide_eq_true_eq, Bool.and_eq_true, b_add, b_sub, b_mul, b_div, b_mod, b_pow, b_addL, b_addT, b_mulL, sl_v, sl_f, sl_dr, sl_scr, ar_v, ar_f, ar_dr, ar_scr, rv_v, rv_f, as_i, as_b, da_nil, da_cons, sa_nil, sa_cons, bi_len, bi_max2, bi_min2, bi_maxL, bi_minL, bi_sumL, bi_allL, bi_anyL, bi_sorted, bi_sortedR, bi_listL, bi_listT, bi_tupL, bi_tupT, bi_int1, bi_int1b, bi_abs1, bi_repr, ag_n, ag_nil, ag_cons, up_l, up_t, sq_l, sq_t, ln_l, ln_t, rg_1, rg_2, en_l, zp_l, zp_t, sb_l, sb_t, ra_eq, rd_mk, st_mk, wp_mk, bk_mk, ls_mk, nl_mk, bn_mk, bl_mk, no_mk, ss_mk, is_mk, sS_mk, pS_mk, aS_mk, sv_scr, sv_v, sv_f, sr_l, sr_t, rr_l, evE_lstx, evE_dsp, evE_idx, evE_dcomp, evS_ext, ex_l, evS_augI, evXs_nil, evXs_cons, evXs_star, eS_mk, gI_mk, ke_i, ke_s, sl_fd, b_shl, b_shr, b_and, bi_min3, sortR_ints, sortRR_ints, ai_nil, ai_cons, allInts_map, evE_imax, evE_slb, evE_sla, rr_t, slb_t, sla_l, im_mk, bi_sortedT, bi_lenSet, bi_sortSet, Int.reduceLE, Int.reduceLT, Int.reduceToNat, Int.reducePow, Nat.reduceLT, Nat.reduceLeDiff, Nat.reducePow, Int.reduceNeg, Int.reduceAbs, small_lit, at_0, at_1, at_2, decide_true, decide_false, gt_iff_lt, ge_iff_le, eq_self, Bool.not_eq_true])
  have : r3 = 0 ∨ r3 = 1 ∨ r3 = 2 := by omega
  rcases this with rfl | rfl | rfl
  · exact ⟨_, rfl, r, S3, rfl, r0, by split at r1 <;> omega, g3⟩
  · exact ⟨_, rfl, m - r, S3, rfl, by split at r1 <;> omega, by omega, g3⟩
  · exact ⟨_, rfl, r2, S3, rfl, s0, by omega, g3⟩
end Tl

namespace Tl
open PySem

def cnt (t : Int) (ks : List Int) : Nat := (ks.filter fun x => decide (t ≤ x)).length
def addIx : Nat → List Int → List Int
  | _, [] => []
  | k, x :: r => (x + (k : Int)) :: addIx (k + 1) r
def lst (ks : List Int) : Int := maxI 0 (addIx 0 (sortI ks).reverse)

theorem maxI_le : ∀ {l : List Int} {a m : Int}, maxI a l ≤ m ↔ a ≤ m ∧ ∀ x ∈ l, x ≤ m
  | [], a, m => by simp [maxI]
  | x :: r, a, m => by
    rw [maxI, maxI_le]
    simp only [List.mem_cons, forall_eq_or_imp]
    rw [← and_assoc]
    refine and_congr_left fun _ => ?_
    split <;> omega
theorem addIx_mem : ∀ {l : List Int} {k : Nat} {y : Int}, y ∈ addIx k l ↔ ∃ (i : Nat) (x : Int), l[i]? = some x ∧ y = x + (k : Int) + (i : Int)
  | [], k, y => by simp [addIx]
  | x :: r, k, y => by
    rw [addIx, List.mem_cons, addIx_mem]
    constructor
    · rintro (rfl | ⟨i, z, h, rfl⟩)
      · exact ⟨0, x, rfl, by simp⟩
      · exact ⟨i + 1, z, h, by omega⟩
    · rintro ⟨i, z, h, rfl⟩
      cases i with
      | zero =>
        simp only [List.getElem?_cons_zero, Option.some.injEq] at h
        subst h
        exact .inl (by simp)
      | succ i =>
        rw [List.getElem?_cons_succ] at h
        exact .inr ⟨i, z, h, by omega⟩
theorem cnt_cons {t x : Int} {r : List Int} : cnt t (x :: r) = cnt t r + if t ≤ x then 1 else 0 := by
  unfold cnt
  rw [List.filter_cons]
  by_cases h : t ≤ x
  · rw [if_pos (decide_eq_true h), if_pos h, List.length_cons]
  · rw [if_neg (by simpa using h), if_neg h]
    rfl
theorem cnt_app {t : Int} {r s : List Int} : cnt t (r ++ s) = cnt t r + cnt t s := by
  unfold cnt
  rw [List.filter_append, List.length_append]
theorem cnt_one {t x : Int} : cnt t [x] = if t ≤ x then 1 else 0 := by
  rw [cnt_cons]
  exact Nat.zero_add _
theorem cnt_zero {t : Int} {l : List Int} (h : ∀ x ∈ l, x < t) : cnt t l = 0 := by
  unfold cnt
  rw [List.length_eq_zero_iff, List.filter_eq_nil_iff]
  intro x hx
  have := h x hx
  simp
  omega
theorem cnt_perm {t : Int} {r s : List Int} (p : r.Perm s) : cnt t r = cnt t s := (p.filter _).length_eq
theorem desc_at {t : Int} : ∀ {d : List Int}, d.Pairwise (· ≥ ·) → 0 < cnt t d → ∃ x, d[cnt t d - 1]? = some x ∧ t ≤ x
  | [], _, h => absurd h (by simp [cnt])
  | y :: r, p, h => by
    obtain ⟨p1, p2⟩ := List.pairwise_cons.mp p
    by_cases hy : t ≤ y
    · rw [cnt_cons, if_pos hy, Nat.add_sub_cancel]
      by_cases hr : 0 < cnt t r
      · obtain ⟨x, e, l⟩ := desc_at p2 hr
        refine ⟨x, ?_, l⟩
        obtain ⟨c, hc⟩ : ∃ c, cnt t r = c + 1 := ⟨cnt t r - 1, by omega⟩
        rw [hc, List.getElem?_cons_succ]
        rw [hc, Nat.add_sub_cancel] at e
        exact e
      · rw [show cnt t r = 0 by omega]
        exact ⟨y, rfl, hy⟩
    · rw [cnt_cons, if_neg hy, cnt_zero fun x hx => by have := p1 x hx; omega] at h
      omega
theorem desc_cnt : ∀ {d : List Int} {i : Nat} {x : Int}, d.Pairwise (· ≥ ·) → d[i]? = some x → i + 1 ≤ cnt x d
  | [], i, x, _, h => by simp at h
  | y :: r, i, x, p, h => by
    obtain ⟨p1, p2⟩ := List.pairwise_cons.mp p
    cases i with
    | zero =>
      simp only [List.getElem?_cons_zero, Option.some.injEq] at h
      subst h
      rw [cnt_cons, if_pos (Int.le_refl _)]
      omega
    | succ i =>
      rw [List.getElem?_cons_succ] at h
      have := desc_cnt p2 h
      have := p1 x (List.mem_of_getElem? h)
      rw [cnt_cons, if_pos (by omega)]
      omega
theorem lst_le {ks : List Int} {m : Int} : lst ks ≤ m ↔ 0 ≤ m ∧ ∀ t, 0 < cnt t ks → t + cnt t ks - 1 ≤ m := by
  have dp : (sortI ks).reverse.Pairwise (· ≥ ·) := List.pairwise_reverse.mpr (sortI_sorted ks)
  have cp : ∀ t, cnt t (sortI ks).reverse = cnt t ks := fun t => cnt_perm ((List.reverse_perm _).trans (sortI_perm ks))
  unfold lst
  rw [maxI_le]
  refine and_congr_right fun h0 => ?_
  constructor
  · intro h t ht
    rw [← cp] at ht ⊢
    obtain ⟨x, e, l⟩ := desc_at dp ht
    have := h _ (addIx_mem.mpr ⟨_, x, e, rfl⟩)
    omega
  · intro h y hy
    obtain ⟨i, x, e, rfl⟩ := addIx_mem.mp hy
    have z := desc_cnt dp e
    rw [cp] at z
    have := h x (by omega)
    omega
theorem lst_nn (ks : List Int) : 0 ≤ lst ks := (lst_le.mp (Int.le_refl _)).1
theorem lst_at {ks : List Int} {t : Int} (h : 0 < cnt t ks) : t + cnt t ks - 1 ≤ lst ks := (lst_le.mp (Int.le_refl _)).2 t h
end Tl

namespace Tl
open PySem

def bShuffled (xNext : Nat) : ISs := .cons (.set 2 (.rngl (.con (.int 0)) (.var 1))) (.cons (.ret (.comp (.pop1 2 (.call xNext (.cons (.var 0) (.cons (.lenv 2) .nil)))) (.n 3) (.rng (.cons (.var 1) .nil)) .no [3])) .nil)
def bMade : ISs := .cons (.ret (.tup (.cons (.var 0) (.cons (.bi .tuple (.cons (.bi .sorted (.cons (.comp (.tup (.cons (.bi .min2 (.cons (.var 2) (.cons (.var 3) .nil))) (.cons (.bi .max2 (.cons (.var 2) (.cons (.var 3) .nil))) (.cons (.var 4) .nil)))) (.cons (.n 2) (.cons (.n 3) (.cons (.n 4) .nil))) (.seq (.var 1)) .no [2, 3, 4]) .nil)) .nil)) .nil)))) .nil
variable {tf : List Fn} {fu k i : Nat}
end Tl

namespace Tl
open PySem
variable {tf : List Fn} {fu k i : Nat}
def rngI (n : Nat) : List Int := (List.range n).map fun j => ((j : Nat) : Int)
theorem rngI_len (n : Nat) : (rngI n).length = n := by simp [rngI]
theorem rngD_zero (n : Nat) : rngD 0 ((n : Nat) : Int) = (rngI n).map PyData.int := by
  unfold rngD rngI
  rw [Int.sub_zero, Int.toNat_natCast, List.map_map]
  exact List.map_congr_left fun a _ => by simp
theorem rngI_mem {n : Nat} {x : Int} : x ∈ rngI n ↔ 0 ≤ x ∧ x < n := by
  unfold rngI
  simp only [List.mem_map, List.mem_range]
  constructor
  · rintro ⟨a, h, rfl⟩
    omega
  · rintro ⟨h1, h2⟩
    exact ⟨x.toNat, by omega, by omega⟩
theorem rngI_nodup (n : Nat) : (rngI n).Nodup := by
  unfold rngI
  exact List.Pairwise.map _ (fun a b h z => h (Int.ofNat_inj.mp z)) List.nodup_range
theorem eraseIdx_map' {α β : Type} (f : α → β) : ∀ (l : List α) (n : Nat), (l.map f).eraseIdx n = (l.eraseIdx n).map f
  | [], _ => rfl
  | _ :: _, 0 => rfl
  | x :: r, n + 1 => by rw [List.map_cons, List.eraseIdx_cons_succ, List.eraseIdx_cons_succ, List.map_cons, eraseIdx_map' f r n]
theorem pick_perm {α : Type} : ∀ {l : List α} {n : Nat} (h : n < l.length), ([l[n]] ++ l.eraseIdx n).Perm l
  | [], n, h => absurd h (Nat.not_lt_zero _)
  | x :: r, 0, h => List.Perm.refl _
  | x :: r, n + 1, h => by
    have h' : n < r.length := Nat.lt_of_succ_lt_succ h
    rw [List.getElem_cons_succ, List.eraseIdx_cons_succ]
    exact (List.Perm.swap x _ _).trans (List.Perm.cons x (pick_perm h'))
theorem shuffled_W {S : DS} {b xn n : Nat} (hn : tf[xn]? = some ⟨2, 9, bNext⟩) (hf : tf[i]? = some ⟨2, 4, bShuffled xn⟩) (hk : 1 < k) (hS : Gd b S) (hb : b + n ≤ 2 ^ 24) (hl : n < 10000) :
    W (callF tf fu k i [.dr, .v (.int (n : Nat))] (some S)) fun p => ∃ (vs : List Int) (S' : DS), p = (.v (.list (vs.map .int)), some S') ∧ vs.Perm (rngI n) ∧ Gd (b + n) S' := by
  obtain ⟨k, rfl⟩ : ∃ j, k = j + 1 := ⟨k - 1, by omega⟩
  refine W_call hf rfl ?_
  unfold bShuffled
  (try simp only [W_cons, W_nil, kS_nx, kS_rt, kS_bk, oQ_nx, oQ_rt, W_some, W_bind, W_map, W_guard, W_guardB, evE_comp, evS_for, evS_while, evS_mkdr, evE_var, evE_con, evE_bin, evE_neg, evE_not_, evE_cmp, evE_chain, evE_and_, evE_or_, evE_ite, evE_tup, evE_lst, evE_sub, evE_subv, evE_slice, evE_rev, evE_lenv, evE_nilv, evE_inv, evE_call, evE_bi, evE_rngl, evE_isi, evE_pop0, evE_pop1, evS_set, evS_unp, evS_par, evS_stsub, evS_app, evS_drop, evS_if_, evS_ret, evS_retN, evS_brk, evS_pass, evS_undr, evEs, evPs, evO, evI, evT, startG, List.map_cons, List.map_nil, List.set_cons_zero, List.set_cons_succ, List.getElem?_cons_zero, List.getElem?_cons_succ, List.length_cons, List.length_nil, List.cons_append, List.nil_append, List.replicate_succ, List.replicate_zero, Nat.reduceAdd, Nat.reduceSub, cmpD_ii_eq, cmpD_ii_ne, cmpD_ii_lt, cmpD_ii_le, cmpD_ii_gt, cmpD_ii_ge, cmpD_bb_eq, cmpD_bb_ne, List.all_cons, List.all_nil, List.any_cons, List.any_nil, Bool.or_false, Bool.or_true, Bool.true_or, Bool.false_or, Bool.and_true, Bool.true_and, Bool.and_self, isTy, wipeG, backG, Option.bind_some, Option.map_some, Bool.not_true, Bool.not_false, ite_true, ite_false, if_true, if_false, true_and, and_true, Bool.false_eq_true, evI_seq, List.isEmpty_nil, List.isEmpty_cons, List.length_map, decide_eq_true_eq, Bool.and_eq_true, b_add, b_sub, b_mul, b_div, b_mod, b_pow, b_addL, b_addT, b_mulL, sl_v, sl_f, sl_dr, sl_scr, ar_v, ar_f, ar_dr, ar_scr, rv_v, rv_f, as_i, as_b, da_nil, da_cons, sa_nil, sa_cons, bi_len, bi_max2, bi_min2, bi_maxL, bi_minL, bi_sumL, bi_allL, bi_anyL, bi_sorted, bi_sortedR, bi_listL, bi_listT, bi_tupL, bi_tupT, bi_int1, bi_int1b, bi_abs1, bi_repr, ag_n, ag_nil, ag_cons, up_l, up_t, sq_l, sq_t, ln_l, ln_t, rg_1, rg_2, en_l, zp_l, zp_t, sb_l, sb_t, ra_eq, rd_mk, st_mk, wp_mk, bk_mk, ls_mk, nl_mk, bn_mk, bl_mk, no_mk, ss_mk, is_mk, sS_mk, pS_mk, aS_mk, sv_scr, sv_v, sv_f, sr_l, sr_t, rr_l, evE_lstx, evE_dsp, evE_idx, evE_dcomp, evS_ext, ex_l, evS_augI, evXs_nil, evXs_cons, evXs_star, eS_mk, gI_mk, ke_i, ke_s, sl_fd, b_shl, b_shr, b_and, bi_min3, sortR_ints, sortRR_ints, ai_nil, ai_cons, allInts_map, evE_imax, evE_slb, evE_sla, rr_t, slb_t, sla_l, im_mk, bi_sortedT, bi_lenSet, bi_sortSet, Int.reduceLE, Int.reduceLT, Int.reduceToNat, Int.reducePow, Nat.reduceLT, Nat.reduceLeDiff, Nat.reducePow, Int.reduceNeg, Int.reduceAbs, small_lit, at_0, at_1, at_2, decide_true, decide_false, gt_iff_lt, ge_iff_le, eq_self, Bool.not_eq_true])
  have hs : small ((n : Nat) : Int) = true := small_of (by omega)
  have hs0 : small 0 = true := by decide
  refine ⟨⟨hs, decide_eq_true (by unfold LIM; omega)⟩, hs, decide_eq_true (by unfold rngD LIM; simp; omega), ?_⟩
  rw [rngD_zero]
  refine W_compLoop (fun rest acc s => ∃ (vs ls : List Int) (S' : DS) (x : Slot), acc = vs.map .int ∧ s = ⟨[.dr, .v (.int (n : Nat)), .own (ls.map .int), x], some S'⟩ ∧ rest.length = ls.length ∧ vs.length + ls.length = n ∧ (vs ++ ls).Perm (rngI n) ∧ Gd (b + vs.length) S') ?_ ?_ ⟨[], rngI n, S, _, rfl, rfl, by simp, by rw [rngI_len]; simp, List.Perm.refl _, hS⟩
  · rintro x rest acc s ⟨vs, ls, S1, x1, rfl, rfl, p1, p2, p3, g1⟩
    rw [List.length_cons] at p1
    unfold cStep
    (try simp only [W_cons, W_nil, kS_nx, kS_rt, kS_bk, oQ_nx, oQ_rt, W_some, W_bind, W_map, W_guard, W_guardB, evE_comp, evS_for, evS_while, evS_mkdr, evE_var, evE_con, evE_bin, evE_neg, evE_not_, evE_cmp, evE_chain, evE_and_, evE_or_, evE_ite, evE_tup, evE_lst, evE_sub, evE_subv, evE_slice, evE_rev, evE_lenv, evE_nilv, evE_inv, evE_call, evE_bi, evE_rngl, evE_isi, evE_pop0, evE_pop1, evS_set, evS_unp, evS_par, evS_stsub, evS_app, evS_drop, evS_if_, evS_ret, evS_retN, evS_brk, evS_pass, evS_undr, evEs, evPs, evO, evI, evT, startG, List.map_cons, List.map_nil, List.set_cons_zero, List.set_cons_succ, List.getElem?_cons_zero, List.getElem?_cons_succ, List.length_cons, List.length_nil, List.cons_append, List.nil_append, List.replicate_succ, List.replicate_zero, Nat.reduceAdd, Nat.reduceSub, cmpD_ii_eq, cmpD_ii_ne, cmpD_ii_lt, cmpD_ii_le, cmpD_ii_gt, cmpD_ii_ge, cmpD_bb_eq, cmpD_bb_ne, List.all_cons, List.all_nil, List.any_cons, List.any_nil, Bool.or_false, Bool.or_true, Bool.true_or, Bool.false_or, Bool.and_true, Bool.true_and, Bool.and_self, isTy, wipeG, backG, Option.bind_some, Option.map_some, Bool.not_true, Bool.not_false, ite_true, ite_false, if_true, if_false, true_and, and_true, Bool.false_eq_true, evI_seq, List.isEmpty_nil, List.isEmpty_cons, List.length_map, decide_eq_true_eq, Bool.and_eq_true, b_add, b_sub, b_mul, b_div, b_mod, b_pow, b_addL, b_addT, b_mulL, sl_v, sl_f, sl_dr, sl_scr, ar_v, ar_f, ar_dr, ar_scr, rv_v, rv_f, as_i, as_b, da_nil, da_cons, sa_nil, sa_cons, bi_len, bi_max2, bi_min2, bi_maxL, bi_minL, bi_sumL, bi_allL, bi_anyL, bi_sorted, bi_sortedR, bi_listL, bi_listT, bi_tupL, bi_tupT, bi_int1, bi_int1b, bi_abs1, bi_repr, ag_n, ag_nil, ag_cons, up_l, up_t, sq_l, sq_t, ln_l, ln_t, rg_1, rg_2, en_l, zp_l, zp_t, sb_l, sb_t, ra_eq, rd_mk, st_mk, wp_mk, bk_mk, ls_mk, nl_mk, bn_mk, bl_mk, no_mk, ss_mk, is_mk, sS_mk, pS_mk, aS_mk, sv_scr, sv_v, sv_f, sr_l, sr_t, rr_l, evE_lstx, evE_dsp, evE_idx, evE_dcomp, evS_ext, ex_l, evS_augI, evXs_nil, evXs_cons, evXs_star, eS_mk, gI_mk, ke_i, ke_s, sl_fd, b_shl, b_shr, b_and, bi_min3, sortR_ints, sortRR_ints, ai_nil, ai_cons, allInts_map, evE_imax, evE_slb, evE_sla, rr_t, slb_t, sla_l, im_mk, bi_sortedT, bi_lenSet, bi_sortSet, Int.reduceLE, Int.reduceLT, Int.reduceToNat, Int.reducePow, Nat.reduceLT, Nat.reduceLeDiff, Nat.reducePow, Int.reduceNeg, Int.reduceAbs, small_lit, at_0, at_1, at_2, decide_true, decide_false, gt_iff_lt, ge_iff_le, eq_self, Bool.not_eq_true])
    refine (next_W hn (by omega) g1 (by omega) (by omega) (by omega)).mono ?_
    rintro _ ⟨r, S2, rfl, r0, r1, g2⟩
    (try simp only [W_cons, W_nil, kS_nx, kS_rt, kS_bk, oQ_nx, oQ_rt, W_some, W_bind, W_map, W_guard, W_guardB, evE_comp, evS_for, evS_while, evS_mkdr, evE_var, evE_con, evE_bin, evE_neg, evE_not_, evE_cmp, evE_chain, evE_and_, evE_or_, evE_ite, evE_tup, evE_lst, evE_sub, evE_subv, evE_slice, evE_rev, evE_lenv, evE_nilv, evE_inv, evE_call, evE_bi, evE_rngl, evE_isi, evE_pop0, evE_pop1, evS_set, evS_unp, evS_par, evS_stsub, evS_app, evS_drop, evS_if_, evS_ret, evS_retN, evS_brk, evS_pass, evS_undr, evEs, evPs, evO, evI, evT, startG, List.map_cons, List.map_nil, List.set_cons_zero, List.set_cons_succ, List.getElem?_cons_zero, List.getElem?_cons_succ, List.length_cons, List.length_nil, List.cons_append, List.nil_append, List.replicate_succ, List.replicate_zero, Nat.reduceAdd, Nat.reduceSub, cmpD_ii_eq, cmpD_ii_ne, cmpD_ii_lt, cmpD_ii_le, cmpD_ii_gt, cmpD_ii_ge, cmpD_bb_eq, cmpD_bb_ne, List.all_cons, List.all_nil, List.any_cons, List.any_nil, Bool.or_false, Bool.or_true, Bool.true_or, Bool.false_or, Bool.and_true, Bool.true_and, Bool.and_self, isTy, wipeG, backG, Option.bind_some, Option.map_some, Bool.not_true, Bool.not_false, ite_true, ite_false, if_true, if_false, true_and, and_true, Bool.false_eq_true, evI_seq, List.isEmpty_nil, List.isEmpty_cons, List.length_map, decide_eq_true_eq, Bool.and_eq_true, b_add, b_sub, b_mul, b_div, b_mod, b_pow, b_addL, b_addT, b_mulL, sl_v, sl_f, sl_dr, sl_scr, ar_v, ar_f, ar_dr, ar_scr, rv_v, rv_f, as_i, as_b, da_nil, da_cons, sa_nil, sa_cons, bi_len, bi_max2, bi_min2, bi_maxL, bi_minL, bi_sumL, bi_allL, bi_anyL, bi_sorted, bi_sortedR, bi_listL, bi_listT, bi_tupL, bi_tupT, bi_int1, bi_int1b, bi_abs1, bi_repr, ag_n, ag_nil, ag_cons, up_l, up_t, sq_l, sq_t, ln_l, ln_t, rg_1, rg_2, en_l, zp_l, zp_t, sb_l, sb_t, ra_eq, rd_mk, st_mk, wp_mk, bk_mk, ls_mk, nl_mk, bn_mk, bl_mk, no_mk, ss_mk, is_mk, sS_mk, pS_mk, aS_mk, sv_scr, sv_v, sv_f, sr_l, sr_t, rr_l, evE_lstx, evE_dsp, evE_idx, evE_dcomp, evS_ext, ex_l, evS_augI, evXs_nil, evXs_cons, evXs_star, eS_mk, gI_mk, ke_i, ke_s, sl_fd, b_shl, b_shr, b_and, bi_min3, sortR_ints, sortRR_ints, ai_nil, ai_cons, allInts_map, evE_imax, evE_slb, evE_sla, rr_t, slb_t, sla_l, im_mk, bi_sortedT, bi_lenSet, bi_sortSet, Int.reduceLE, Int.reduceLT, Int.reduceToNat, Int.reducePow, Nat.reduceLT, Nat.reduceLeDiff, Nat.reducePow, Int.reduceNeg, Int.reduceAbs, small_lit, at_0, at_1, at_2, decide_true, decide_false, gt_iff_lt, ge_iff_le, eq_self, Bool.not_eq_true])
    rw [ixD_in r0 r1]
    have hr : r.toNat < ls.length := by omega
    (try simp only [W_cons, W_nil, kS_nx, kS_rt, kS_bk, oQ_nx, oQ_rt, W_some, W_bind, W_map, W_guard, W_guardB, evE_comp, evS_for, evS_while, evS_mkdr, evE_var, evE_con, evE_bin, evE_neg, evE_not_, evE_cmp, evE_chain, evE_and_, evE_or_, evE_ite, evE_tup, evE_lst, evE_sub, evE_subv, evE_slice, evE_rev, evE_lenv, evE_nilv, evE_inv, evE_call, evE_bi, evE_rngl, evE_isi, evE_pop0, evE_pop1, evS_set, evS_unp, evS_par, evS_stsub, evS_app, evS_drop, evS_if_, evS_ret, evS_retN, evS_brk, evS_pass, evS_undr, evEs, evPs, evO, evI, evT, startG, List.map_cons, List.map_nil, List.set_cons_zero, List.set_cons_succ, List.getElem?_cons_zero, List.getElem?_cons_succ, List.length_cons, List.length_nil, List.cons_append, List.nil_append, List.replicate_succ, List.replicate_zero, Nat.reduceAdd, Nat.reduceSub, cmpD_ii_eq, cmpD_ii_ne, cmpD_ii_lt, cmpD_ii_le, cmpD_ii_gt, cmpD_ii_ge, cmpD_bb_eq, cmpD_bb_ne, List.all_cons, List.all_nil, List.any_cons, List.any_nil, Bool.or_false, Bool.or_true, Bool.true_or, Bool.false_or, Bool.and_true, Bool.true_and, Bool.and_self, isTy, wipeG, backG, Option.bind_some, Option.map_some, Bool.not_true, Bool.not_false, ite_true, ite_false, if_true, if_false, true_and, and_true, Bool.false_eq_true, evI_seq, List.isEmpty_nil, List.isEmpty_cons, List.length_map, decide_eq_true_eq, Bool.and_eq_true, b_add, b_sub, b_mul, b_div, b_mod, b_pow, b_addL, b_addT, b_mulL, sl_v, sl_f, sl_dr, sl_scr, ar_v, ar_f, ar_dr, ar_scr, rv_v, rv_f, as_i, as_b, da_nil, da_cons, sa_nil, sa_cons, bi_len, bi_max2, bi_min2, bi_maxL, bi_minL, bi_sumL, bi_allL, bi_anyL, bi_sorted, bi_sortedR, bi_listL, bi_listT, bi_tupL, bi_tupT, bi_int1, bi_int1b, bi_abs1, bi_repr, ag_n, ag_nil, ag_cons, up_l, up_t, sq_l, sq_t, ln_l, ln_t, rg_1, rg_2, en_l, zp_l, zp_t, sb_l, sb_t, ra_eq, rd_mk, st_mk, wp_mk, bk_mk, ls_mk, nl_mk, bn_mk, bl_mk, no_mk, ss_mk, is_mk, sS_mk, pS_mk, aS_mk, sv_scr, sv_v, sv_f, sr_l, sr_t, rr_l, evE_lstx, evE_dsp, evE_idx, evE_dcomp, evS_ext, ex_l, evS_augI, evXs_nil, evXs_cons, evXs_star, eS_mk, gI_mk, ke_i, ke_s, sl_fd, b_shl, b_shr, b_and, bi_min3, sortR_ints, sortRR_ints, ai_nil, ai_cons, allInts_map, evE_imax, evE_slb, evE_sla, rr_t, slb_t, sla_l, im_mk, bi_sortedT, bi_lenSet, bi_sortSet, Int.reduceLE, Int.reduceLT, Int.reduceToNat, Int.reducePow, Nat.reduceLT, Nat.reduceLeDiff, Nat.reducePow, Int.reduceNeg, Int.reduceAbs, small_lit, at_0, at_1, at_2, decide_true, decide_false, gt_iff_lt, ge_iff_le, eq_self, Bool.not_eq_true, List.getElem?_map, List.getElem?_eq_getElem hr])
    refine ⟨small_of (by omega), vs ++ [ls[r.toNat]], ls.eraseIdx r.toNat, S2, _, by rw [List.map_append]; rfl, by rw [eraseIdx_map'], by rw [List.length_eraseIdx_of_lt hr]; omega, ?_, ?_, g2.le (by rw [List.length_append]; simp; omega)⟩
    · rw [List.length_eraseIdx_of_lt hr, List.length_append]
      simp only [List.length_cons, List.length_nil]
      omega
    · rw [List.append_assoc]
      refine List.Perm.trans (List.Perm.append_left vs ?_) p3
      exact pick_perm hr
  · rintro acc s ⟨vs, ls, S1, x1, rfl, rfl, p1, p2, p3, g1⟩
    (try simp only [W_cons, W_nil, kS_nx, kS_rt, kS_bk, oQ_nx, oQ_rt, W_some, W_bind, W_map, W_guard, W_guardB, evE_comp, evS_for, evS_while, evS_mkdr, evE_var, evE_con, evE_bin, evE_neg, evE_not_, evE_cmp, evE_chain, evE_and_, evE_or_, evE_ite, evE_tup, evE_lst, evE_sub, evE_subv, evE_slice, evE_rev, evE_lenv, evE_nilv, evE_inv, evE_call, evE_bi, evE_rngl, evE_isi, evE_pop0, evE_pop1, evS_set, evS_unp, evS_par, evS_stsub, evS_app, evS_drop, evS_if_, evS_ret, evS_retN, evS_brk, evS_pass, evS_undr, evEs, evPs, evO, evI, evT, startG, List.map_cons, List.map_nil, List.set_cons_zero, List.set_cons_succ, List.getElem?_cons_zero, List.getElem?_cons_succ, List.length_cons, List.length_nil, List.cons_append, List.nil_append, List.replicate_succ, List.replicate_zero, Nat.reduceAdd, Nat.reduceSub, cmpD_ii_eq, cmpD_ii_ne, cmpD_ii_lt, cmpD_ii_le, cmpD_ii_gt, cmpD_ii_ge, cmpD_bb_eq, cmpD_bb_ne, List.all_cons, List.all_nil, List.any_cons, List.any_nil, Bool.or_false, Bool.or_true, Bool.true_or, Bool.false_or, Bool.and_true, Bool.true_and, Bool.and_self, isTy, wipeG, backG, Option.bind_some, Option.map_some, Bool.not_true, Bool.not_false, ite_true, ite_false, if_true, if_false, true_and, and_true, Bool.false_eq_true, evI_seq, List.isEmpty_nil, List.isEmpty_cons, List.length_map, decide_eq_true_eq, Bool.and_eq_true, b_add, b_sub, b_mul, b_div, b_mod, b_pow, b_addL, b_addT, b_mulL, sl_v, sl_f, sl_dr, sl_scr, ar_v, ar_f, ar_dr, ar_scr, rv_v, rv_f, as_i, as_b, da_nil, da_cons, sa_nil, sa_cons, bi_len, bi_max2, bi_min2, bi_maxL, bi_minL, bi_sumL, bi_allL, bi_anyL, bi_sorted, bi_sortedR, bi_listL, bi_listT, bi_tupL, bi_tupT, bi_int1, bi_int1b, bi_abs1, bi_repr, ag_n, ag_nil, ag_cons, up_l, up_t, sq_l, sq_t, ln_l, ln_t, rg_1, rg_2, en_l, zp_l, zp_t, sb_l, sb_t, ra_eq, rd_mk, st_mk, wp_mk, bk_mk, ls_mk, nl_mk, bn_mk, bl_mk, no_mk, ss_mk, is_mk, sS_mk, pS_mk, aS_mk, sv_scr, sv_v, sv_f, sr_l, sr_t, rr_l, evE_lstx, evE_dsp, evE_idx, evE_dcomp, evS_ext, ex_l, evS_augI, evXs_nil, evXs_cons, evXs_star, eS_mk, gI_mk, ke_i, ke_s, sl_fd, b_shl, b_shr, b_and, bi_min3, sortR_ints, sortRR_ints, ai_nil, ai_cons, allInts_map, evE_imax, evE_slb, evE_sla, rr_t, slb_t, sla_l, im_mk, bi_sortedT, bi_lenSet, bi_sortSet, Int.reduceLE, Int.reduceLT, Int.reduceToNat, Int.reducePow, Nat.reduceLT, Nat.reduceLeDiff, Nat.reducePow, Int.reduceNeg, Int.reduceAbs, small_lit, at_0, at_1, at_2, decide_true, decide_false, gt_iff_lt, ge_iff_le, eq_self, Bool.not_eq_true])
    have : ls = [] := List.length_eq_zero_iff.mp p1.symm
    subst this
    rw [List.append_nil] at p3
    exact ⟨vs, S1, rfl, p3, g1.le (by simp at p2; omega)⟩

abbrev E3 := Int × Int × Int
def edD (e : E3) : D := .tuple [.int e.1, .int e.2.1, .int e.2.2]
def tl3 (e : E3) : List Int := [e.1, e.2.1, e.2.2]
def le3 (a b : E3) : Bool := lexLe (tl3 a) (tl3 b)
def sortE (es : List E3) : List E3 := sortD le3 es
theorem insD_map {α β : Type} (f : α → β) (le : β → β → Bool) (x : α) : ∀ l : List α, insD le (f x) (l.map f) = (insD (fun a b => le (f a) (f b)) x l).map f
  | [] => rfl
  | y :: r => by
    rw [List.map_cons, insD, insD]
    split
    · rfl
    · rw [List.map_cons, insD_map f le x r]
theorem sortD_map {α β : Type} (f : α → β) (le : β → β → Bool) : ∀ l : List α, sortD le (l.map f) = (sortD (fun a b => le (f a) (f b)) l).map f
  | [] => rfl
  | x :: r => by rw [List.map_cons, sortD, sortD, sortD_map f le r, insD_map]
theorem sortE_perm (es : List E3) : (sortE es).Perm es := sortD_perm es
theorem sortE_sorted (es : List E3) : (sortE es).Pairwise (fun a b => le3 a b = true) := sortD_sorted (le := le3) (fun a b => lexLe_total (tl3 a) (tl3 b)) (fun a b c => lexLe_trans (tl3 a) (tl3 b) (tl3 c)) es
theorem tupInts_ed : ∀ es : List E3, tupInts (es.map edD) = some (es.map tl3)
  | [] => rfl
  | e :: r => by
    rw [List.map_cons, edD, tupInts, tupInts_ed r]
    rfl
theorem sortR_ed {es : List E3} (hl : es.length < 64) (hb : ∀ e ∈ es, (0 ≤ e.1 ∧ e.1 < 2 ^ 62) ∧ (0 ≤ e.2.1 ∧ e.2.1 < 2 ^ 62) ∧ 0 ≤ e.2.2 ∧ e.2.2 < 2 ^ 62) : sortR (es.map edD) = some ((sortE es).map edD) := by
  unfold sortR
  cases es with
  | nil => rfl
  | cons e r =>
    have h1 : allInts ((e :: r).map edD) = none := rfl
    rw [h1, tupInts_ed]
    have h2 : okTs ((e :: r).map tl3) = true := by
      unfold okTs
      rw [Bool.and_eq_true, List.length_map, List.all_eq_true]
      refine ⟨decide_eq_true (by unfold LIM; omega), fun l h => ?_⟩
      obtain ⟨x, hx, rfl⟩ := List.mem_map.mp h
      rfl
    simp only [h2, if_true]
    unfold sortT
    rw [sortD_map tl3 lexLe, List.map_map]
    rfl
def nrm (e : E3) : E3 := (if e.2.1 < e.1 then e.2.1 else e.1, if e.1 < e.2.1 then e.2.1 else e.1, e.2.2)
def treeD (n : Int) (es : List E3) : D := .tuple [.int n, .tuple (es.map edD)]
theorem made_W {S : Option DS} {n : Int} {es : List E3} (hf : tf[i]? = some ⟨2, 5, bMade⟩) (hk : 0 < k) (hl : es.length < 64) (hb : ∀ e ∈ es, (0 ≤ e.1 ∧ e.1 < 2 ^ 62) ∧ (0 ≤ e.2.1 ∧ e.2.1 < 2 ^ 62) ∧ 0 ≤ e.2.2 ∧ e.2.2 < 2 ^ 62) :
    W (callF tf fu k i [.v (.int n), .v (.list (es.map edD))] S) fun p => p = (.v (treeD n (sortE (es.map nrm))), S) := by
  obtain ⟨k, rfl⟩ : ∃ j, k = j + 1 := ⟨k - 1, by omega⟩
  refine W_call hf rfl ?_
  unfold bMade
  (try simp only [W_cons, W_nil, kS_nx, kS_rt, kS_bk, oQ_nx, oQ_rt, W_some, W_bind, W_map, W_guard, W_guardB, evE_comp, evS_for, evS_while, evS_mkdr, evE_var, evE_con, evE_bin, evE_neg, evE_not_, evE_cmp, evE_chain, evE_and_, evE_or_, evE_ite, evE_tup, evE_lst, evE_sub, evE_subv, evE_slice, evE_rev, evE_lenv, evE_nilv, evE_inv, evE_call, evE_bi, evE_rngl, evE_isi, evE_pop0, evE_pop1, evS_set, evS_unp, evS_par, evS_stsub, evS_app, evS_drop, evS_if_, evS_ret, evS_retN, evS_brk, evS_pass, evS_undr, evEs, evPs, evO, evI, evT, startG, List.map_cons, List.map_nil, List.set_cons_zero, List.set_cons_succ, List.getElem?_cons_zero, List.getElem?_cons_succ, List.length_cons, List.length_nil, List.cons_append, List.nil_append, List.replicate_succ, List.replicate_zero, Nat.reduceAdd, Nat.reduceSub, cmpD_ii_eq, cmpD_ii_ne, cmpD_ii_lt, cmpD_ii_le, cmpD_ii_gt, cmpD_ii_ge, cmpD_bb_eq, cmpD_bb_ne, List.all_cons, List.all_nil, List.any_cons, List.any_nil, Bool.or_false, Bool.or_true, Bool.true_or, Bool.false_or, Bool.and_true, Bool.true_and, Bool.and_self, isTy, wipeG, backG, Option.bind_some, Option.map_some, Bool.not_true, Bool.not_false, ite_true, ite_false, if_true, if_false, true_and, and_true, Bool.false_eq_true, evI_seq, List.isEmpty_nil, List.isEmpty_cons, List.length_map, decide_eq_true_eq, Bool.and_eq_true, b_add, b_sub, b_mul, b_div, b_mod, b_pow, b_addL, b_addT, b_mulL, sl_v, sl_f, sl_dr, sl_scr, ar_v, ar_f, ar_dr, ar_scr, rv_v, rv_f, as_i, as_b, da_nil, da_cons, sa_nil, sa_cons, bi_len, bi_max2, bi_min2, bi_maxL, bi_minL, bi_sumL, bi_allL, bi_anyL, bi_sorted, bi_sortedR, bi_listL, bi_listT, bi_tupL, bi_tupT, bi_int1, bi_int1b, bi_abs1, bi_repr, ag_n, ag_nil, ag_cons, up_l, up_t, sq_l, sq_t, ln_l, ln_t, rg_1, rg_2, en_l, zp_l, zp_t, sb_l, sb_t, ra_eq, rd_mk, st_mk, wp_mk, bk_mk, ls_mk, nl_mk, bn_mk, bl_mk, no_mk, ss_mk, is_mk, sS_mk, pS_mk, aS_mk, sv_scr, sv_v, sv_f, sr_l, sr_t, rr_l, evE_lstx, evE_dsp, evE_idx, evE_dcomp, evS_ext, ex_l, evS_augI, evXs_nil, evXs_cons, evXs_star, eS_mk, gI_mk, ke_i, ke_s, sl_fd, b_shl, b_shr, b_and, bi_min3, sortR_ints, sortRR_ints, ai_nil, ai_cons, allInts_map, evE_imax, evE_slb, evE_sla, rr_t, slb_t, sla_l, im_mk, bi_sortedT, bi_lenSet, bi_sortSet, Int.reduceLE, Int.reduceLT, Int.reduceToNat, Int.reducePow, Nat.reduceLT, Nat.reduceLeDiff, Nat.reducePow, Int.reduceNeg, Int.reduceAbs, small_lit, at_0, at_1, at_2, decide_true, decide_false, gt_iff_lt, ge_iff_le, eq_self, Bool.not_eq_true])
  refine ⟨decide_eq_true (by unfold LIM; omega), ?_⟩
  refine W_compLoop (fun rest acc s => ∃ (r ds : List E3) (x y z : Slot), rest = r.map edD ∧ acc = (ds.map nrm).map edD ∧ ds ++ r = es ∧ s = ⟨[.v (.int n), .v (.list (es.map edD)), x, y, z], S⟩) ?_ ?_ ⟨es, [], _, _, _, rfl, rfl, rfl, rfl⟩
  · rintro x rest acc s ⟨r, ds, x1, x2, x3, e1, rfl, e3, rfl⟩
    cases r with
    | nil => cases e1
    | cons e r =>
      rw [List.map_cons] at e1
      cases e1
      unfold cStep edD
      (try simp only [W_cons, W_nil, kS_nx, kS_rt, kS_bk, oQ_nx, oQ_rt, W_some, W_bind, W_map, W_guard, W_guardB, evE_comp, evS_for, evS_while, evS_mkdr, evE_var, evE_con, evE_bin, evE_neg, evE_not_, evE_cmp, evE_chain, evE_and_, evE_or_, evE_ite, evE_tup, evE_lst, evE_sub, evE_subv, evE_slice, evE_rev, evE_lenv, evE_nilv, evE_inv, evE_call, evE_bi, evE_rngl, evE_isi, evE_pop0, evE_pop1, evS_set, evS_unp, evS_par, evS_stsub, evS_app, evS_drop, evS_if_, evS_ret, evS_retN, evS_brk, evS_pass, evS_undr, evEs, evPs, evO, evI, evT, startG, List.map_cons, List.map_nil, List.set_cons_zero, List.set_cons_succ, List.getElem?_cons_zero, List.getElem?_cons_succ, List.length_cons, List.length_nil, List.cons_append, List.nil_append, List.replicate_succ, List.replicate_zero, Nat.reduceAdd, Nat.reduceSub, cmpD_ii_eq, cmpD_ii_ne, cmpD_ii_lt, cmpD_ii_le, cmpD_ii_gt, cmpD_ii_ge, cmpD_bb_eq, cmpD_bb_ne, List.all_cons, List.all_nil, List.any_cons, List.any_nil, Bool.or_false, Bool.or_true, Bool.true_or, Bool.false_or, Bool.and_true, Bool.true_and, Bool.and_self, isTy, wipeG, backG, Option.bind_some, Option.map_some, Bool.not_true, Bool.not_false, ite_true, ite_false, if_true, if_false, true_and, and_true, Bool.false_eq_true, evI_seq, List.isEmpty_nil, List.isEmpty_cons, List.length_map, decide_eq_true_eq, Bool.and_eq_true, b_add, b_sub, b_mul, b_div, b_mod, b_pow, b_addL, b_addT, b_mulL, sl_v, sl_f, sl_dr, sl_scr, ar_v, ar_f, ar_dr, ar_scr, rv_v, rv_f, as_i, as_b, da_nil, da_cons, sa_nil, sa_cons, bi_len, bi_max2, bi_min2, bi_maxL, bi_minL, bi_sumL, bi_allL, bi_anyL, bi_sorted, bi_sortedR, bi_listL, bi_listT, bi_tupL, bi_tupT, bi_int1, bi_int1b, bi_abs1, bi_repr, ag_n, ag_nil, ag_cons, up_l, up_t, sq_l, sq_t, ln_l, ln_t, rg_1, rg_2, en_l, zp_l, zp_t, sb_l, sb_t, ra_eq, rd_mk, st_mk, wp_mk, bk_mk, ls_mk, nl_mk, bn_mk, bl_mk, no_mk, ss_mk, is_mk, sS_mk, pS_mk, aS_mk, sv_scr, sv_v, sv_f, sr_l, sr_t, rr_l, evE_lstx, evE_dsp, evE_idx, evE_dcomp, evS_ext, ex_l, evS_augI, evXs_nil, evXs_cons, evXs_star, eS_mk, gI_mk, ke_i, ke_s, sl_fd, b_shl, b_shr, b_and, bi_min3, sortR_ints, sortRR_ints, ai_nil, ai_cons, allInts_map, evE_imax, evE_slb, evE_sla, rr_t, slb_t, sla_l, im_mk, bi_sortedT, bi_lenSet, bi_sortSet, Int.reduceLE, Int.reduceLT, Int.reduceToNat, Int.reducePow, Nat.reduceLT, Nat.reduceLeDiff, Nat.reducePow, Int.reduceNeg, Int.reduceAbs, small_lit, at_0, at_1, at_2, decide_true, decide_false, gt_iff_lt, ge_iff_le, eq_self, Bool.not_eq_true])
      refine ⟨r, ds ++ [e], _, _, _, rfl, ?_, by rw [List.append_assoc]; exact e3, rfl⟩
      rw [List.map_append, List.map_append]
      rfl
  · rintro acc s ⟨r, ds, x1, x2, x3, e1, rfl, e3, rfl⟩
    cases r with
    | cons e r => cases e1
    | nil =>
      rw [List.append_nil] at e3
      subst e3
      rw [sortR_ed (by rw [List.length_map]; exact hl) (fun e he => ?_)]
      · (try simp only [W_cons, W_nil, kS_nx, kS_rt, kS_bk, oQ_nx, oQ_rt, W_some, W_bind, W_map, W_guard, W_guardB, evE_comp, evS_for, evS_while, evS_mkdr, evE_var, evE_con, evE_bin, evE_neg, evE_not_, evE_cmp, evE_chain, evE_and_, evE_or_, evE_ite, evE_tup, evE_lst, evE_sub, evE_subv, evE_slice, evE_rev, evE_lenv, evE_nilv, evE_inv, evE_call, evE_bi, evE_rngl, evE_isi, evE_pop0, evE_pop1, evS_set, evS_unp, evS_par, evS_stsub, evS_app, evS_drop, evS_if_, evS_ret, evS_retN, evS_brk, evS_pass, evS_undr, evEs, evPs, evO, evI, evT, startG, List.map_cons, List.map_nil, List.set_cons_zero, List.set_cons_succ, List.getElem?_cons_zero, List.getElem?_cons_succ, List.length_cons, List.length_nil, List.cons_append, List.nil_append, List.replicate_succ, List.replicate_zero, Nat.reduceAdd, Nat.reduceSub, cmpD_ii_eq, cmpD_ii_ne, cmpD_ii_lt, cmpD_ii_le, cmpD_ii_gt, cmpD_ii_ge, cmpD_bb_eq, cmpD_bb_ne, List.all_cons, List.all_nil, List.any_cons, List.any_nil, Bool.or_false, Bool.or_true, Bool.true_or, Bool.false_or, Bool.and_true, Bool.true_and, Bool.and_self, isTy, wipeG, backG, Option.bind_some, Option.map_some, Bool.not_true, Bool.not_false, ite_true, ite_false, if_true, if_false, true_and, and_true, Bool.false_eq_true, evI_seq, List.isEmpty_nil, List.isEmpty_cons, List.length_map, decide_eq_true_eq, Bool.and_eq_true, b_add, b_sub, b_mul, b_div, b_mod, b_pow, b_addL, b_addT, b_mulL, sl_v, sl_f, sl_dr, sl_scr, ar_v, ar_f, ar_dr, ar_scr, rv_v, rv_f, as_i, as_b, da_nil, da_cons, sa_nil, sa_cons, bi_len, bi_max2, bi_min2, bi_maxL, bi_minL, bi_sumL, bi_allL, bi_anyL, bi_sorted, bi_sortedR, bi_listL, bi_listT, bi_tupL, bi_tupT, bi_int1, bi_int1b, bi_abs1, bi_repr, ag_n, ag_nil, ag_cons, up_l, up_t, sq_l, sq_t, ln_l, ln_t, rg_1, rg_2, en_l, zp_l, zp_t, sb_l, sb_t, ra_eq, rd_mk, st_mk, wp_mk, bk_mk, ls_mk, nl_mk, bn_mk, bl_mk, no_mk, ss_mk, is_mk, sS_mk, pS_mk, aS_mk, sv_scr, sv_v, sv_f, sr_l, sr_t, rr_l, evE_lstx, evE_dsp, evE_idx, evE_dcomp, evS_ext, ex_l, evS_augI, evXs_nil, evXs_cons, evXs_star, eS_mk, gI_mk, ke_i, ke_s, sl_fd, b_shl, b_shr, b_and, bi_min3, sortR_ints, sortRR_ints, ai_nil, ai_cons, allInts_map, evE_imax, evE_slb, evE_sla, rr_t, slb_t, sla_l, im_mk, bi_sortedT, bi_lenSet, bi_sortSet, Int.reduceLE, Int.reduceLT, Int.reduceToNat, Int.reducePow, Nat.reduceLT, Nat.reduceLeDiff, Nat.reducePow, Int.reduceNeg, Int.reduceAbs, small_lit, at_0, at_1, at_2, decide_true, decide_false, gt_iff_lt, ge_iff_le, eq_self, Bool.not_eq_true])
        rfl
      · obtain ⟨x, hx, rfl⟩ := List.mem_map.mp he
        obtain ⟨⟨a1, a2⟩, ⟨a3, a4⟩, a5, a6⟩ := hb x hx
        refine ⟨?_, ?_, a5, a6⟩
        · unfold nrm
          simp only
          split <;> exact ⟨by omega, by omega⟩
        · unfold nrm
          simp only
          split <;> exact ⟨by omega, by omega⟩

inductive Gr : List Int → List E3 → Prop
  | one (v : Int) : Gr [v] []
  | leaf {vs : List Int} {es : List E3} {u w d : Int} : Gr vs es → u ∈ vs → w ∉ vs → 1 ≤ d → d ≤ 1000000000 → Gr (vs ++ [w]) (es ++ [nrm (w, u, d)])
def IsTr (n : Nat) (es : List E3) : Prop := ∃ vs es', Gr vs es' ∧ vs.Perm (rngI n) ∧ es = sortE es'
theorem perm_nodup {α : Type} {l m : List α} (p : l.Perm m) (h : m.Nodup) : l.Nodup := (p.nodup_iff).mpr h
end Tl

namespace Tl
open PySem

def bEqual (xEqual : Nat) : ISs := .cons (.if_ (.and_ (.isi (.var 0) [.tuple]) (.isi (.var 1) [.tuple])) (.cons (.ret (.and_ (.cmp .Eq (.lenv 0) (.lenv 1)) (.bi .allL (.cons (.comp (.call xEqual (.cons (.var 2) (.cons (.var 3) .nil))) (.cons (.n 2) (.cons (.n 3) .nil)) (.zip (.cons (.var 0) (.cons (.var 1) .nil))) .no [2, 3]) .nil)))) .nil) .nil) (.cons (.if_ (.or_ (.isi (.var 0) [.bool]) (.isi (.var 1) [.bool])) (.cons (.ret (.and_ (.isi (.var 0) [.bool]) (.and_ (.isi (.var 1) [.bool]) (.cmp .Eq (.var 0) (.var 1))))) .nil) .nil) (.cons (.if_ (.cmp .NotEq (.isi (.var 0) [.tuple]) (.isi (.var 1) [.tuple])) (.cons (.ret (.con (.bool false))) .nil) .nil) (.cons (.if_ (.cmp .NotEq (.isi (.var 0) [.int]) (.isi (.var 1) [.int])) (.cons (.ret (.con (.bool false))) .nil) .nil) (.cons (.ret (.and_ (.cmp .Eq (.isi (.var 0) [.str]) (.isi (.var 1) [.str])) (.cmp .Eq (.var 0) (.var 1)))) .nil))))
def bNbrs : ISs := .cons (.set 2 (.comp (.var 4) (.cons (.n 3) (.cons (.n 4) (.cons (.n 5) .nil))) (.seq (.subv 0 (.con (.int 1)))) (.so (.cmp .Eq (.var 3) (.var 1))) [3, 4, 5])) (.cons (.ret (.bi .tuple (.cons (.bi .sorted (.cons (.bin .Add (.var 2) (.comp (.var 3) (.cons (.n 3) (.cons (.n 4) (.cons (.n 5) .nil))) (.seq (.subv 0 (.con (.int 1)))) (.so (.cmp .Eq (.var 4) (.var 1))) [3, 4, 5])) .nil)) .nil))) .nil)
def bBetween : ISs := .cons (.for_ (.cons (.n 3) (.cons (.n 4) (.cons (.n 5) .nil))) (.seq (.subv 0 (.con (.int 1)))) (.cons (.if_ (.cmp .Eq (.tup (.cons (.var 3) (.cons (.var 4) .nil))) (.tup (.cons (.bi .min2 (.cons (.var 1) (.cons (.var 2) .nil))) (.cons (.bi .max2 (.cons (.var 1) (.cons (.var 2) .nil))) .nil)))) (.cons (.ret (.var 5)) .nil) .nil) .nil)) (.cons (.ret (.con .none)) .nil)
def bLeastT : ISs := .cons (.ret (.bi .maxL (.cons (.bin .Add (.lst (.cons (.con (.int 0)) .nil)) (.comp (.bin .Add (.var 2) (.var 1)) (.cons (.n 1) (.cons (.n 2) .nil)) (.enum (.cons (.bi .sortedR (.cons (.var 0) .nil)) .nil)) .no [1, 2])) .nil))) .nil
def bKeysAway (xNeighboursof xDelaybetween xBranchneed : Nat) : ISs := .cons (.set 3 (.lst .nil)) (.cons (.for_ (.n 4) (.seq (.call xNeighboursof (.cons (.var 0) (.cons (.var 1) .nil)))) (.cons (.if_ (.cmp .NotEq (.var 4) (.var 2)) (.cons (.app 3 (.tup (.cons (.bin .Add (.call xDelaybetween (.cons (.var 0) (.cons (.var 1) (.cons (.var 4) .nil)))) (.call xBranchneed (.cons (.var 0) (.cons (.var 4) (.cons (.var 1) .nil))))) (.cons (.var 4) .nil)))) .nil) .nil) .nil)) (.cons (.ret (.var 3)) .nil))
def bBranchNeed (xLeasttime xKeysaway : Nat) : ISs := .cons (.ret (.call xLeasttime (.cons (.comp (.var 3) (.cons (.n 3) (.cons (.n 4) .nil)) (.seq (.call xKeysaway (.cons (.var 0) (.cons (.var 1) (.cons (.var 2) .nil))))) .no [3, 4]) .nil))) .nil
def bNeedFrom (xBranchneed : Nat) : ISs := .cons (.ret (.call xBranchneed (.cons (.var 0) (.cons (.var 1) (.cons (.con .none) .nil))))) .nil
variable {tf : List Fn} {fu k i : Nat}
inductive Sm : Nat → D → Prop
  | non (n : Nat) : Sm (n + 1) .none
  | bl (n : Nat) (b : Bool) : Sm (n + 1) (.bool b)
  | int (n : Nat) (j : Int) : Sm (n + 1) (.int j)
  | str (n : Nat) (x : Str) : Sm (n + 1) (.str x)
  | tup {n : Nat} {xs : List D} : (∀ x ∈ xs, Sm n x) → xs.length ≤ LIM → Sm (n + 1) (.tuple xs)
theorem zipD_self : ∀ xs : List D, zipD xs xs = xs.map fun x => .tuple [x, x]
  | [] => rfl
  | x :: r => by rw [zipD, zipD_self r]; rfl
theorem allBools_true : ∀ (xs : List D), (∀ x ∈ xs, x = .bool true) → ∃ bs, allBools xs = some bs ∧ bs.all id = true
  | [], _ => ⟨[], rfl, rfl⟩
  | x :: r, h => by
    obtain ⟨bs, e, z⟩ := allBools_true r fun y hy => h y (List.mem_cons_of_mem _ hy)
    rw [h x (List.mem_cons_self ..)]
    exact ⟨true :: bs, by rw [allBools, e]; rfl, by simpa using z⟩
theorem W_compF {α : Type} {step : D → List D → Sta → Option (List D × Sta)} {f : α → D} {G : α → List D} (I : Sta → Prop) : ∀ {l : List α} {acc : List D} {s : Sta}, (∀ x ∈ l, ∀ acc s, I s → W (step (f x) acc s) fun p => p.1 = acc ++ G x ∧ I p.2) → I s → W (compLoop step (l.map f) acc s) fun p => p.1 = acc ++ l.flatMap G ∧ I p.2
  | [], acc, s, _, hs => W_some.mpr ⟨by simp, hs⟩
  | x :: r, acc, s, h, hs => by
    rw [List.map_cons, compLoop, W_bind]
    refine (h x (List.mem_cons_self ..) acc s hs).mono ?_
    rintro ⟨a, s1⟩ ⟨rfl, h1⟩
    refine (W_compF I (fun y hy => h y (List.mem_cons_of_mem _ hy)) h1).mono ?_
    rintro p ⟨h2, h3⟩
    exact ⟨by rw [h2, List.flatMap_cons, List.append_assoc], h3⟩
theorem equal_W {S : Option DS} (hf : tf[i]? = some ⟨2, 4, bEqual i⟩) : ∀ {k : Nat} {x : D}, Sm k x → W (callF tf fu k i [.v x, .v x] S) fun p => p = (.v (.bool true), S)
  | k + 1, x, h => by
    refine W_call hf rfl ?_
    unfold bEqual
    cases h with
    | non => (try simp only [W_cons, W_nil, kS_nx, kS_rt, kS_bk, oQ_nx, oQ_rt, W_some, W_bind, W_map, W_guard, W_guardB, evE_comp, evS_for, evS_while, evS_mkdr, evE_var, evE_con, evE_bin, evE_neg, evE_not_, evE_cmp, evE_chain, evE_and_, evE_or_, evE_ite, evE_tup, evE_lst, evE_sub, evE_subv, evE_slice, evE_rev, evE_lenv, evE_nilv, evE_inv, evE_call, evE_bi, evE_rngl, evE_isi, evE_pop0, evE_pop1, evS_set, evS_unp, evS_par, evS_stsub, evS_app, evS_drop, evS_if_, evS_ret, evS_retN, evS_brk, evS_pass, evS_undr, evEs, evPs, evO, evI, evT, startG, List.map_cons, List.map_nil, List.set_cons_zero, List.set_cons_succ, List.getElem?_cons_zero, List.getElem?_cons_succ, List.length_cons, List.length_nil, List.cons_append, List.nil_append, List.replicate_succ, List.replicate_zero, Nat.reduceAdd, Nat.reduceSub, cmpD_ii_eq, cmpD_ii_ne, cmpD_ii_lt, cmpD_ii_le, cmpD_ii_gt, cmpD_ii_ge, cmpD_bb_eq, cmpD_bb_ne, List.all_cons, List.all_nil, List.any_cons, List.any_nil, Bool.or_false, Bool.or_true, Bool.true_or, Bool.false_or, Bool.and_true, Bool.true_and, Bool.and_self, isTy, wipeG, backG, Option.bind_some, Option.map_some, Bool.not_true, Bool.not_false, ite_true, ite_false, if_true, if_false, true_and, and_true, Bool.false_eq_true, evI_seq, List.isEmpty_nil, List.isEmpty_cons, List.length_map, decide_eq_true_eq, Bool.and_eq_true, b_add, b_sub, b_mul, b_div, b_mod, b_pow, b_addL, b_addT, b_mulL, sl_v, sl_f, sl_dr, sl_scr, ar_v, ar_f, ar_dr, ar_scr, rv_v, rv_f, as_i, as_b, da_nil, da_cons, sa_nil, sa_cons, bi_len, bi_max2, bi_min2, bi_maxL, bi_minL, bi_sumL, bi_allL, bi_anyL, bi_sorted, bi_sortedR, bi_listL, bi_listT, bi_tupL, bi_tupT, bi_int1, bi_int1b, bi_abs1, bi_repr, ag_n, ag_nil, ag_cons, up_l, up_t, sq_l, sq_t, ln_l, ln_t, rg_1, rg_2, en_l, zp_l, zp_t, sb_l, sb_t, ra_eq, rd_mk, st_mk, wp_mk, bk_mk, ls_mk, nl_mk, bn_mk, bl_mk, no_mk, ss_mk, is_mk, sS_mk, pS_mk, aS_mk, sv_scr, sv_v, sv_f, sr_l, sr_t, rr_l, evE_lstx, evE_dsp, evE_idx, evE_dcomp, evS_ext, ex_l, evS_augI, evXs_nil, evXs_cons, evXs_star, eS_mk, gI_mk, ke_i, ke_s, sl_fd, b_shl, b_shr, b_and, bi_min3, sortR_ints, sortRR_ints, ai_nil, ai_cons, allInts_map, evE_imax, evE_slb, evE_sla, rr_t, slb_t, sla_l, im_mk, bi_sortedT, bi_lenSet, bi_sortSet, Int.reduceLE, Int.reduceLT, Int.reduceToNat, Int.reducePow, Nat.reduceLT, Nat.reduceLeDiff, Nat.reducePow, Int.reduceNeg, Int.reduceAbs, small_lit, at_0, at_1, at_2, decide_true, decide_false, gt_iff_lt, ge_iff_le, eq_self, Bool.not_eq_true]); exact ⟨true, rfl, rfl⟩
    | bl _ b => (try simp only [W_cons, W_nil, kS_nx, kS_rt, kS_bk, oQ_nx, oQ_rt, W_some, W_bind, W_map, W_guard, W_guardB, evE_comp, evS_for, evS_while, evS_mkdr, evE_var, evE_con, evE_bin, evE_neg, evE_not_, evE_cmp, evE_chain, evE_and_, evE_or_, evE_ite, evE_tup, evE_lst, evE_sub, evE_subv, evE_slice, evE_rev, evE_lenv, evE_nilv, evE_inv, evE_call, evE_bi, evE_rngl, evE_isi, evE_pop0, evE_pop1, evS_set, evS_unp, evS_par, evS_stsub, evS_app, evS_drop, evS_if_, evS_ret, evS_retN, evS_brk, evS_pass, evS_undr, evEs, evPs, evO, evI, evT, startG, List.map_cons, List.map_nil, List.set_cons_zero, List.set_cons_succ, List.getElem?_cons_zero, List.getElem?_cons_succ, List.length_cons, List.length_nil, List.cons_append, List.nil_append, List.replicate_succ, List.replicate_zero, Nat.reduceAdd, Nat.reduceSub, cmpD_ii_eq, cmpD_ii_ne, cmpD_ii_lt, cmpD_ii_le, cmpD_ii_gt, cmpD_ii_ge, cmpD_bb_eq, cmpD_bb_ne, List.all_cons, List.all_nil, List.any_cons, List.any_nil, Bool.or_false, Bool.or_true, Bool.true_or, Bool.false_or, Bool.and_true, Bool.true_and, Bool.and_self, isTy, wipeG, backG, Option.bind_some, Option.map_some, Bool.not_true, Bool.not_false, ite_true, ite_false, if_true, if_false, true_and, and_true, Bool.false_eq_true, evI_seq, List.isEmpty_nil, List.isEmpty_cons, List.length_map, decide_eq_true_eq, Bool.and_eq_true, b_add, b_sub, b_mul, b_div, b_mod, b_pow, b_addL, b_addT, b_mulL, sl_v, sl_f, sl_dr, sl_scr, ar_v, ar_f, ar_dr, ar_scr, rv_v, rv_f, as_i, as_b, da_nil, da_cons, sa_nil, sa_cons, bi_len, bi_max2, bi_min2, bi_maxL, bi_minL, bi_sumL, bi_allL, bi_anyL, bi_sorted, bi_sortedR, bi_listL, bi_listT, bi_tupL, bi_tupT, bi_int1, bi_int1b, bi_abs1, bi_repr, ag_n, ag_nil, ag_cons, up_l, up_t, sq_l, sq_t, ln_l, ln_t, rg_1, rg_2, en_l, zp_l, zp_t, sb_l, sb_t, ra_eq, rd_mk, st_mk, wp_mk, bk_mk, ls_mk, nl_mk, bn_mk, bl_mk, no_mk, ss_mk, is_mk, sS_mk, pS_mk, aS_mk, sv_scr, sv_v, sv_f, sr_l, sr_t, rr_l, evE_lstx, evE_dsp, evE_idx, evE_dcomp, evS_ext, ex_l, evS_augI, evXs_nil, evXs_cons, evXs_star, eS_mk, gI_mk, ke_i, ke_s, sl_fd, b_shl, b_shr, b_and, bi_min3, sortR_ints, sortRR_ints, ai_nil, ai_cons, allInts_map, evE_imax, evE_slb, evE_sla, rr_t, slb_t, sla_l, im_mk, bi_sortedT, bi_lenSet, bi_sortSet, Int.reduceLE, Int.reduceLT, Int.reduceToNat, Int.reducePow, Nat.reduceLT, Nat.reduceLeDiff, Nat.reducePow, Int.reduceNeg, Int.reduceAbs, small_lit, at_0, at_1, at_2, decide_true, decide_false, gt_iff_lt, ge_iff_le, eq_self, Bool.not_eq_true])
    | int _ j => (try simp only [W_cons, W_nil, kS_nx, kS_rt, kS_bk, oQ_nx, oQ_rt, W_some, W_bind, W_map, W_guard, W_guardB, evE_comp, evS_for, evS_while, evS_mkdr, evE_var, evE_con, evE_bin, evE_neg, evE_not_, evE_cmp, evE_chain, evE_and_, evE_or_, evE_ite, evE_tup, evE_lst, evE_sub, evE_subv, evE_slice, evE_rev, evE_lenv, evE_nilv, evE_inv, evE_call, evE_bi, evE_rngl, evE_isi, evE_pop0, evE_pop1, evS_set, evS_unp, evS_par, evS_stsub, evS_app, evS_drop, evS_if_, evS_ret, evS_retN, evS_brk, evS_pass, evS_undr, evEs, evPs, evO, evI, evT, startG, List.map_cons, List.map_nil, List.set_cons_zero, List.set_cons_succ, List.getElem?_cons_zero, List.getElem?_cons_succ, List.length_cons, List.length_nil, List.cons_append, List.nil_append, List.replicate_succ, List.replicate_zero, Nat.reduceAdd, Nat.reduceSub, cmpD_ii_eq, cmpD_ii_ne, cmpD_ii_lt, cmpD_ii_le, cmpD_ii_gt, cmpD_ii_ge, cmpD_bb_eq, cmpD_bb_ne, List.all_cons, List.all_nil, List.any_cons, List.any_nil, Bool.or_false, Bool.or_true, Bool.true_or, Bool.false_or, Bool.and_true, Bool.true_and, Bool.and_self, isTy, wipeG, backG, Option.bind_some, Option.map_some, Bool.not_true, Bool.not_false, ite_true, ite_false, if_true, if_false, true_and, and_true, Bool.false_eq_true, evI_seq, List.isEmpty_nil, List.isEmpty_cons, List.length_map, decide_eq_true_eq, Bool.and_eq_true, b_add, b_sub, b_mul, b_div, b_mod, b_pow, b_addL, b_addT, b_mulL, sl_v, sl_f, sl_dr, sl_scr, ar_v, ar_f, ar_dr, ar_scr, rv_v, rv_f, as_i, as_b, da_nil, da_cons, sa_nil, sa_cons, bi_len, bi_max2, bi_min2, bi_maxL, bi_minL, bi_sumL, bi_allL, bi_anyL, bi_sorted, bi_sortedR, bi_listL, bi_listT, bi_tupL, bi_tupT, bi_int1, bi_int1b, bi_abs1, bi_repr, ag_n, ag_nil, ag_cons, up_l, up_t, sq_l, sq_t, ln_l, ln_t, rg_1, rg_2, en_l, zp_l, zp_t, sb_l, sb_t, ra_eq, rd_mk, st_mk, wp_mk, bk_mk, ls_mk, nl_mk, bn_mk, bl_mk, no_mk, ss_mk, is_mk, sS_mk, pS_mk, aS_mk, sv_scr, sv_v, sv_f, sr_l, sr_t, rr_l, evE_lstx, evE_dsp, evE_idx, evE_dcomp, evS_ext, ex_l, evS_augI, evXs_nil, evXs_cons, evXs_star, eS_mk, gI_mk, ke_i, ke_s, sl_fd, b_shl, b_shr, b_and, bi_min3, sortR_ints, sortRR_ints, ai_nil, ai_cons, allInts_map, evE_imax, evE_slb, evE_sla, rr_t, slb_t, sla_l, im_mk, bi_sortedT, bi_lenSet, bi_sortSet, Int.reduceLE, Int.reduceLT, Int.reduceToNat, Int.reducePow, Nat.reduceLT, Nat.reduceLeDiff, Nat.reducePow, Int.reduceNeg, Int.reduceAbs, small_lit, at_0, at_1, at_2, decide_true, decide_false, gt_iff_lt, ge_iff_le, eq_self, Bool.not_eq_true])
    | str _ y => (try simp only [W_cons, W_nil, kS_nx, kS_rt, kS_bk, oQ_nx, oQ_rt, W_some, W_bind, W_map, W_guard, W_guardB, evE_comp, evS_for, evS_while, evS_mkdr, evE_var, evE_con, evE_bin, evE_neg, evE_not_, evE_cmp, evE_chain, evE_and_, evE_or_, evE_ite, evE_tup, evE_lst, evE_sub, evE_subv, evE_slice, evE_rev, evE_lenv, evE_nilv, evE_inv, evE_call, evE_bi, evE_rngl, evE_isi, evE_pop0, evE_pop1, evS_set, evS_unp, evS_par, evS_stsub, evS_app, evS_drop, evS_if_, evS_ret, evS_retN, evS_brk, evS_pass, evS_undr, evEs, evPs, evO, evI, evT, startG, List.map_cons, List.map_nil, List.set_cons_zero, List.set_cons_succ, List.getElem?_cons_zero, List.getElem?_cons_succ, List.length_cons, List.length_nil, List.cons_append, List.nil_append, List.replicate_succ, List.replicate_zero, Nat.reduceAdd, Nat.reduceSub, cmpD_ii_eq, cmpD_ii_ne, cmpD_ii_lt, cmpD_ii_le, cmpD_ii_gt, cmpD_ii_ge, cmpD_bb_eq, cmpD_bb_ne, List.all_cons, List.all_nil, List.any_cons, List.any_nil, Bool.or_false, Bool.or_true, Bool.true_or, Bool.false_or, Bool.and_true, Bool.true_and, Bool.and_self, isTy, wipeG, backG, Option.bind_some, Option.map_some, Bool.not_true, Bool.not_false, ite_true, ite_false, if_true, if_false, true_and, and_true, Bool.false_eq_true, evI_seq, List.isEmpty_nil, List.isEmpty_cons, List.length_map, decide_eq_true_eq, Bool.and_eq_true, b_add, b_sub, b_mul, b_div, b_mod, b_pow, b_addL, b_addT, b_mulL, sl_v, sl_f, sl_dr, sl_scr, ar_v, ar_f, ar_dr, ar_scr, rv_v, rv_f, as_i, as_b, da_nil, da_cons, sa_nil, sa_cons, bi_len, bi_max2, bi_min2, bi_maxL, bi_minL, bi_sumL, bi_allL, bi_anyL, bi_sorted, bi_sortedR, bi_listL, bi_listT, bi_tupL, bi_tupT, bi_int1, bi_int1b, bi_abs1, bi_repr, ag_n, ag_nil, ag_cons, up_l, up_t, sq_l, sq_t, ln_l, ln_t, rg_1, rg_2, en_l, zp_l, zp_t, sb_l, sb_t, ra_eq, rd_mk, st_mk, wp_mk, bk_mk, ls_mk, nl_mk, bn_mk, bl_mk, no_mk, ss_mk, is_mk, sS_mk, pS_mk, aS_mk, sv_scr, sv_v, sv_f, sr_l, sr_t, rr_l, evE_lstx, evE_dsp, evE_idx, evE_dcomp, evS_ext, ex_l, evS_augI, evXs_nil, evXs_cons, evXs_star, eS_mk, gI_mk, ke_i, ke_s, sl_fd, b_shl, b_shr, b_and, bi_min3, sortR_ints, sortRR_ints, ai_nil, ai_cons, allInts_map, evE_imax, evE_slb, evE_sla, rr_t, slb_t, sla_l, im_mk, bi_sortedT, bi_lenSet, bi_sortSet, Int.reduceLE, Int.reduceLT, Int.reduceToNat, Int.reducePow, Nat.reduceLT, Nat.reduceLeDiff, Nat.reducePow, Int.reduceNeg, Int.reduceAbs, small_lit, at_0, at_1, at_2, decide_true, decide_false, gt_iff_lt, ge_iff_le, eq_self, Bool.not_eq_true]); exact ⟨decide (y = y), rfl, by simp⟩
    | tup h hl =>
      (try simp only [W_cons, W_nil, kS_nx, kS_rt, kS_bk, oQ_nx, oQ_rt, W_some, W_bind, W_map, W_guard, W_guardB, evE_comp, evS_for, evS_while, evS_mkdr, evE_var, evE_con, evE_bin, evE_neg, evE_not_, evE_cmp, evE_chain, evE_and_, evE_or_, evE_ite, evE_tup, evE_lst, evE_sub, evE_subv, evE_slice, evE_rev, evE_lenv, evE_nilv, evE_inv, evE_call, evE_bi, evE_rngl, evE_isi, evE_pop0, evE_pop1, evS_set, evS_unp, evS_par, evS_stsub, evS_app, evS_drop, evS_if_, evS_ret, evS_retN, evS_brk, evS_pass, evS_undr, evEs, evPs, evO, evI, evT, startG, List.map_cons, List.map_nil, List.set_cons_zero, List.set_cons_succ, List.getElem?_cons_zero, List.getElem?_cons_succ, List.length_cons, List.length_nil, List.cons_append, List.nil_append, List.replicate_succ, List.replicate_zero, Nat.reduceAdd, Nat.reduceSub, cmpD_ii_eq, cmpD_ii_ne, cmpD_ii_lt, cmpD_ii_le, cmpD_ii_gt, cmpD_ii_ge, cmpD_bb_eq, cmpD_bb_ne, List.all_cons, List.all_nil, List.any_cons, List.any_nil, Bool.or_false, Bool.or_true, Bool.true_or, Bool.false_or, Bool.and_true, Bool.true_and, Bool.and_self, isTy, wipeG, backG, Option.bind_some, Option.map_some, Bool.not_true, Bool.not_false, ite_true, ite_false, if_true, if_false, true_and, and_true, Bool.false_eq_true, evI_seq, List.isEmpty_nil, List.isEmpty_cons, List.length_map, decide_eq_true_eq, Bool.and_eq_true, b_add, b_sub, b_mul, b_div, b_mod, b_pow, b_addL, b_addT, b_mulL, sl_v, sl_f, sl_dr, sl_scr, ar_v, ar_f, ar_dr, ar_scr, rv_v, rv_f, as_i, as_b, da_nil, da_cons, sa_nil, sa_cons, bi_len, bi_max2, bi_min2, bi_maxL, bi_minL, bi_sumL, bi_allL, bi_anyL, bi_sorted, bi_sortedR, bi_listL, bi_listT, bi_tupL, bi_tupT, bi_int1, bi_int1b, bi_abs1, bi_repr, ag_n, ag_nil, ag_cons, up_l, up_t, sq_l, sq_t, ln_l, ln_t, rg_1, rg_2, en_l, zp_l, zp_t, sb_l, sb_t, ra_eq, rd_mk, st_mk, wp_mk, bk_mk, ls_mk, nl_mk, bn_mk, bl_mk, no_mk, ss_mk, is_mk, sS_mk, pS_mk, aS_mk, sv_scr, sv_v, sv_f, sr_l, sr_t, rr_l, evE_lstx, evE_dsp, evE_idx, evE_dcomp, evS_ext, ex_l, evS_augI, evXs_nil, evXs_cons, evXs_star, eS_mk, gI_mk, ke_i, ke_s, sl_fd, b_shl, b_shr, b_and, bi_min3, sortR_ints, sortRR_ints, ai_nil, ai_cons, allInts_map, evE_imax, evE_slb, evE_sla, rr_t, slb_t, sla_l, im_mk, bi_sortedT, bi_lenSet, bi_sortSet, Int.reduceLE, Int.reduceLT, Int.reduceToNat, Int.reducePow, Nat.reduceLT, Nat.reduceLeDiff, Nat.reducePow, Int.reduceNeg, Int.reduceAbs, small_lit, at_0, at_1, at_2, decide_true, decide_false, gt_iff_lt, ge_iff_le, eq_self, Bool.not_eq_true])
      rw [zipD_self]
      refine ⟨decide_eq_true (by rw [List.length_map]; exact hl), ?_⟩
      rename_i xs
      refine W.mono (W_compF (G := fun _ => [PyData.bool true]) (fun s => ∃ y z : Slot, s = ⟨[.v (.tuple xs), .v (.tuple xs), y, z], S⟩) ?_ ⟨_, _, rfl⟩) ?_
      · rintro x hx acc s ⟨y, z, rfl⟩
        unfold cStep
        (try simp only [W_cons, W_nil, kS_nx, kS_rt, kS_bk, oQ_nx, oQ_rt, W_some, W_bind, W_map, W_guard, W_guardB, evE_comp, evS_for, evS_while, evS_mkdr, evE_var, evE_con, evE_bin, evE_neg, evE_not_, evE_cmp, evE_chain, evE_and_, evE_or_, evE_ite, evE_tup, evE_lst, evE_sub, evE_subv, evE_slice, evE_rev, evE_lenv, evE_nilv, evE_inv, evE_call, evE_bi, evE_rngl, evE_isi, evE_pop0, evE_pop1, evS_set, evS_unp, evS_par, evS_stsub, evS_app, evS_drop, evS_if_, evS_ret, evS_retN, evS_brk, evS_pass, evS_undr, evEs, evPs, evO, evI, evT, startG, List.map_cons, List.map_nil, List.set_cons_zero, List.set_cons_succ, List.getElem?_cons_zero, List.getElem?_cons_succ, List.length_cons, List.length_nil, List.cons_append, List.nil_append, List.replicate_succ, List.replicate_zero, Nat.reduceAdd, Nat.reduceSub, cmpD_ii_eq, cmpD_ii_ne, cmpD_ii_lt, cmpD_ii_le, cmpD_ii_gt, cmpD_ii_ge, cmpD_bb_eq, cmpD_bb_ne, List.all_cons, List.all_nil, List.any_cons, List.any_nil, Bool.or_false, Bool.or_true, Bool.true_or, Bool.false_or, Bool.and_true, Bool.true_and, Bool.and_self, isTy, wipeG, backG, Option.bind_some, Option.map_some, Bool.not_true, Bool.not_false, ite_true, ite_false, if_true, if_false, true_and, and_true, Bool.false_eq_true, evI_seq, List.isEmpty_nil, List.isEmpty_cons, List.length_map, decide_eq_true_eq, Bool.and_eq_true, b_add, b_sub, b_mul, b_div, b_mod, b_pow, b_addL, b_addT, b_mulL, sl_v, sl_f, sl_dr, sl_scr, ar_v, ar_f, ar_dr, ar_scr, rv_v, rv_f, as_i, as_b, da_nil, da_cons, sa_nil, sa_cons, bi_len, bi_max2, bi_min2, bi_maxL, bi_minL, bi_sumL, bi_allL, bi_anyL, bi_sorted, bi_sortedR, bi_listL, bi_listT, bi_tupL, bi_tupT, bi_int1, bi_int1b, bi_abs1, bi_repr, ag_n, ag_nil, ag_cons, up_l, up_t, sq_l, sq_t, ln_l, ln_t, rg_1, rg_2, en_l, zp_l, zp_t, sb_l, sb_t, ra_eq, rd_mk, st_mk, wp_mk, bk_mk, ls_mk, nl_mk, bn_mk, bl_mk, no_mk, ss_mk, is_mk, sS_mk, pS_mk, aS_mk, sv_scr, sv_v, sv_f, sr_l, sr_t, rr_l, evE_lstx, evE_dsp, evE_idx, evE_dcomp, evS_ext, ex_l, evS_augI, evXs_nil, evXs_cons, evXs_star, eS_mk, gI_mk, ke_i, ke_s, sl_fd, b_shl, b_shr, b_and, bi_min3, sortR_ints, sortRR_ints, ai_nil, ai_cons, allInts_map, evE_imax, evE_slb, evE_sla, rr_t, slb_t, sla_l, im_mk, bi_sortedT, bi_lenSet, bi_sortSet, Int.reduceLE, Int.reduceLT, Int.reduceToNat, Int.reducePow, Nat.reduceLT, Nat.reduceLeDiff, Nat.reducePow, Int.reduceNeg, Int.reduceAbs, small_lit, at_0, at_1, at_2, decide_true, decide_false, gt_iff_lt, ge_iff_le, eq_self, Bool.not_eq_true])
        refine (equal_W hf (h x hx)).mono ?_
        rintro _ rfl
        (try simp only [W_cons, W_nil, kS_nx, kS_rt, kS_bk, oQ_nx, oQ_rt, W_some, W_bind, W_map, W_guard, W_guardB, evE_comp, evS_for, evS_while, evS_mkdr, evE_var, evE_con, evE_bin, evE_neg, evE_not_, evE_cmp, evE_chain, evE_and_, evE_or_, evE_ite, evE_tup, evE_lst, evE_sub, evE_subv, evE_slice, evE_rev, evE_lenv, evE_nilv, evE_inv, evE_call, evE_bi, evE_rngl, evE_isi, evE_pop0, evE_pop1, evS_set, evS_unp, evS_par, evS_stsub, evS_app, evS_drop, evS_if_, evS_ret, evS_retN, evS_brk, evS_pass, evS_undr, evEs, evPs, evO, evI, evT, startG, List.map_cons, List.map_nil, List.set_cons_zero, List.set_cons_succ, List.getElem?_cons_zero, List.getElem?_cons_succ, List.length_cons, List.length_nil, List.cons_append, List.nil_append, List.replicate_succ, List.replicate_zero, Nat.reduceAdd, Nat.reduceSub, cmpD_ii_eq, cmpD_ii_ne, cmpD_ii_lt, cmpD_ii_le, cmpD_ii_gt, cmpD_ii_ge, cmpD_bb_eq, cmpD_bb_ne, List.all_cons, List.all_nil, List.any_cons, List.any_nil, Bool.or_false, Bool.or_true, Bool.true_or, Bool.false_or, Bool.and_true, Bool.true_and, Bool.and_self, isTy, wipeG, backG, Option.bind_some, Option.map_some, Bool.not_true, Bool.not_false, ite_true, ite_false, if_true, if_false, true_and, and_true, Bool.false_eq_true, evI_seq, List.isEmpty_nil, List.isEmpty_cons, List.length_map, decide_eq_true_eq, Bool.and_eq_true, b_add, b_sub, b_mul, b_div, b_mod, b_pow, b_addL, b_addT, b_mulL, sl_v, sl_f, sl_dr, sl_scr, ar_v, ar_f, ar_dr, ar_scr, rv_v, rv_f, as_i, as_b, da_nil, da_cons, sa_nil, sa_cons, bi_len, bi_max2, bi_min2, bi_maxL, bi_minL, bi_sumL, bi_allL, bi_anyL, bi_sorted, bi_sortedR, bi_listL, bi_listT, bi_tupL, bi_tupT, bi_int1, bi_int1b, bi_abs1, bi_repr, ag_n, ag_nil, ag_cons, up_l, up_t, sq_l, sq_t, ln_l, ln_t, rg_1, rg_2, en_l, zp_l, zp_t, sb_l, sb_t, ra_eq, rd_mk, st_mk, wp_mk, bk_mk, ls_mk, nl_mk, bn_mk, bl_mk, no_mk, ss_mk, is_mk, sS_mk, pS_mk, aS_mk, sv_scr, sv_v, sv_f, sr_l, sr_t, rr_l, evE_lstx, evE_dsp, evE_idx, evE_dcomp, evS_ext, ex_l, evS_augI, evXs_nil, evXs_cons, evXs_star, eS_mk, gI_mk, ke_i, ke_s, sl_fd, b_shl, b_shr, b_and, bi_min3, sortR_ints, sortRR_ints, ai_nil, ai_cons, allInts_map, evE_imax, evE_slb, evE_sla, rr_t, slb_t, sla_l, im_mk, bi_sortedT, bi_lenSet, bi_sortSet, Int.reduceLE, Int.reduceLT, Int.reduceToNat, Int.reducePow, Nat.reduceLT, Nat.reduceLeDiff, Nat.reducePow, Int.reduceNeg, Int.reduceAbs, small_lit, at_0, at_1, at_2, decide_true, decide_false, gt_iff_lt, ge_iff_le, eq_self, Bool.not_eq_true])
        exact ⟨_, _, rfl⟩
      · rintro ⟨l, s⟩ ⟨h1, y, z, rfl⟩
        have h1 : l = _ := h1
        subst h1
        (try simp only [W_cons, W_nil, kS_nx, kS_rt, kS_bk, oQ_nx, oQ_rt, W_some, W_bind, W_map, W_guard, W_guardB, evE_comp, evS_for, evS_while, evS_mkdr, evE_var, evE_con, evE_bin, evE_neg, evE_not_, evE_cmp, evE_chain, evE_and_, evE_or_, evE_ite, evE_tup, evE_lst, evE_sub, evE_subv, evE_slice, evE_rev, evE_lenv, evE_nilv, evE_inv, evE_call, evE_bi, evE_rngl, evE_isi, evE_pop0, evE_pop1, evS_set, evS_unp, evS_par, evS_stsub, evS_app, evS_drop, evS_if_, evS_ret, evS_retN, evS_brk, evS_pass, evS_undr, evEs, evPs, evO, evI, evT, startG, List.map_cons, List.map_nil, List.set_cons_zero, List.set_cons_succ, List.getElem?_cons_zero, List.getElem?_cons_succ, List.length_cons, List.length_nil, List.cons_append, List.nil_append, List.replicate_succ, List.replicate_zero, Nat.reduceAdd, Nat.reduceSub, cmpD_ii_eq, cmpD_ii_ne, cmpD_ii_lt, cmpD_ii_le, cmpD_ii_gt, cmpD_ii_ge, cmpD_bb_eq, cmpD_bb_ne, List.all_cons, List.all_nil, List.any_cons, List.any_nil, Bool.or_false, Bool.or_true, Bool.true_or, Bool.false_or, Bool.and_true, Bool.true_and, Bool.and_self, isTy, wipeG, backG, Option.bind_some, Option.map_some, Bool.not_true, Bool.not_false, ite_true, ite_false, if_true, if_false, true_and, and_true, Bool.false_eq_true, evI_seq, List.isEmpty_nil, List.isEmpty_cons, List.length_map, decide_eq_true_eq, Bool.and_eq_true, b_add, b_sub, b_mul, b_div, b_mod, b_pow, b_addL, b_addT, b_mulL, sl_v, sl_f, sl_dr, sl_scr, ar_v, ar_f, ar_dr, ar_scr, rv_v, rv_f, as_i, as_b, da_nil, da_cons, sa_nil, sa_cons, bi_len, bi_max2, bi_min2, bi_maxL, bi_minL, bi_sumL, bi_allL, bi_anyL, bi_sorted, bi_sortedR, bi_listL, bi_listT, bi_tupL, bi_tupT, bi_int1, bi_int1b, bi_abs1, bi_repr, ag_n, ag_nil, ag_cons, up_l, up_t, sq_l, sq_t, ln_l, ln_t, rg_1, rg_2, en_l, zp_l, zp_t, sb_l, sb_t, ra_eq, rd_mk, st_mk, wp_mk, bk_mk, ls_mk, nl_mk, bn_mk, bl_mk, no_mk, ss_mk, is_mk, sS_mk, pS_mk, aS_mk, sv_scr, sv_v, sv_f, sr_l, sr_t, rr_l, evE_lstx, evE_dsp, evE_idx, evE_dcomp, evS_ext, ex_l, evS_augI, evXs_nil, evXs_cons, evXs_star, eS_mk, gI_mk, ke_i, ke_s, sl_fd, b_shl, b_shr, b_and, bi_min3, sortR_ints, sortRR_ints, ai_nil, ai_cons, allInts_map, evE_imax, evE_slb, evE_sla, rr_t, slb_t, sla_l, im_mk, bi_sortedT, bi_lenSet, bi_sortSet, Int.reduceLE, Int.reduceLT, Int.reduceToNat, Int.reducePow, Nat.reduceLT, Nat.reduceLeDiff, Nat.reducePow, Int.reduceNeg, Int.reduceAbs, small_lit, at_0, at_1, at_2, decide_true, decide_false, gt_iff_lt, ge_iff_le, eq_self, Bool.not_eq_true])
        obtain ⟨bs, e1, e2⟩ := allBools_true ([] ++ xs.flatMap fun _ => [PyData.bool true]) (by
          intro x hx
          rw [List.nil_append] at hx
          obtain ⟨_, _, h⟩ := List.mem_flatMap.mp hx
          exact List.mem_singleton.mp h)
        rw [List.nil_append] at e1
        (try simp only [W_cons, W_nil, kS_nx, kS_rt, kS_bk, oQ_nx, oQ_rt, W_some, W_bind, W_map, W_guard, W_guardB, evE_comp, evS_for, evS_while, evS_mkdr, evE_var, evE_con, evE_bin, evE_neg, evE_not_, evE_cmp, evE_chain, evE_and_, evE_or_, evE_ite, evE_tup, evE_lst, evE_sub, evE_subv, evE_slice, evE_rev, evE_lenv, evE_nilv, evE_inv, evE_call, evE_bi, evE_rngl, evE_isi, evE_pop0, evE_pop1, evS_set, evS_unp, evS_par, evS_stsub, evS_app, evS_drop, evS_if_, evS_ret, evS_retN, evS_brk, evS_pass, evS_undr, evEs, evPs, evO, evI, evT, startG, List.map_cons, List.map_nil, List.set_cons_zero, List.set_cons_succ, List.getElem?_cons_zero, List.getElem?_cons_succ, List.length_cons, List.length_nil, List.cons_append, List.nil_append, List.replicate_succ, List.replicate_zero, Nat.reduceAdd, Nat.reduceSub, cmpD_ii_eq, cmpD_ii_ne, cmpD_ii_lt, cmpD_ii_le, cmpD_ii_gt, cmpD_ii_ge, cmpD_bb_eq, cmpD_bb_ne, List.all_cons, List.all_nil, List.any_cons, List.any_nil, Bool.or_false, Bool.or_true, Bool.true_or, Bool.false_or, Bool.and_true, Bool.true_and, Bool.and_self, isTy, wipeG, backG, Option.bind_some, Option.map_some, Bool.not_true, Bool.not_false, ite_true, ite_false, if_true, if_false, true_and, and_true, Bool.false_eq_true, evI_seq, List.isEmpty_nil, List.isEmpty_cons, List.length_map, decide_eq_true_eq, Bool.and_eq_true, b_add, b_sub, b_mul, b_div, b_mod, b_pow, b_addL, b_addT, b_mulL, sl_v, sl_f, sl_dr, sl_scr, ar_v, ar_f, ar_dr, ar_scr, rv_v, rv_f, as_i, as_b, da_nil, da_cons, sa_nil, sa_cons, bi_len, bi_max2, bi_min2, bi_maxL, bi_minL, bi_sumL, bi_allL, bi_anyL, bi_sorted, bi_sortedR, bi_listL, bi_listT, bi_tupL, bi_tupT, bi_int1, bi_int1b, bi_abs1, bi_repr, ag_n, ag_nil, ag_cons, up_l, up_t, sq_l, sq_t, ln_l, ln_t, rg_1, rg_2, en_l, zp_l, zp_t, sb_l, sb_t, ra_eq, rd_mk, st_mk, wp_mk, bk_mk, ls_mk, nl_mk, bn_mk, bl_mk, no_mk, ss_mk, is_mk, sS_mk, pS_mk, aS_mk, sv_scr, sv_v, sv_f, sr_l, sr_t, rr_l, evE_lstx, evE_dsp, evE_idx, evE_dcomp, evS_ext, ex_l, evS_augI, evXs_nil, evXs_cons, evXs_star, eS_mk, gI_mk, ke_i, ke_s, sl_fd, b_shl, b_shr, b_and, bi_min3, sortR_ints, sortRR_ints, ai_nil, ai_cons, allInts_map, evE_imax, evE_slb, evE_sla, rr_t, slb_t, sla_l, im_mk, bi_sortedT, bi_lenSet, bi_sortSet, Int.reduceLE, Int.reduceLT, Int.reduceToNat, Int.reducePow, Nat.reduceLT, Nat.reduceLeDiff, Nat.reducePow, Int.reduceNeg, Int.reduceAbs, small_lit, at_0, at_1, at_2, decide_true, decide_false, gt_iff_lt, ge_iff_le, eq_self, Bool.not_eq_true, e1, e2])
def nbL (es : List E3) (v : Int) : List Int := (es.flatMap fun e => if e.1 = v then [e.2.1] else []) ++ es.flatMap fun e => if e.2.1 = v then [e.1] else []
def nb (es : List E3) (v : Int) : List Int := sortI (nbL es v)
theorem flat_map {α : Type} (f : Int → D) (G : α → List Int) (l : List α) : (l.flatMap fun e => (G e).map f) = (l.flatMap G).map f := by
  induction l with
  | nil => rfl
  | cons a r ih => rw [List.flatMap_cons, List.flatMap_cons, List.map_append, ih]
theorem flat_le {α : Type} (G : α → List Int) (h : ∀ a, (G a).length ≤ 1) : ∀ l : List α, (l.flatMap G).length ≤ l.length
  | [] => Nat.le_refl _
  | a :: r => by
    rw [List.flatMap_cons, List.length_append, List.length_cons]
    have := h a
    have := flat_le G h r
    omega
theorem if1 {c : Prop} [Decidable c] {x : Int} : ((if c then [x] else []) : List Int).length ≤ 1 := by split <;> simp
theorem nbrs_W {S : Option DS} {n v : Int} {es : List E3} (hf : tf[i]? = some ⟨2, 6, bNbrs⟩) (hk : 0 < k) (hl : es.length < 10000) : W (callF tf fu k i [.v (treeD n es), .v (.int v)] S) fun p => p = (.v (.tuple ((nb es v).map .int)), S) := by
  obtain ⟨k, rfl⟩ : ∃ j, k = j + 1 := ⟨k - 1, by omega⟩
  refine W_call hf rfl ?_
  unfold bNbrs treeD
  (try simp only [W_cons, W_nil, kS_nx, kS_rt, kS_bk, oQ_nx, oQ_rt, W_some, W_bind, W_map, W_guard, W_guardB, evE_comp, evS_for, evS_while, evS_mkdr, evE_var, evE_con, evE_bin, evE_neg, evE_not_, evE_cmp, evE_chain, evE_and_, evE_or_, evE_ite, evE_tup, evE_lst, evE_sub, evE_subv, evE_slice, evE_rev, evE_lenv, evE_nilv, evE_inv, evE_call, evE_bi, evE_rngl, evE_isi, evE_pop0, evE_pop1, evS_set, evS_unp, evS_par, evS_stsub, evS_app, evS_drop, evS_if_, evS_ret, evS_retN, evS_brk, evS_pass, evS_undr, evEs, evPs, evO, evI, evT, startG, List.map_cons, List.map_nil, List.set_cons_zero, List.set_cons_succ, List.getElem?_cons_zero, List.getElem?_cons_succ, List.length_cons, List.length_nil, List.cons_append, List.nil_append, List.replicate_succ, List.replicate_zero, Nat.reduceAdd, Nat.reduceSub, cmpD_ii_eq, cmpD_ii_ne, cmpD_ii_lt, cmpD_ii_le, cmpD_ii_gt, cmpD_ii_ge, cmpD_bb_eq, cmpD_bb_ne, List.all_cons, List.all_nil, List.any_cons, List.any_nil, Bool.or_false, Bool.or_true, Bool.true_or, Bool.false_or, Bool.and_true, Bool.true_and, Bool.and_self, isTy, wipeG, backG, Option.bind_some, Option.map_some, Bool.not_true, Bool.not_false, ite_true, ite_false, if_true, if_false, true_and, and_true, Bool.false_eq_true, evI_seq, List.isEmpty_nil, List.isEmpty_cons, List.length_map, decide_eq_true_eq, Bool.and_eq_true, b_add, b_sub, b_mul, b_div, b_mod, b_pow, b_addL, b_addT, b_mulL, sl_v, sl_f, sl_dr, sl_scr, ar_v, ar_f, ar_dr, ar_scr, rv_v, rv_f, as_i, as_b, da_nil, da_cons, sa_nil, sa_cons, bi_len, bi_max2, bi_min2, bi_maxL, bi_minL, bi_sumL, bi_allL, bi_anyL, bi_sorted, bi_sortedR, bi_listL, bi_listT, bi_tupL, bi_tupT, bi_int1, bi_int1b, bi_abs1, bi_repr, ag_n, ag_nil, ag_cons, up_l, up_t, sq_l, sq_t, ln_l, ln_t, rg_1, rg_2, en_l, zp_l, zp_t, sb_l, sb_t, ra_eq, rd_mk, st_mk, wp_mk, bk_mk, ls_mk, nl_mk, bn_mk, bl_mk, no_mk, ss_mk, is_mk, sS_mk, pS_mk, aS_mk, sv_scr, sv_v, sv_f, sr_l, sr_t, rr_l, evE_lstx, evE_dsp, evE_idx, evE_dcomp, evS_ext, ex_l, evS_augI, evXs_nil, evXs_cons, evXs_star, eS_mk, gI_mk, ke_i, ke_s, sl_fd, b_shl, b_shr, b_and, bi_min3, sortR_ints, sortRR_ints, ai_nil, ai_cons, allInts_map, evE_imax, evE_slb, evE_sla, rr_t, slb_t, sla_l, im_mk, bi_sortedT, bi_lenSet, bi_sortSet, Int.reduceLE, Int.reduceLT, Int.reduceToNat, Int.reducePow, Nat.reduceLT, Nat.reduceLeDiff, Nat.reducePow, Int.reduceNeg, Int.reduceAbs, small_lit, at_0, at_1, at_2, decide_true, decide_false, gt_iff_lt, ge_iff_le, eq_self, Bool.not_eq_true])
  have ol : okLen es.length = true := decide_eq_true (by unfold LIM; omega)
  refine ⟨ol, ?_⟩
  refine W.mono (W_compF (l := es) (f := edD) (G := fun e => (if e.1 = v then [e.2.1] else []).map PyData.int) (fun s => ∃ x y z : Slot, s = ⟨[.v (treeD n es), .v (.int v), .no, x, y, z], S⟩) ?_ ⟨_, _, _, rfl⟩) ?_
  · rintro e he acc s ⟨x, y, z, rfl⟩
    unfold cStep edD
    (try simp only [W_cons, W_nil, kS_nx, kS_rt, kS_bk, oQ_nx, oQ_rt, W_some, W_bind, W_map, W_guard, W_guardB, evE_comp, evS_for, evS_while, evS_mkdr, evE_var, evE_con, evE_bin, evE_neg, evE_not_, evE_cmp, evE_chain, evE_and_, evE_or_, evE_ite, evE_tup, evE_lst, evE_sub, evE_subv, evE_slice, evE_rev, evE_lenv, evE_nilv, evE_inv, evE_call, evE_bi, evE_rngl, evE_isi, evE_pop0, evE_pop1, evS_set, evS_unp, evS_par, evS_stsub, evS_app, evS_drop, evS_if_, evS_ret, evS_retN, evS_brk, evS_pass, evS_undr, evEs, evPs, evO, evI, evT, startG, List.map_cons, List.map_nil, List.set_cons_zero, List.set_cons_succ, List.getElem?_cons_zero, List.getElem?_cons_succ, List.length_cons, List.length_nil, List.cons_append, List.nil_append, List.replicate_succ, List.replicate_zero, Nat.reduceAdd, Nat.reduceSub, cmpD_ii_eq, cmpD_ii_ne, cmpD_ii_lt, cmpD_ii_le, cmpD_ii_gt, cmpD_ii_ge, cmpD_bb_eq, cmpD_bb_ne, List.all_cons, List.all_nil, List.any_cons, List.any_nil, Bool.or_false, Bool.or_true, Bool.true_or, Bool.false_or, Bool.and_true, Bool.true_and, Bool.and_self, isTy, wipeG, backG, Option.bind_some, Option.map_some, Bool.not_true, Bool.not_false, ite_true, ite_false, if_true, if_false, true_and, and_true, Bool.false_eq_true, evI_seq, List.isEmpty_nil, List.isEmpty_cons, List.length_map, decide_eq_true_eq, Bool.and_eq_true, b_add, b_sub, b_mul, b_div, b_mod, b_pow, b_addL, b_addT, b_mulL, sl_v, sl_f, sl_dr, sl_scr, ar_v, ar_f, ar_dr, ar_scr, rv_v, rv_f, as_i, as_b, da_nil, da_cons, sa_nil, sa_cons, bi_len, bi_max2, bi_min2, bi_maxL, bi_minL, bi_sumL, bi_allL, bi_anyL, bi_sorted, bi_sortedR, bi_listL, bi_listT, bi_tupL, bi_tupT, bi_int1, bi_int1b, bi_abs1, bi_repr, ag_n, ag_nil, ag_cons, up_l, up_t, sq_l, sq_t, ln_l, ln_t, rg_1, rg_2, en_l, zp_l, zp_t, sb_l, sb_t, ra_eq, rd_mk, st_mk, wp_mk, bk_mk, ls_mk, nl_mk, bn_mk, bl_mk, no_mk, ss_mk, is_mk, sS_mk, pS_mk, aS_mk, sv_scr, sv_v, sv_f, sr_l, sr_t, rr_l, evE_lstx, evE_dsp, evE_idx, evE_dcomp, evS_ext, ex_l, evS_augI, evXs_nil, evXs_cons, evXs_star, eS_mk, gI_mk, ke_i, ke_s, sl_fd, b_shl, b_shr, b_and, bi_min3, sortR_ints, sortRR_ints, ai_nil, ai_cons, allInts_map, evE_imax, evE_slb, evE_sla, rr_t, slb_t, sla_l, im_mk, bi_sortedT, bi_lenSet, bi_sortSet, Int.reduceLE, Int.reduceLT, Int.reduceToNat, Int.reducePow, Nat.reduceLT, Nat.reduceLeDiff, Nat.reducePow, Int.reduceNeg, Int.reduceAbs, small_lit, at_0, at_1, at_2, decide_true, decide_false, gt_iff_lt, ge_iff_le, eq_self, Bool.not_eq_true])
    by_cases h : e.1 = v
    · (try simp only [W_cons, W_nil, kS_nx, kS_rt, kS_bk, oQ_nx, oQ_rt, W_some, W_bind, W_map, W_guard, W_guardB, evE_comp, evS_for, evS_while, evS_mkdr, evE_var, evE_con, evE_bin, evE_neg, evE_not_, evE_cmp, evE_chain, evE_and_, evE_or_, evE_ite, evE_tup, evE_lst, evE_sub, evE_subv, evE_slice, evE_rev, evE_lenv, evE_nilv, evE_inv, evE_call, evE_bi, evE_rngl, evE_isi, evE_pop0, evE_pop1, evS_set, evS_unp, evS_par, evS_stsub, evS_app, evS_drop, evS_if_, evS_ret, evS_retN, evS_brk, evS_pass, evS_undr, evEs, evPs, evO, evI, evT, startG, List.map_cons, List.map_nil, List.set_cons_zero, List.set_cons_succ, List.getElem?_cons_zero, List.getElem?_cons_succ, List.length_cons, List.length_nil, List.cons_append, List.nil_append, List.replicate_succ, List.replicate_zero, Nat.reduceAdd, Nat.reduceSub, cmpD_ii_eq, cmpD_ii_ne, cmpD_ii_lt, cmpD_ii_le, cmpD_ii_gt, cmpD_ii_ge, cmpD_bb_eq, cmpD_bb_ne, List.all_cons, List.all_nil, List.any_cons, List.any_nil, Bool.or_false, Bool.or_true, Bool.true_or, Bool.false_or, Bool.and_true, Bool.true_and, Bool.and_self, isTy, wipeG, backG, Option.bind_some, Option.map_some, Bool.not_true, Bool.not_false, ite_true, ite_false, if_true, if_false, true_and, and_true, Bool.false_eq_true, evI_seq, List.isEmpty_nil, List.isEmpty_cons, List.length_map, decide_eq_true_eq, Bool.and_eq_true, b_add, b_sub, b_mul, b_div, b_mod, b_pow, b_addL, b_addT, b_mulL, sl_v, sl_f, sl_dr, sl_scr, ar_v, ar_f, ar_dr, ar_scr, rv_v, rv_f, as_i, as_b, da_nil, da_cons, sa_nil, sa_cons, bi_len, bi_max2, bi_min2, bi_maxL, bi_minL, bi_sumL, bi_allL, bi_anyL, bi_sorted, bi_sortedR, bi_listL, bi_listT, bi_tupL, bi_tupT, bi_int1, bi_int1b, bi_abs1, bi_repr, ag_n, ag_nil, ag_cons, up_l, up_t, sq_l, sq_t, ln_l, ln_t, rg_1, rg_2, en_l, zp_l, zp_t, sb_l, sb_t, ra_eq, rd_mk, st_mk, wp_mk, bk_mk, ls_mk, nl_mk, bn_mk, bl_mk, no_mk, ss_mk, is_mk, sS_mk, pS_mk, aS_mk, sv_scr, sv_v, sv_f, sr_l, sr_t, rr_l, evE_lstx, evE_dsp, evE_idx, evE_dcomp, evS_ext, ex_l, evS_augI, evXs_nil, evXs_cons, evXs_star, eS_mk, gI_mk, ke_i, ke_s, sl_fd, b_shl, b_shr, b_and, bi_min3, sortR_ints, sortRR_ints, ai_nil, ai_cons, allInts_map, evE_imax, evE_slb, evE_sla, rr_t, slb_t, sla_l, im_mk, bi_sortedT, bi_lenSet, bi_sortSet, Int.reduceLE, Int.reduceLT, Int.reduceToNat, Int.reducePow, Nat.reduceLT, Nat.reduceLeDiff, Nat.reducePow, Int.reduceNeg, Int.reduceAbs, small_lit, at_0, at_1, at_2, decide_true, decide_false, gt_iff_lt, ge_iff_le, eq_self, Bool.not_eq_true, if_pos h])
      exact ⟨_, _, _, rfl⟩
    · (try simp only [W_cons, W_nil, kS_nx, kS_rt, kS_bk, oQ_nx, oQ_rt, W_some, W_bind, W_map, W_guard, W_guardB, evE_comp, evS_for, evS_while, evS_mkdr, evE_var, evE_con, evE_bin, evE_neg, evE_not_, evE_cmp, evE_chain, evE_and_, evE_or_, evE_ite, evE_tup, evE_lst, evE_sub, evE_subv, evE_slice, evE_rev, evE_lenv, evE_nilv, evE_inv, evE_call, evE_bi, evE_rngl, evE_isi, evE_pop0, evE_pop1, evS_set, evS_unp, evS_par, evS_stsub, evS_app, evS_drop, evS_if_, evS_ret, evS_retN, evS_brk, evS_pass, evS_undr, evEs, evPs, evO, evI, evT, startG, List.map_cons, List.map_nil, List.set_cons_zero, List.set_cons_succ, List.getElem?_cons_zero, List.getElem?_cons_succ, List.length_cons, List.length_nil, List.cons_append, List.nil_append, List.replicate_succ, List.replicate_zero, Nat.reduceAdd, Nat.reduceSub, cmpD_ii_eq, cmpD_ii_ne, cmpD_ii_lt, cmpD_ii_le, cmpD_ii_gt, cmpD_ii_ge, cmpD_bb_eq, cmpD_bb_ne, List.all_cons, List.all_nil, List.any_cons, List.any_nil, Bool.or_false, Bool.or_true, Bool.true_or, Bool.false_or, Bool.and_true, Bool.true_and, Bool.and_self, isTy, wipeG, backG, Option.bind_some, Option.map_some, Bool.not_true, Bool.not_false, ite_true, ite_false, if_true, if_false, true_and, and_true, Bool.false_eq_true, evI_seq, List.isEmpty_nil, List.isEmpty_cons, List.length_map, decide_eq_true_eq, Bool.and_eq_true, b_add, b_sub, b_mul, b_div, b_mod, b_pow, b_addL, b_addT, b_mulL, sl_v, sl_f, sl_dr, sl_scr, ar_v, ar_f, ar_dr, ar_scr, rv_v, rv_f, as_i, as_b, da_nil, da_cons, sa_nil, sa_cons, bi_len, bi_max2, bi_min2, bi_maxL, bi_minL, bi_sumL, bi_allL, bi_anyL, bi_sorted, bi_sortedR, bi_listL, bi_listT, bi_tupL, bi_tupT, bi_int1, bi_int1b, bi_abs1, bi_repr, ag_n, ag_nil, ag_cons, up_l, up_t, sq_l, sq_t, ln_l, ln_t, rg_1, rg_2, en_l, zp_l, zp_t, sb_l, sb_t, ra_eq, rd_mk, st_mk, wp_mk, bk_mk, ls_mk, nl_mk, bn_mk, bl_mk, no_mk, ss_mk, is_mk, sS_mk, pS_mk, aS_mk, sv_scr, sv_v, sv_f, sr_l, sr_t, rr_l, evE_lstx, evE_dsp, evE_idx, evE_dcomp, evS_ext, ex_l, evS_augI, evXs_nil, evXs_cons, evXs_star, eS_mk, gI_mk, ke_i, ke_s, sl_fd, b_shl, b_shr, b_and, bi_min3, sortR_ints, sortRR_ints, ai_nil, ai_cons, allInts_map, evE_imax, evE_slb, evE_sla, rr_t, slb_t, sla_l, im_mk, bi_sortedT, bi_lenSet, bi_sortSet, Int.reduceLE, Int.reduceLT, Int.reduceToNat, Int.reducePow, Nat.reduceLT, Nat.reduceLeDiff, Nat.reducePow, Int.reduceNeg, Int.reduceAbs, small_lit, at_0, at_1, at_2, decide_true, decide_false, gt_iff_lt, ge_iff_le, eq_self, Bool.not_eq_true, if_neg h])
      exact ⟨by simp, _, _, _, rfl⟩
  rintro ⟨l, s⟩ ⟨h1, x, y, z, rfl⟩
  have h1 : l = _ := h1
  rw [List.nil_append, flat_map] at h1
  subst h1
  unfold treeD
  (try simp only [W_cons, W_nil, kS_nx, kS_rt, kS_bk, oQ_nx, oQ_rt, W_some, W_bind, W_map, W_guard, W_guardB, evE_comp, evS_for, evS_while, evS_mkdr, evE_var, evE_con, evE_bin, evE_neg, evE_not_, evE_cmp, evE_chain, evE_and_, evE_or_, evE_ite, evE_tup, evE_lst, evE_sub, evE_subv, evE_slice, evE_rev, evE_lenv, evE_nilv, evE_inv, evE_call, evE_bi, evE_rngl, evE_isi, evE_pop0, evE_pop1, evS_set, evS_unp, evS_par, evS_stsub, evS_app, evS_drop, evS_if_, evS_ret, evS_retN, evS_brk, evS_pass, evS_undr, evEs, evPs, evO, evI, evT, startG, List.map_cons, List.map_nil, List.set_cons_zero, List.set_cons_succ, List.getElem?_cons_zero, List.getElem?_cons_succ, List.length_cons, List.length_nil, List.cons_append, List.nil_append, List.replicate_succ, List.replicate_zero, Nat.reduceAdd, Nat.reduceSub, cmpD_ii_eq, cmpD_ii_ne, cmpD_ii_lt, cmpD_ii_le, cmpD_ii_gt, cmpD_ii_ge, cmpD_bb_eq, cmpD_bb_ne, List.all_cons, List.all_nil, List.any_cons, List.any_nil, Bool.or_false, Bool.or_true, Bool.true_or, Bool.false_or, Bool.and_true, Bool.true_and, Bool.and_self, isTy, wipeG, backG, Option.bind_some, Option.map_some, Bool.not_true, Bool.not_false, ite_true, ite_false, if_true, if_false, true_and, and_true, Bool.false_eq_true, evI_seq, List.isEmpty_nil, List.isEmpty_cons, List.length_map, decide_eq_true_eq, Bool.and_eq_true, b_add, b_sub, b_mul, b_div, b_mod, b_pow, b_addL, b_addT, b_mulL, sl_v, sl_f, sl_dr, sl_scr, ar_v, ar_f, ar_dr, ar_scr, rv_v, rv_f, as_i, as_b, da_nil, da_cons, sa_nil, sa_cons, bi_len, bi_max2, bi_min2, bi_maxL, bi_minL, bi_sumL, bi_allL, bi_anyL, bi_sorted, bi_sortedR, bi_listL, bi_listT, bi_tupL, bi_tupT, bi_int1, bi_int1b, bi_abs1, bi_repr, ag_n, ag_nil, ag_cons, up_l, up_t, sq_l, sq_t, ln_l, ln_t, rg_1, rg_2, en_l, zp_l, zp_t, sb_l, sb_t, ra_eq, rd_mk, st_mk, wp_mk, bk_mk, ls_mk, nl_mk, bn_mk, bl_mk, no_mk, ss_mk, is_mk, sS_mk, pS_mk, aS_mk, sv_scr, sv_v, sv_f, sr_l, sr_t, rr_l, evE_lstx, evE_dsp, evE_idx, evE_dcomp, evS_ext, ex_l, evS_augI, evXs_nil, evXs_cons, evXs_star, eS_mk, gI_mk, ke_i, ke_s, sl_fd, b_shl, b_shr, b_and, bi_min3, sortR_ints, sortRR_ints, ai_nil, ai_cons, allInts_map, evE_imax, evE_slb, evE_sla, rr_t, slb_t, sla_l, im_mk, bi_sortedT, bi_lenSet, bi_sortSet, Int.reduceLE, Int.reduceLT, Int.reduceToNat, Int.reducePow, Nat.reduceLT, Nat.reduceLeDiff, Nat.reducePow, Int.reduceNeg, Int.reduceAbs, small_lit, at_0, at_1, at_2, decide_true, decide_false, gt_iff_lt, ge_iff_le, eq_self, Bool.not_eq_true])
  refine ⟨ol, ?_⟩
  refine W.mono (W_compF (l := es) (f := edD) (G := fun e => (if e.2.1 = v then [e.1] else []).map PyData.int) (fun s => ∃ x y z : Slot, s = ⟨[.v (treeD n es), .v (.int v), .v (.list (List.map PyData.int (List.flatMap (fun e => if e.1 = v then [e.2.1] else []) es))), x, y, z], S⟩) ?_ ⟨_, _, _, rfl⟩) ?_
  · rintro e he acc s ⟨x, y, z, rfl⟩
    unfold cStep edD
    (try simp only [W_cons, W_nil, kS_nx, kS_rt, kS_bk, oQ_nx, oQ_rt, W_some, W_bind, W_map, W_guard, W_guardB, evE_comp, evS_for, evS_while, evS_mkdr, evE_var, evE_con, evE_bin, evE_neg, evE_not_, evE_cmp, evE_chain, evE_and_, evE_or_, evE_ite, evE_tup, evE_lst, evE_sub, evE_subv, evE_slice, evE_rev, evE_lenv, evE_nilv, evE_inv, evE_call, evE_bi, evE_rngl, evE_isi, evE_pop0, evE_pop1, evS_set, evS_unp, evS_par, evS_stsub, evS_app, evS_drop, evS_if_, evS_ret, evS_retN, evS_brk, evS_pass, evS_undr, evEs, evPs, evO, evI, evT, startG, List.map_cons, List.map_nil, List.set_cons_zero, List.set_cons_succ, List.getElem?_cons_zero, List.getElem?_cons_succ, List.length_cons, List.length_nil, List.cons_append, List.nil_append, List.replicate_succ, List.replicate_zero, Nat.reduceAdd, Nat.reduceSub, cmpD_ii_eq, cmpD_ii_ne, cmpD_ii_lt, cmpD_ii_le, cmpD_ii_gt, cmpD_ii_ge, cmpD_bb_eq, cmpD_bb_ne, List.all_cons, List.all_nil, List.any_cons, List.any_nil, Bool.or_false, Bool.or_true, Bool.true_or, Bool.false_or, Bool.and_true, Bool.true_and, Bool.and_self, isTy, wipeG, backG, Option.bind_some, Option.map_some, Bool.not_true, Bool.not_false, ite_true, ite_false, if_true, if_false, true_and, and_true, Bool.false_eq_true, evI_seq, List.isEmpty_nil, List.isEmpty_cons, List.length_map, decide_eq_true_eq, Bool.and_eq_true, b_add, b_sub, b_mul, b_div, b_mod, b_pow, b_addL, b_addT, b_mulL, sl_v, sl_f, sl_dr, sl_scr, ar_v, ar_f, ar_dr, ar_scr, rv_v, rv_f, as_i, as_b, da_nil, da_cons, sa_nil, sa_cons, bi_len, bi_max2, bi_min2, bi_maxL, bi_minL, bi_sumL, bi_allL, bi_anyL, bi_sorted, bi_sortedR, bi_listL, bi_listT, bi_tupL, bi_tupT, bi_int1, bi_int1b, bi_abs1, bi_repr, ag_n, ag_nil, ag_cons, up_l, up_t, sq_l, sq_t, ln_l, ln_t, rg_1, rg_2, en_l, zp_l, zp_t, sb_l, sb_t, ra_eq, rd_mk, st_mk, wp_mk, bk_mk, ls_mk, nl_mk, bn_mk, bl_mk, no_mk, ss_mk, is_mk, sS_mk, pS_mk, aS_mk, sv_scr, sv_v, sv_f, sr_l, sr_t, rr_l, evE_lstx, evE_dsp, evE_idx, evE_dcomp, evS_ext, ex_l, evS_augI, evXs_nil, evXs_cons, evXs_star, eS_mk, gI_mk, ke_i, ke_s, sl_fd, b_shl, b_shr, b_and, bi_min3, sortR_ints, sortRR_ints, ai_nil, ai_cons, allInts_map, evE_imax, evE_slb, evE_sla, rr_t, slb_t, sla_l, im_mk, bi_sortedT, bi_lenSet, bi_sortSet, Int.reduceLE, Int.reduceLT, Int.reduceToNat, Int.reducePow, Nat.reduceLT, Nat.reduceLeDiff, Nat.reducePow, Int.reduceNeg, Int.reduceAbs, small_lit, at_0, at_1, at_2, decide_true, decide_false, gt_iff_lt, ge_iff_le, eq_self, Bool.not_eq_true])
    by_cases h : e.2.1 = v
    · (try simp only [W_cons, W_nil, kS_nx, kS_rt, kS_bk, oQ_nx, oQ_rt, W_some, W_bind, W_map, W_guard, W_guardB, evE_comp, evS_for, evS_while, evS_mkdr, evE_var, evE_con, evE_bin, evE_neg, evE_not_, evE_cmp, evE_chain, evE_and_, evE_or_, evE_ite, evE_tup, evE_lst, evE_sub, evE_subv, evE_slice, evE_rev, evE_lenv, evE_nilv, evE_inv, evE_call, evE_bi, evE_rngl, evE_isi, evE_pop0, evE_pop1, evS_set, evS_unp, evS_par, evS_stsub, evS_app, evS_drop, evS_if_, evS_ret, evS_retN, evS_brk, evS_pass, evS_undr, evEs, evPs, evO, evI, evT, startG, List.map_cons, List.map_nil, List.set_cons_zero, List.set_cons_succ, List.getElem?_cons_zero, List.getElem?_cons_succ, List.length_cons, List.length_nil, List.cons_append, List.nil_append, List.replicate_succ, List.replicate_zero, Nat.reduceAdd, Nat.reduceSub, cmpD_ii_eq, cmpD_ii_ne, cmpD_ii_lt, cmpD_ii_le, cmpD_ii_gt, cmpD_ii_ge, cmpD_bb_eq, cmpD_bb_ne, List.all_cons, List.all_nil, List.any_cons, List.any_nil, Bool.or_false, Bool.or_true, Bool.true_or, Bool.false_or, Bool.and_true, Bool.true_and, Bool.and_self, isTy, wipeG, backG, Option.bind_some, Option.map_some, Bool.not_true, Bool.not_false, ite_true, ite_false, if_true, if_false, true_and, and_true, Bool.false_eq_true, evI_seq, List.isEmpty_nil, List.isEmpty_cons, List.length_map, decide_eq_true_eq, Bool.and_eq_true, b_add, b_sub, b_mul, b_div, b_mod, b_pow, b_addL, b_addT, b_mulL, sl_v, sl_f, sl_dr, sl_scr, ar_v, ar_f, ar_dr, ar_scr, rv_v, rv_f, as_i, as_b, da_nil, da_cons, sa_nil, sa_cons, bi_len, bi_max2, bi_min2, bi_maxL, bi_minL, bi_sumL, bi_allL, bi_anyL, bi_sorted, bi_sortedR, bi_listL, bi_listT, bi_tupL, bi_tupT, bi_int1, bi_int1b, bi_abs1, bi_repr, ag_n, ag_nil, ag_cons, up_l, up_t, sq_l, sq_t, ln_l, ln_t, rg_1, rg_2, en_l, zp_l, zp_t, sb_l, sb_t, ra_eq, rd_mk, st_mk, wp_mk, bk_mk, ls_mk, nl_mk, bn_mk, bl_mk, no_mk, ss_mk, is_mk, sS_mk, pS_mk, aS_mk, sv_scr, sv_v, sv_f, sr_l, sr_t, rr_l, evE_lstx, evE_dsp, evE_idx, evE_dcomp, evS_ext, ex_l, evS_augI, evXs_nil, evXs_cons, evXs_star, eS_mk, gI_mk, ke_i, ke_s, sl_fd, b_shl, b_shr, b_and, bi_min3, sortR_ints, sortRR_ints, ai_nil, ai_cons, allInts_map, evE_imax, evE_slb, evE_sla, rr_t, slb_t, sla_l, im_mk, bi_sortedT, bi_lenSet, bi_sortSet, Int.reduceLE, Int.reduceLT, Int.reduceToNat, Int.reducePow, Nat.reduceLT, Nat.reduceLeDiff, Nat.reducePow, Int.reduceNeg, Int.reduceAbs, small_lit, at_0, at_1, at_2, decide_true, decide_false, gt_iff_lt, ge_iff_le, eq_self, Bool.not_eq_true, if_pos h])
      exact ⟨_, _, _, rfl⟩
    · (try simp only [W_cons, W_nil, kS_nx, kS_rt, kS_bk, oQ_nx, oQ_rt, W_some, W_bind, W_map, W_guard, W_guardB, evE_comp, evS_for, evS_while, evS_mkdr, evE_var, evE_con, evE_bin, evE_neg, evE_not_, evE_cmp, evE_chain, evE_and_, evE_or_, evE_ite, evE_tup, evE_lst, evE_sub, evE_subv, evE_slice, evE_rev, evE_lenv, evE_nilv, evE_inv, evE_call, evE_bi, evE_rngl, evE_isi, evE_pop0, evE_pop1, evS_set, evS_unp, evS_par, evS_stsub, evS_app, evS_drop, evS_if_, evS_ret, evS_retN, evS_brk, evS_pass, evS_undr, evEs, evPs, evO, evI, evT, startG, List.map_cons, List.map_nil, List.set_cons_zero, List.set_cons_succ, List.getElem?_cons_zero, List.getElem?_cons_succ, List.length_cons, List.length_nil, List.cons_append, List.nil_append, List.replicate_succ, List.replicate_zero, Nat.reduceAdd, Nat.reduceSub, cmpD_ii_eq, cmpD_ii_ne, cmpD_ii_lt, cmpD_ii_le, cmpD_ii_gt, cmpD_ii_ge, cmpD_bb_eq, cmpD_bb_ne, List.all_cons, List.all_nil, List.any_cons, List.any_nil, Bool.or_false, Bool.or_true, Bool.true_or, Bool.false_or, Bool.and_true, Bool.true_and, Bool.and_self, isTy, wipeG, backG, Option.bind_some, Option.map_some, Bool.not_true, Bool.not_false, ite_true, ite_false, if_true, if_false, true_and, and_true, Bool.false_eq_true, evI_seq, List.isEmpty_nil, List.isEmpty_cons, List.length_map, decide_eq_true_eq, Bool.and_eq_true, b_add, b_sub, b_mul, b_div, b_mod, b_pow, b_addL, b_addT, b_mulL, sl_v, sl_f, sl_dr, sl_scr, ar_v, ar_f, ar_dr, ar_scr, rv_v, rv_f, as_i, as_b, da_nil, da_cons, sa_nil, sa_cons, bi_len, bi_max2, bi_min2, bi_maxL, bi_minL, bi_sumL, bi_allL, bi_anyL, bi_sorted, bi_sortedR, bi_listL, bi_listT, bi_tupL, bi_tupT, bi_int1, bi_int1b, bi_abs1, bi_repr, ag_n, ag_nil, ag_cons, up_l, up_t, sq_l, sq_t, ln_l, ln_t, rg_1, rg_2, en_l, zp_l, zp_t, sb_l, sb_t, ra_eq, rd_mk, st_mk, wp_mk, bk_mk, ls_mk, nl_mk, bn_mk, bl_mk, no_mk, ss_mk, is_mk, sS_mk, pS_mk, aS_mk, sv_scr, sv_v, sv_f, sr_l, sr_t, rr_l, evE_lstx, evE_dsp, evE_idx, evE_dcomp, evS_ext, ex_l, evS_augI, evXs_nil, evXs_cons, evXs_star, eS_mk, gI_mk, ke_i, ke_s, sl_fd, b_shl, b_shr, b_and, bi_min3, sortR_ints, sortRR_ints, ai_nil, ai_cons, allInts_map, evE_imax, evE_slb, evE_sla, rr_t, slb_t, sla_l, im_mk, bi_sortedT, bi_lenSet, bi_sortSet, Int.reduceLE, Int.reduceLT, Int.reduceToNat, Int.reducePow, Nat.reduceLT, Nat.reduceLeDiff, Nat.reducePow, Int.reduceNeg, Int.reduceAbs, small_lit, at_0, at_1, at_2, decide_true, decide_false, gt_iff_lt, ge_iff_le, eq_self, Bool.not_eq_true, if_neg h])
      exact ⟨by simp, _, _, _, rfl⟩
  rintro ⟨l, s⟩ ⟨h1, x, y, z, rfl⟩
  have h1 : l = _ := h1
  rw [List.nil_append, flat_map] at h1
  subst h1
  have k1 := flat_le (fun e : E3 => if e.1 = v then [e.2.1] else []) (fun _ => if1) es
  have k2 := flat_le (fun e : E3 => if e.2.1 = v then [e.1] else []) (fun _ => if1) es
  (try simp only [W_cons, W_nil, kS_nx, kS_rt, kS_bk, oQ_nx, oQ_rt, W_some, W_bind, W_map, W_guard, W_guardB, evE_comp, evS_for, evS_while, evS_mkdr, evE_var, evE_con, evE_bin, evE_neg, evE_not_, evE_cmp, evE_chain, evE_and_, evE_or_, evE_ite, evE_tup, evE_lst, evE_sub, evE_subv, evE_slice, evE_rev, evE_lenv, evE_nilv, evE_inv, evE_call, evE_bi, evE_rngl, evE_isi, evE_pop0, evE_pop1, evS_set, evS_unp, evS_par, evS_stsub, evS_app, evS_drop, evS_if_, evS_ret, evS_retN, evS_brk, evS_pass, evS_undr, evEs, evPs, evO, evI, evT, startG, List.map_cons, List.map_nil, List.set_cons_zero, List.set_cons_succ, List.getElem?_cons_zero, List.getElem?_cons_succ, List.length_cons, List.length_nil, List.cons_append, List.nil_append, List.replicate_succ, List.replicate_zero, Nat.reduceAdd, Nat.reduceSub, cmpD_ii_eq, cmpD_ii_ne, cmpD_ii_lt, cmpD_ii_le, cmpD_ii_gt, cmpD_ii_ge, cmpD_bb_eq, cmpD_bb_ne, List.all_cons, List.all_nil, List.any_cons, List.any_nil, Bool.or_false, Bool.or_true, Bool.true_or, Bool.false_or, Bool.and_true, Bool.true_and, Bool.and_self, isTy, wipeG, backG, Option.bind_some, Option.map_some, Bool.not_true, Bool.not_false, ite_true, ite_false, if_true, if_false, true_and, and_true, Bool.false_eq_true, evI_seq, List.isEmpty_nil, List.isEmpty_cons, List.length_map, decide_eq_true_eq, Bool.and_eq_true, b_add, b_sub, b_mul, b_div, b_mod, b_pow, b_addL, b_addT, b_mulL, sl_v, sl_f, sl_dr, sl_scr, ar_v, ar_f, ar_dr, ar_scr, rv_v, rv_f, as_i, as_b, da_nil, da_cons, sa_nil, sa_cons, bi_len, bi_max2, bi_min2, bi_maxL, bi_minL, bi_sumL, bi_allL, bi_anyL, bi_sorted, bi_sortedR, bi_listL, bi_listT, bi_tupL, bi_tupT, bi_int1, bi_int1b, bi_abs1, bi_repr, ag_n, ag_nil, ag_cons, up_l, up_t, sq_l, sq_t, ln_l, ln_t, rg_1, rg_2, en_l, zp_l, zp_t, sb_l, sb_t, ra_eq, rd_mk, st_mk, wp_mk, bk_mk, ls_mk, nl_mk, bn_mk, bl_mk, no_mk, ss_mk, is_mk, sS_mk, pS_mk, aS_mk, sv_scr, sv_v, sv_f, sr_l, sr_t, rr_l, evE_lstx, evE_dsp, evE_idx, evE_dcomp, evS_ext, ex_l, evS_augI, evXs_nil, evXs_cons, evXs_star, eS_mk, gI_mk, ke_i, ke_s, sl_fd, b_shl, b_shr, b_and, bi_min3, sortR_ints, sortRR_ints, ai_nil, ai_cons, allInts_map, evE_imax, evE_slb, evE_sla, rr_t, slb_t, sla_l, im_mk, bi_sortedT, bi_lenSet, bi_sortSet, Int.reduceLE, Int.reduceLT, Int.reduceToNat, Int.reducePow, Nat.reduceLT, Nat.reduceLeDiff, Nat.reducePow, Int.reduceNeg, Int.reduceAbs, small_lit, at_0, at_1, at_2, decide_true, decide_false, gt_iff_lt, ge_iff_le, eq_self, Bool.not_eq_true])
  refine ⟨decide_eq_true (by unfold LIM; omega), ?_⟩
  rw [← List.map_append]
  (try simp only [W_cons, W_nil, kS_nx, kS_rt, kS_bk, oQ_nx, oQ_rt, W_some, W_bind, W_map, W_guard, W_guardB, evE_comp, evS_for, evS_while, evS_mkdr, evE_var, evE_con, evE_bin, evE_neg, evE_not_, evE_cmp, evE_chain, evE_and_, evE_or_, evE_ite, evE_tup, evE_lst, evE_sub, evE_subv, evE_slice, evE_rev, evE_lenv, evE_nilv, evE_inv, evE_call, evE_bi, evE_rngl, evE_isi, evE_pop0, evE_pop1, evS_set, evS_unp, evS_par, evS_stsub, evS_app, evS_drop, evS_if_, evS_ret, evS_retN, evS_brk, evS_pass, evS_undr, evEs, evPs, evO, evI, evT, startG, List.map_cons, List.map_nil, List.set_cons_zero, List.set_cons_succ, List.getElem?_cons_zero, List.getElem?_cons_succ, List.length_cons, List.length_nil, List.cons_append, List.nil_append, List.replicate_succ, List.replicate_zero, Nat.reduceAdd, Nat.reduceSub, cmpD_ii_eq, cmpD_ii_ne, cmpD_ii_lt, cmpD_ii_le, cmpD_ii_gt, cmpD_ii_ge, cmpD_bb_eq, cmpD_bb_ne, List.all_cons, List.all_nil, List.any_cons, List.any_nil, Bool.or_false, Bool.or_true, Bool.true_or, Bool.false_or, Bool.and_true, Bool.true_and, Bool.and_self, isTy, wipeG, backG, Option.bind_some, Option.map_some, Bool.not_true, Bool.not_false, ite_true, ite_false, if_true, if_false, true_and, and_true, Bool.false_eq_true, evI_seq, List.isEmpty_nil, List.isEmpty_cons, List.length_map, decide_eq_true_eq, Bool.and_eq_true, b_add, b_sub, b_mul, b_div, b_mod, b_pow, b_addL, b_addT, b_mulL, sl_v, sl_f, sl_dr, sl_scr, ar_v, ar_f, ar_dr, ar_scr, rv_v, rv_f, as_i, as_b, da_nil, da_cons, sa_nil, sa_cons, bi_len, bi_max2, bi_min2, bi_maxL, bi_minL, bi_sumL, bi_allL, bi_anyL, bi_sorted, bi_sortedR, bi_listL, bi_listT, bi_tupL, bi_tupT, bi_int1, bi_int1b, bi_abs1, bi_repr, ag_n, ag_nil, ag_cons, up_l, up_t, sq_l, sq_t, ln_l, ln_t, rg_1, rg_2, en_l, zp_l, zp_t, sb_l, sb_t, ra_eq, rd_mk, st_mk, wp_mk, bk_mk, ls_mk, nl_mk, bn_mk, bl_mk, no_mk, ss_mk, is_mk, sS_mk, pS_mk, aS_mk, sv_scr, sv_v, sv_f, sr_l, sr_t, rr_l, evE_lstx, evE_dsp, evE_idx, evE_dcomp, evS_ext, ex_l, evS_augI, evXs_nil, evXs_cons, evXs_star, eS_mk, gI_mk, ke_i, ke_s, sl_fd, b_shl, b_shr, b_and, bi_min3, sortR_ints, sortRR_ints, ai_nil, ai_cons, allInts_map, evE_imax, evE_slb, evE_sla, rr_t, slb_t, sla_l, im_mk, bi_sortedT, bi_lenSet, bi_sortSet, Int.reduceLE, Int.reduceLT, Int.reduceToNat, Int.reducePow, Nat.reduceLT, Nat.reduceLeDiff, Nat.reducePow, Int.reduceNeg, Int.reduceAbs, small_lit, at_0, at_1, at_2, decide_true, decide_false, gt_iff_lt, ge_iff_le, eq_self, Bool.not_eq_true, sortR, allInts_map])
  rfl

theorem cmpD_pp {a b c d : Int} : cmpD .Eq (.tuple [.int a, .int b]) (.tuple [.int c, .int d]) = some (decide (a = c) && decide (b = d)) := by
  show (if (shp (.tuple [.int a, .int b]) && shp (.tuple [.int c, .int d])) = true then some (PyData.eqv (.tuple [.int a, .int b]) (.tuple [.int c, .int d])) else none) = _
  have e : ∀ x y : Int, shp (.tuple [.int x, .int y]) = true := fun x y => by
    unfold shp SeqAt.shaped
    simp [PyData.canLay0, PyData.canLayAll0, PyData.depth, PyData.depthAll]
  rw [e, e]
  simp only [Bool.and_self, if_true, PyData.eqv, PyData.eqvAll, Bool.and_true, Option.some.injEq]
  rfl
def isE (a b : Int) (e : E3) : Bool := decide (e.1 = (if b < a then b else a)) && decide (e.2.1 = (if a < b then b else a))
def dlO (es : List E3) (a b : Int) : Option Int := (es.find? (isE a b)).map (·.2.2)
def oD : Option Int → D
  | some d => .int d
  | none => .none
theorem between_W {S : Option DS} {n a b : Int} {es : List E3} (hf : tf[i]? = some ⟨3, 6, bBetween⟩) (hk : 0 < k) : W (callF tf fu k i [.v (treeD n es), .v (.int a), .v (.int b)] S) fun p => p = (.v (oD (dlO es a b)), S) := by
  obtain ⟨k, rfl⟩ : ∃ j, k = j + 1 := ⟨k - 1, by omega⟩
  refine W_call hf rfl ?_
  unfold bBetween treeD
  (try simp only [W_cons, W_nil, kS_nx, kS_rt, kS_bk, oQ_nx, oQ_rt, W_some, W_bind, W_map, W_guard, W_guardB, evE_comp, evS_for, evS_while, evS_mkdr, evE_var, evE_con, evE_bin, evE_neg, evE_not_, evE_cmp, evE_chain, evE_and_, evE_or_, evE_ite, evE_tup, evE_lst, evE_sub, evE_subv, evE_slice, evE_rev, evE_lenv, evE_nilv, evE_inv, evE_call, evE_bi, evE_rngl, evE_isi, evE_pop0, evE_pop1, evS_set, evS_unp, evS_par, evS_stsub, evS_app, evS_drop, evS_if_, evS_ret, evS_retN, evS_brk, evS_pass, evS_undr, evEs, evPs, evO, evI, evT, startG, List.map_cons, List.map_nil, List.set_cons_zero, List.set_cons_succ, List.getElem?_cons_zero, List.getElem?_cons_succ, List.length_cons, List.length_nil, List.cons_append, List.nil_append, List.replicate_succ, List.replicate_zero, Nat.reduceAdd, Nat.reduceSub, cmpD_ii_eq, cmpD_ii_ne, cmpD_ii_lt, cmpD_ii_le, cmpD_ii_gt, cmpD_ii_ge, cmpD_bb_eq, cmpD_bb_ne, List.all_cons, List.all_nil, List.any_cons, List.any_nil, Bool.or_false, Bool.or_true, Bool.true_or, Bool.false_or, Bool.and_true, Bool.true_and, Bool.and_self, isTy, wipeG, backG, Option.bind_some, Option.map_some, Bool.not_true, Bool.not_false, ite_true, ite_false, if_true, if_false, true_and, and_true, Bool.false_eq_true, evI_seq, List.isEmpty_nil, List.isEmpty_cons, List.length_map, decide_eq_true_eq, Bool.and_eq_true, b_add, b_sub, b_mul, b_div, b_mod, b_pow, b_addL, b_addT, b_mulL, sl_v, sl_f, sl_dr, sl_scr, ar_v, ar_f, ar_dr, ar_scr, rv_v, rv_f, as_i, as_b, da_nil, da_cons, sa_nil, sa_cons, bi_len, bi_max2, bi_min2, bi_maxL, bi_minL, bi_sumL, bi_allL, bi_anyL, bi_sorted, bi_sortedR, bi_listL, bi_listT, bi_tupL, bi_tupT, bi_int1, bi_int1b, bi_abs1, bi_repr, ag_n, ag_nil, ag_cons, up_l, up_t, sq_l, sq_t, ln_l, ln_t, rg_1, rg_2, en_l, zp_l, zp_t, sb_l, sb_t, ra_eq, rd_mk, st_mk, wp_mk, bk_mk, ls_mk, nl_mk, bn_mk, bl_mk, no_mk, ss_mk, is_mk, sS_mk, pS_mk, aS_mk, sv_scr, sv_v, sv_f, sr_l, sr_t, rr_l, evE_lstx, evE_dsp, evE_idx, evE_dcomp, evS_ext, ex_l, evS_augI, evXs_nil, evXs_cons, evXs_star, eS_mk, gI_mk, ke_i, ke_s, sl_fd, b_shl, b_shr, b_and, bi_min3, sortR_ints, sortRR_ints, ai_nil, ai_cons, allInts_map, evE_imax, evE_slb, evE_sla, rr_t, slb_t, sla_l, im_mk, bi_sortedT, bi_lenSet, bi_sortSet, Int.reduceLE, Int.reduceLT, Int.reduceToNat, Int.reducePow, Nat.reduceLT, Nat.reduceLeDiff, Nat.reducePow, Int.reduceNeg, Int.reduceAbs, small_lit, at_0, at_1, at_2, decide_true, decide_false, gt_iff_lt, ge_iff_le, eq_self, Bool.not_eq_true])
  refine W_for (fun rest s => ∃ (r : List E3) (x y z : Slot), rest = r.map edD ∧ es.find? (isE a b) = r.find? (isE a b) ∧ s = ⟨[.v (treeD n es), .v (.int a), .v (.int b), x, y, z], S⟩) ?_ ?_ ⟨es, _, _, _, rfl, rfl, rfl⟩
  · rintro x rest s ⟨r, x1, x2, x3, e1, e2, rfl⟩
    cases r with
    | nil => cases e1
    | cons e r =>
      rw [List.map_cons] at e1
      cases e1
      unfold fStep edD
      (try simp only [W_cons, W_nil, kS_nx, kS_rt, kS_bk, oQ_nx, oQ_rt, W_some, W_bind, W_map, W_guard, W_guardB, evE_comp, evS_for, evS_while, evS_mkdr, evE_var, evE_con, evE_bin, evE_neg, evE_not_, evE_cmp, evE_chain, evE_and_, evE_or_, evE_ite, evE_tup, evE_lst, evE_sub, evE_subv, evE_slice, evE_rev, evE_lenv, evE_nilv, evE_inv, evE_call, evE_bi, evE_rngl, evE_isi, evE_pop0, evE_pop1, evS_set, evS_unp, evS_par, evS_stsub, evS_app, evS_drop, evS_if_, evS_ret, evS_retN, evS_brk, evS_pass, evS_undr, evEs, evPs, evO, evI, evT, startG, List.map_cons, List.map_nil, List.set_cons_zero, List.set_cons_succ, List.getElem?_cons_zero, List.getElem?_cons_succ, List.length_cons, List.length_nil, List.cons_append, List.nil_append, List.replicate_succ, List.replicate_zero, Nat.reduceAdd, Nat.reduceSub, cmpD_ii_eq, cmpD_ii_ne, cmpD_ii_lt, cmpD_ii_le, cmpD_ii_gt, cmpD_ii_ge, cmpD_bb_eq, cmpD_bb_ne, List.all_cons, List.all_nil, List.any_cons, List.any_nil, Bool.or_false, Bool.or_true, Bool.true_or, Bool.false_or, Bool.and_true, Bool.true_and, Bool.and_self, isTy, wipeG, backG, Option.bind_some, Option.map_some, Bool.not_true, Bool.not_false, ite_true, ite_false, if_true, if_false, true_and, and_true, Bool.false_eq_true, evI_seq, List.isEmpty_nil, List.isEmpty_cons, List.length_map, decide_eq_true_eq, Bool.and_eq_true, b_add, b_sub, b_mul, b_div, b_mod, b_pow, b_addL, b_addT, b_mulL, sl_v, sl_f, sl_dr, sl_scr, ar_v, ar_f, ar_dr, ar_scr, rv_v, rv_f, as_i, as_b, da_nil, da_cons, sa_nil, sa_cons, bi_len, bi_max2, bi_min2, bi_maxL, bi_minL, bi_sumL, bi_allL, bi_anyL, bi_sorted, bi_sortedR, bi_listL, bi_listT, bi_tupL, bi_tupT, bi_int1, bi_int1b, bi_abs1, bi_repr, ag_n, ag_nil, ag_cons, up_l, up_t, sq_l, sq_t, ln_l, ln_t, rg_1, rg_2, en_l, zp_l, zp_t, sb_l, sb_t, ra_eq, rd_mk, st_mk, wp_mk, bk_mk, ls_mk, nl_mk, bn_mk, bl_mk, no_mk, ss_mk, is_mk, sS_mk, pS_mk, aS_mk, sv_scr, sv_v, sv_f, sr_l, sr_t, rr_l, evE_lstx, evE_dsp, evE_idx, evE_dcomp, evS_ext, ex_l, evS_augI, evXs_nil, evXs_cons, evXs_star, eS_mk, gI_mk, ke_i, ke_s, sl_fd, b_shl, b_shr, b_and, bi_min3, sortR_ints, sortRR_ints, ai_nil, ai_cons, allInts_map, evE_imax, evE_slb, evE_sla, rr_t, slb_t, sla_l, im_mk, bi_sortedT, bi_lenSet, bi_sortSet, Int.reduceLE, Int.reduceLT, Int.reduceToNat, Int.reducePow, Nat.reduceLT, Nat.reduceLeDiff, Nat.reducePow, Int.reduceNeg, Int.reduceAbs, small_lit, at_0, at_1, at_2, decide_true, decide_false, gt_iff_lt, ge_iff_le, eq_self, Bool.not_eq_true, cmpD_pp])
      by_cases h : isE a b e = true
      · have h' := h
        unfold isE at h'
        rw [Bool.and_eq_true, decide_eq_true_eq, decide_eq_true_eq] at h'
        (try simp only [W_cons, W_nil, kS_nx, kS_rt, kS_bk, oQ_nx, oQ_rt, W_some, W_bind, W_map, W_guard, W_guardB, evE_comp, evS_for, evS_while, evS_mkdr, evE_var, evE_con, evE_bin, evE_neg, evE_not_, evE_cmp, evE_chain, evE_and_, evE_or_, evE_ite, evE_tup, evE_lst, evE_sub, evE_subv, evE_slice, evE_rev, evE_lenv, evE_nilv, evE_inv, evE_call, evE_bi, evE_rngl, evE_isi, evE_pop0, evE_pop1, evS_set, evS_unp, evS_par, evS_stsub, evS_app, evS_drop, evS_if_, evS_ret, evS_retN, evS_brk, evS_pass, evS_undr, evEs, evPs, evO, evI, evT, startG, List.map_cons, List.map_nil, List.set_cons_zero, List.set_cons_succ, List.getElem?_cons_zero, List.getElem?_cons_succ, List.length_cons, List.length_nil, List.cons_append, List.nil_append, List.replicate_succ, List.replicate_zero, Nat.reduceAdd, Nat.reduceSub, cmpD_ii_eq, cmpD_ii_ne, cmpD_ii_lt, cmpD_ii_le, cmpD_ii_gt, cmpD_ii_ge, cmpD_bb_eq, cmpD_bb_ne, List.all_cons, List.all_nil, List.any_cons, List.any_nil, Bool.or_false, Bool.or_true, Bool.true_or, Bool.false_or, Bool.and_true, Bool.true_and, Bool.and_self, isTy, wipeG, backG, Option.bind_some, Option.map_some, Bool.not_true, Bool.not_false, ite_true, ite_false, if_true, if_false, true_and, and_true, Bool.false_eq_true, evI_seq, List.isEmpty_nil, List.isEmpty_cons, List.length_map, decide_eq_true_eq, Bool.and_eq_true, b_add, b_sub, b_mul, b_div, b_mod, b_pow, b_addL, b_addT, b_mulL, sl_v, sl_f, sl_dr, sl_scr, ar_v, ar_f, ar_dr, ar_scr, rv_v, rv_f, as_i, as_b, da_nil, da_cons, sa_nil, sa_cons, bi_len, bi_max2, bi_min2, bi_maxL, bi_minL, bi_sumL, bi_allL, bi_anyL, bi_sorted, bi_sortedR, bi_listL, bi_listT, bi_tupL, bi_tupT, bi_int1, bi_int1b, bi_abs1, bi_repr, ag_n, ag_nil, ag_cons, up_l, up_t, sq_l, sq_t, ln_l, ln_t, rg_1, rg_2, en_l, zp_l, zp_t, sb_l, sb_t, ra_eq, rd_mk, st_mk, wp_mk, bk_mk, ls_mk, nl_mk, bn_mk, bl_mk, no_mk, ss_mk, is_mk, sS_mk, pS_mk, aS_mk, sv_scr, sv_v, sv_f, sr_l, sr_t, rr_l, evE_lstx, evE_dsp, evE_idx, evE_dcomp, evS_ext, ex_l, evS_augI, evXs_nil, evXs_cons, evXs_star, eS_mk, gI_mk, ke_i, ke_s, sl_fd, b_shl, b_shr, b_and, bi_min3, sortR_ints, sortRR_ints, ai_nil, ai_cons, allInts_map, evE_imax, evE_slb, evE_sla, rr_t, slb_t, sla_l, im_mk, bi_sortedT, bi_lenSet, bi_sortSet, Int.reduceLE, Int.reduceLT, Int.reduceToNat, Int.reducePow, Nat.reduceLT, Nat.reduceLeDiff, Nat.reducePow, Int.reduceNeg, Int.reduceAbs, small_lit, at_0, at_1, at_2, decide_true, decide_false, gt_iff_lt, ge_iff_le, eq_self, Bool.not_eq_true, if_pos h'])
        unfold dlO
        rw [e2, List.find?_cons_of_pos h]
        rfl
      · have h' := h
        unfold isE at h'
        rw [Bool.and_eq_true, decide_eq_true_eq, decide_eq_true_eq] at h'
        (try simp only [W_cons, W_nil, kS_nx, kS_rt, kS_bk, oQ_nx, oQ_rt, W_some, W_bind, W_map, W_guard, W_guardB, evE_comp, evS_for, evS_while, evS_mkdr, evE_var, evE_con, evE_bin, evE_neg, evE_not_, evE_cmp, evE_chain, evE_and_, evE_or_, evE_ite, evE_tup, evE_lst, evE_sub, evE_subv, evE_slice, evE_rev, evE_lenv, evE_nilv, evE_inv, evE_call, evE_bi, evE_rngl, evE_isi, evE_pop0, evE_pop1, evS_set, evS_unp, evS_par, evS_stsub, evS_app, evS_drop, evS_if_, evS_ret, evS_retN, evS_brk, evS_pass, evS_undr, evEs, evPs, evO, evI, evT, startG, List.map_cons, List.map_nil, List.set_cons_zero, List.set_cons_succ, List.getElem?_cons_zero, List.getElem?_cons_succ, List.length_cons, List.length_nil, List.cons_append, List.nil_append, List.replicate_succ, List.replicate_zero, Nat.reduceAdd, Nat.reduceSub, cmpD_ii_eq, cmpD_ii_ne, cmpD_ii_lt, cmpD_ii_le, cmpD_ii_gt, cmpD_ii_ge, cmpD_bb_eq, cmpD_bb_ne, List.all_cons, List.all_nil, List.any_cons, List.any_nil, Bool.or_false, Bool.or_true, Bool.true_or, Bool.false_or, Bool.and_true, Bool.true_and, Bool.and_self, isTy, wipeG, backG, Option.bind_some, Option.map_some, Bool.not_true, Bool.not_false, ite_true, ite_false, if_true, if_false, true_and, and_true, Bool.false_eq_true, evI_seq, List.isEmpty_nil, List.isEmpty_cons, List.length_map, decide_eq_true_eq, Bool.and_eq_true, b_add, b_sub, b_mul, b_div, b_mod, b_pow, b_addL, b_addT, b_mulL, sl_v, sl_f, sl_dr, sl_scr, ar_v, ar_f, ar_dr, ar_scr, rv_v, rv_f, as_i, as_b, da_nil, da_cons, sa_nil, sa_cons, bi_len, bi_max2, bi_min2, bi_maxL, bi_minL, bi_sumL, bi_allL, bi_anyL, bi_sorted, bi_sortedR, bi_listL, bi_listT, bi_tupL, bi_tupT, bi_int1, bi_int1b, bi_abs1, bi_repr, ag_n, ag_nil, ag_cons, up_l, up_t, sq_l, sq_t, ln_l, ln_t, rg_1, rg_2, en_l, zp_l, zp_t, sb_l, sb_t, ra_eq, rd_mk, st_mk, wp_mk, bk_mk, ls_mk, nl_mk, bn_mk, bl_mk, no_mk, ss_mk, is_mk, sS_mk, pS_mk, aS_mk, sv_scr, sv_v, sv_f, sr_l, sr_t, rr_l, evE_lstx, evE_dsp, evE_idx, evE_dcomp, evS_ext, ex_l, evS_augI, evXs_nil, evXs_cons, evXs_star, eS_mk, gI_mk, ke_i, ke_s, sl_fd, b_shl, b_shr, b_and, bi_min3, sortR_ints, sortRR_ints, ai_nil, ai_cons, allInts_map, evE_imax, evE_slb, evE_sla, rr_t, slb_t, sla_l, im_mk, bi_sortedT, bi_lenSet, bi_sortSet, Int.reduceLE, Int.reduceLT, Int.reduceToNat, Int.reducePow, Nat.reduceLT, Nat.reduceLeDiff, Nat.reducePow, Int.reduceNeg, Int.reduceAbs, small_lit, at_0, at_1, at_2, decide_true, decide_false, gt_iff_lt, ge_iff_le, eq_self, Bool.not_eq_true, if_neg h'])
        exact ⟨r, _, _, _, rfl, by rw [e2, List.find?_cons_of_neg h], rfl⟩
  · rintro s ⟨r, x1, x2, x3, e1, e2, rfl⟩
    cases r with
    | cons e r => cases e1
    | nil =>
      (try simp only [W_cons, W_nil, kS_nx, kS_rt, kS_bk, oQ_nx, oQ_rt, W_some, W_bind, W_map, W_guard, W_guardB, evE_comp, evS_for, evS_while, evS_mkdr, evE_var, evE_con, evE_bin, evE_neg, evE_not_, evE_cmp, evE_chain, evE_and_, evE_or_, evE_ite, evE_tup, evE_lst, evE_sub, evE_subv, evE_slice, evE_rev, evE_lenv, evE_nilv, evE_inv, evE_call, evE_bi, evE_rngl, evE_isi, evE_pop0, evE_pop1, evS_set, evS_unp, evS_par, evS_stsub, evS_app, evS_drop, evS_if_, evS_ret, evS_retN, evS_brk, evS_pass, evS_undr, evEs, evPs, evO, evI, evT, startG, List.map_cons, List.map_nil, List.set_cons_zero, List.set_cons_succ, List.getElem?_cons_zero, List.getElem?_cons_succ, List.length_cons, List.length_nil, List.cons_append, List.nil_append, List.replicate_succ, List.replicate_zero, Nat.reduceAdd, Nat.reduceSub, cmpD_ii_eq, cmpD_ii_ne, cmpD_ii_lt, cmpD_ii_le, cmpD_ii_gt, cmpD_ii_ge, cmpD_bb_eq, cmpD_bb_ne, List.all_cons, List.all_nil, List.any_cons, List.any_nil, Bool.or_false, Bool.or_true, Bool.true_or, Bool.false_or, Bool.and_true, Bool.true_and, Bool.and_self, isTy, wipeG, backG, Option.bind_some, Option.map_some, Bool.not_true, Bool.not_false, ite_true, ite_false, if_true, if_false, true_and, and_true, Bool.false_eq_true, evI_seq, List.isEmpty_nil, List.isEmpty_cons, List.length_map, decide_eq_true_eq, Bool.and_eq_true, b_add, b_sub, b_mul, b_div, b_mod, b_pow, b_addL, b_addT, b_mulL, sl_v, sl_f, sl_dr, sl_scr, ar_v, ar_f, ar_dr, ar_scr, rv_v, rv_f, as_i, as_b, da_nil, da_cons, sa_nil, sa_cons, bi_len, bi_max2, bi_min2, bi_maxL, bi_minL, bi_sumL, bi_allL, bi_anyL, bi_sorted, bi_sortedR, bi_listL, bi_listT, bi_tupL, bi_tupT, bi_int1, bi_int1b, bi_abs1, bi_repr, ag_n, ag_nil, ag_cons, up_l, up_t, sq_l, sq_t, ln_l, ln_t, rg_1, rg_2, en_l, zp_l, zp_t, sb_l, sb_t, ra_eq, rd_mk, st_mk, wp_mk, bk_mk, ls_mk, nl_mk, bn_mk, bl_mk, no_mk, ss_mk, is_mk, sS_mk, pS_mk, aS_mk, sv_scr, sv_v, sv_f, sr_l, sr_t, rr_l, evE_lstx, evE_dsp, evE_idx, evE_dcomp, evS_ext, ex_l, evS_augI, evXs_nil, evXs_cons, evXs_star, eS_mk, gI_mk, ke_i, ke_s, sl_fd, b_shl, b_shr, b_and, bi_min3, sortR_ints, sortRR_ints, ai_nil, ai_cons, allInts_map, evE_imax, evE_slb, evE_sla, rr_t, slb_t, sla_l, im_mk, bi_sortedT, bi_lenSet, bi_sortSet, Int.reduceLE, Int.reduceLT, Int.reduceToNat, Int.reducePow, Nat.reduceLT, Nat.reduceLeDiff, Nat.reducePow, Int.reduceNeg, Int.reduceAbs, small_lit, at_0, at_1, at_2, decide_true, decide_false, gt_iff_lt, ge_iff_le, eq_self, Bool.not_eq_true])
      unfold dlO
      rw [e2]
      rfl
theorem ed_short : ∀ (es : List E3), (∀ e ∈ es, e.1.natAbs < 10 ^ 12 ∧ e.2.1.natAbs < 10 ^ 12 ∧ e.2.2.natAbs < 10 ^ 12) → PyData.leavesShortAll 13 (es.map edD) = true ∧ PyData.showableAll (es.map edD) = true ∧ PyData.bulkAll (es.map edD) = 4 * es.length ∧ PyData.depthAll (es.map edD) ≤ 1
  | [], _ => ⟨rfl, rfl, rfl, by decide⟩
  | e :: r, h => by
    obtain ⟨h1, h2, h3, h4⟩ := ed_short r fun x hx => h x (List.mem_cons_of_mem _ hx)
    obtain ⟨a1, a2, a3⟩ := h e (List.mem_cons_self ..)
    have sh : ∀ {z : Int}, z.natAbs < 10 ^ 12 → z.natAbs.log2 < 1920 := fun {z} hz => by
      by_cases q : z.natAbs = 0
      · rw [q]; decide
      · exact (Nat.log2_lt q).mpr (Nat.lt_trans hz (by decide))
    rw [List.map_cons]
    refine ⟨?_, ?_, ?_, ?_⟩
    · simp only [PyData.leavesShortAll, edD, PyData.leavesShort, h1, Bool.and_true, Bool.and_eq_true, decide_eq_true_eq]
      exact ⟨PyData.shown_int_le a1, PyData.shown_int_le a2, PyData.shown_int_le a3⟩
    · simp only [PyData.showableAll, edD, PyData.showable, h2, Bool.and_true, Bool.and_eq_true, decide_eq_true_eq]
      exact ⟨sh a1, sh a2, sh a3⟩
    · simp only [PyData.bulkAll, edD, PyData.bulk, h3, List.length_cons]
      omega
    · simp only [PyData.depthAll, edD, PyData.depth]
      omega
theorem tree_shown {n : Int} {es : List E3} (hn : n.natAbs < 10 ^ 12) (he : ∀ e ∈ es, e.1.natAbs < 10 ^ 12 ∧ e.2.1.natAbs < 10 ^ 12 ∧ e.2.2.natAbs < 10 ^ 12) (hl : es.length < 1000) : (treeD n es).showable = true ∧ (treeD n es).shown.length ≤ 1000000 ∧ (treeD n es).depth ≤ 40 := by
  obtain ⟨h1, h2, h3, h4⟩ := ed_short es he
  have sh : n.natAbs.log2 < 1920 := by
    by_cases q : n.natAbs = 0
    · rw [q]; decide
    · exact (Nat.log2_lt q).mpr (Nat.lt_trans hn (by decide))
  refine ⟨?_, ?_, ?_⟩
  · simp only [treeD, PyData.showable, PyData.showableAll, h2, Bool.and_true, decide_eq_true_eq]
    exact sh
  · have z := PyData.shown_le_bulk 13 (by decide) (treeD n es) (by
      simp only [treeD, PyData.leavesShort, PyData.leavesShortAll, h1, Bool.and_true, decide_eq_true_eq]
      exact PyData.shown_int_le hn)
    have w : (treeD n es).bulk = 4 * es.length + 2 := by
      simp only [treeD, PyData.bulk, PyData.bulkAll, h3]
      omega
    rw [w] at z
    omega
  · simp only [treeD, PyData.depth, PyData.depthAll]
    omega
theorem Gr.bounds {vs : List Int} {es : List E3} (g : Gr vs es) : vs.length = es.length + 1 ∧ ∀ e ∈ es, e.1 ∈ vs ∧ e.2.1 ∈ vs ∧ e.1 < e.2.1 ∧ 1 ≤ e.2.2 ∧ e.2.2 ≤ 1000000000 := by
  induction g with
  | one v => exact ⟨rfl, fun e h => nomatch h⟩
  | leaf g hu hw h1 h2 ih =>
    rename_i vs es u w d
    obtain ⟨i1, i2⟩ := ih
    refine ⟨by simp only [List.length_append, List.length_cons, List.length_nil]; omega, fun e he => ?_⟩
    rcases List.mem_append.mp he with h | h
    · obtain ⟨a1, a2, a3⟩ := i2 e h
      exact ⟨List.mem_append_left _ a1, List.mem_append_left _ a2, a3⟩
    · rw [List.mem_singleton] at h
      subst h
      have ne : w ≠ u := fun e => hw (e ▸ hu)
      have mw : w ∈ vs ++ [w] := List.mem_append_right _ (List.mem_singleton.mpr rfl)
      have mu : u ∈ vs ++ [w] := List.mem_append_left _ hu
      unfold nrm
      simp only
      by_cases q : u < w
      · rw [if_pos q, if_neg (by omega)]
        exact ⟨mu, mw, q, h1, h2⟩
      · rw [if_neg q, if_pos (by omega)]
        exact ⟨mw, mu, by omega, h1, h2⟩
theorem IsTr.bounds {n : Nat} {es : List E3} (t : IsTr n es) : n = es.length + 1 ∧ ∀ e ∈ es, 0 ≤ e.1 ∧ e.1 < e.2.1 ∧ e.2.1 < n ∧ 1 ≤ e.2.2 ∧ e.2.2 ≤ 1000000000 := by
  obtain ⟨vs, es', g, p, rfl⟩ := t
  obtain ⟨h1, h2⟩ := g.bounds
  have h3 := p.length_eq
  rw [rngI_len] at h3
  refine ⟨by rw [(sortE_perm es').length_eq]; omega, fun e he => ?_⟩
  obtain ⟨a1, a2, a3, a4, a5⟩ := h2 e ((sortE_perm es').mem_iff.mp he)
  have b1 := rngI_mem.mp (p.mem_iff.mp a1)
  have b2 := rngI_mem.mp (p.mem_iff.mp a2)
  exact ⟨b1.1, a3, b2.2, a4, a5⟩
theorem IsTr.shown {n : Nat} {es : List E3} (t : IsTr n es) (hn : n < 1000) : (treeD (n : Nat) es).showable = true ∧ (treeD (n : Nat) es).shown.length ≤ 1000000 ∧ (treeD (n : Nat) es).depth ≤ 40 := by
  obtain ⟨h1, h2⟩ := t.bounds
  refine tree_shown (by omega) (fun e he => ?_) (by omega)
  have := h2 e he
  omega
end Tl

namespace Tl
open PySem
variable {tf : List Fn} {fu k i : Nat}
theorem flat_one {α β : Type} (f : α → β) : ∀ l : List α, (l.flatMap fun e => [f e]) = l.map f
  | [] => rfl
  | a :: r => by rw [List.flatMap_cons, List.map_cons, flat_one f r]; rfl
theorem nb_len' (es : List E3) (v : Int) : (nb es v).length ≤ 2 * es.length := by
  have k1 := flat_le (fun e : E3 => if e.1 = v then [e.2.1] else []) (fun _ => if1) es
  have k2 := flat_le (fun e : E3 => if e.2.1 = v then [e.1] else []) (fun _ => if1) es
  unfold nb
  rw [(sortI_perm _).length_eq]
  unfold nbL
  rw [List.length_append]
  omega
theorem leastT_W {ks : List Int} {S : Option DS} (hf : tf[i]? = some ⟨1, 3, bLeastT⟩) (hk : 0 < k) (hl : ks.length < LIM) : W (callF tf fu k i [.v (.list (ks.map .int))] S) fun p => p = (.v (.int (lst ks)), S) := by
  obtain ⟨k, rfl⟩ : ∃ j, k = j + 1 := ⟨k - 1, by omega⟩
  refine W_call hf rfl ?_
  unfold bLeastT
  (try simp only [W_cons, W_nil, kS_nx, kS_rt, kS_bk, oQ_nx, oQ_rt, W_some, W_bind, W_map, W_guard, W_guardB, evE_comp, evS_for, evS_while, evS_mkdr, evE_var, evE_con, evE_bin, evE_neg, evE_not_, evE_cmp, evE_chain, evE_and_, evE_or_, evE_ite, evE_tup, evE_lst, evE_sub, evE_subv, evE_slice, evE_rev, evE_lenv, evE_nilv, evE_inv, evE_call, evE_bi, evE_rngl, evE_isi, evE_pop0, evE_pop1, evS_set, evS_unp, evS_par, evS_stsub, evS_app, evS_drop, evS_if_, evS_ret, evS_retN, evS_brk, evS_pass, evS_undr, evEs, evPs, evO, evI, evT, startG, List.map_cons, List.map_nil, List.set_cons_zero, List.set_cons_succ, List.getElem?_cons_zero, List.getElem?_cons_succ, List.length_cons, List.length_nil, List.cons_append, List.nil_append, List.replicate_succ, List.replicate_zero, Nat.reduceAdd, Nat.reduceSub, cmpD_ii_eq, cmpD_ii_ne, cmpD_ii_lt, cmpD_ii_le, cmpD_ii_gt, cmpD_ii_ge, cmpD_bb_eq, cmpD_bb_ne, List.all_cons, List.all_nil, List.any_cons, List.any_nil, Bool.or_false, Bool.or_true, Bool.true_or, Bool.false_or, Bool.and_true, Bool.true_and, Bool.and_self, isTy, wipeG, backG, Option.bind_some, Option.map_some, Bool.not_true, Bool.not_false, ite_true, ite_false, if_true, if_false, true_and, and_true, Bool.false_eq_true, evI_seq, List.isEmpty_nil, List.isEmpty_cons, List.length_map, decide_eq_true_eq, Bool.and_eq_true, b_add, b_sub, b_mul, b_div, b_mod, b_pow, b_addL, b_addT, b_mulL, sl_v, sl_f, sl_dr, sl_scr, ar_v, ar_f, ar_dr, ar_scr, rv_v, rv_f, as_i, as_b, da_nil, da_cons, sa_nil, sa_cons, bi_len, bi_max2, bi_min2, bi_maxL, bi_minL, bi_sumL, bi_allL, bi_anyL, bi_sorted, bi_sortedR, bi_listL, bi_listT, bi_tupL, bi_tupT, bi_int1, bi_int1b, bi_abs1, bi_repr, ag_n, ag_nil, ag_cons, up_l, up_t, sq_l, sq_t, ln_l, ln_t, rg_1, rg_2, en_l, zp_l, zp_t, sb_l, sb_t, ra_eq, rd_mk, st_mk, wp_mk, bk_mk, ls_mk, nl_mk, bn_mk, bl_mk, no_mk, ss_mk, is_mk, sS_mk, pS_mk, aS_mk, sv_scr, sv_v, sv_f, sr_l, sr_t, rr_l, evE_lstx, evE_dsp, evE_idx, evE_dcomp, evS_ext, ex_l, evS_augI, evXs_nil, evXs_cons, evXs_star, eS_mk, gI_mk, ke_i, ke_s, sl_fd, b_shl, b_shr, b_and, bi_min3, sortR_ints, sortRR_ints, ai_nil, ai_cons, allInts_map, evE_imax, evE_slb, evE_sla, rr_t, slb_t, sla_l, im_mk, bi_sortedT, bi_lenSet, bi_sortSet, Int.reduceLE, Int.reduceLT, Int.reduceToNat, Int.reducePow, Nat.reduceLT, Nat.reduceLeDiff, Nat.reducePow, Int.reduceNeg, Int.reduceAbs, small_lit, at_0, at_1, at_2, decide_true, decide_false, gt_iff_lt, ge_iff_le, eq_self, Bool.not_eq_true, allInts_map])
  have e0 : (sortI ks).length = ks.length := (sortI_perm ks).length_eq
  refine ⟨?_, ?_⟩
  · rw [enumD_len, List.length_map, List.length_reverse, e0]
    exact decide_eq_true (by omega)
  refine W_compLoop (fun rest acc s => ∃ (n : Nat) (r ms : List Int) (x y : Slot), rest = enumD n (r.map .int) ∧ acc = ms.map .int ∧ ms ++ addIx n r = addIx 0 (sortI ks).reverse ∧ ms.length + r.length = ks.length ∧ s = ⟨[.v (.list (ks.map .int)), x, y], S⟩) ?_ ?_ ⟨0, _, [], _, _, rfl, rfl, rfl, by rw [List.length_reverse, e0]; simp, rfl⟩
  · rintro x rest acc s ⟨n, r, ms, x1, x2, e1, rfl, e3, e4, rfl⟩
    cases r with
    | nil => cases e1
    | cons a r =>
      rw [List.map_cons, enumD] at e1
      cases e1
      unfold cStep
      (try simp only [W_cons, W_nil, kS_nx, kS_rt, kS_bk, oQ_nx, oQ_rt, W_some, W_bind, W_map, W_guard, W_guardB, evE_comp, evS_for, evS_while, evS_mkdr, evE_var, evE_con, evE_bin, evE_neg, evE_not_, evE_cmp, evE_chain, evE_and_, evE_or_, evE_ite, evE_tup, evE_lst, evE_sub, evE_subv, evE_slice, evE_rev, evE_lenv, evE_nilv, evE_inv, evE_call, evE_bi, evE_rngl, evE_isi, evE_pop0, evE_pop1, evS_set, evS_unp, evS_par, evS_stsub, evS_app, evS_drop, evS_if_, evS_ret, evS_retN, evS_brk, evS_pass, evS_undr, evEs, evPs, evO, evI, evT, startG, List.map_cons, List.map_nil, List.set_cons_zero, List.set_cons_succ, List.getElem?_cons_zero, List.getElem?_cons_succ, List.length_cons, List.length_nil, List.cons_append, List.nil_append, List.replicate_succ, List.replicate_zero, Nat.reduceAdd, Nat.reduceSub, cmpD_ii_eq, cmpD_ii_ne, cmpD_ii_lt, cmpD_ii_le, cmpD_ii_gt, cmpD_ii_ge, cmpD_bb_eq, cmpD_bb_ne, List.all_cons, List.all_nil, List.any_cons, List.any_nil, Bool.or_false, Bool.or_true, Bool.true_or, Bool.false_or, Bool.and_true, Bool.true_and, Bool.and_self, isTy, wipeG, backG, Option.bind_some, Option.map_some, Bool.not_true, Bool.not_false, ite_true, ite_false, if_true, if_false, true_and, and_true, Bool.false_eq_true, evI_seq, List.isEmpty_nil, List.isEmpty_cons, List.length_map, decide_eq_true_eq, Bool.and_eq_true, b_add, b_sub, b_mul, b_div, b_mod, b_pow, b_addL, b_addT, b_mulL, sl_v, sl_f, sl_dr, sl_scr, ar_v, ar_f, ar_dr, ar_scr, rv_v, rv_f, as_i, as_b, da_nil, da_cons, sa_nil, sa_cons, bi_len, bi_max2, bi_min2, bi_maxL, bi_minL, bi_sumL, bi_allL, bi_anyL, bi_sorted, bi_sortedR, bi_listL, bi_listT, bi_tupL, bi_tupT, bi_int1, bi_int1b, bi_abs1, bi_repr, ag_n, ag_nil, ag_cons, up_l, up_t, sq_l, sq_t, ln_l, ln_t, rg_1, rg_2, en_l, zp_l, zp_t, sb_l, sb_t, ra_eq, rd_mk, st_mk, wp_mk, bk_mk, ls_mk, nl_mk, bn_mk, bl_mk, no_mk, ss_mk, is_mk, sS_mk, pS_mk, aS_mk, sv_scr, sv_v, sv_f, sr_l, sr_t, rr_l, evE_lstx, evE_dsp, evE_idx, evE_dcomp, evS_ext, ex_l, evS_augI, evXs_nil, evXs_cons, evXs_star, eS_mk, gI_mk, ke_i, ke_s, sl_fd, b_shl, b_shr, b_and, bi_min3, sortR_ints, sortRR_ints, ai_nil, ai_cons, allInts_map, evE_imax, evE_slb, evE_sla, rr_t, slb_t, sla_l, im_mk, bi_sortedT, bi_lenSet, bi_sortSet, Int.reduceLE, Int.reduceLT, Int.reduceToNat, Int.reducePow, Nat.reduceLT, Nat.reduceLeDiff, Nat.reducePow, Int.reduceNeg, Int.reduceAbs, small_lit, at_0, at_1, at_2, decide_true, decide_false, gt_iff_lt, ge_iff_le, eq_self, Bool.not_eq_true])
      refine ⟨n + 1, r, ms ++ [a + n], _, _, rfl, by rw [List.map_append]; rfl, ?_, ?_, rfl⟩
      · rw [← e3, addIx, List.append_assoc]
        rfl
      · rw [List.length_append]
        simp only [List.length_cons, List.length_nil] at e4 ⊢
        omega
  · rintro acc s ⟨n, r, ms, x1, x2, e1, rfl, e3, e4, rfl⟩
    cases r with
    | cons a r => cases e1
    | nil =>
      rw [addIx, List.append_nil] at e3
      subst e3
      (try simp only [W_cons, W_nil, kS_nx, kS_rt, kS_bk, oQ_nx, oQ_rt, W_some, W_bind, W_map, W_guard, W_guardB, evE_comp, evS_for, evS_while, evS_mkdr, evE_var, evE_con, evE_bin, evE_neg, evE_not_, evE_cmp, evE_chain, evE_and_, evE_or_, evE_ite, evE_tup, evE_lst, evE_sub, evE_subv, evE_slice, evE_rev, evE_lenv, evE_nilv, evE_inv, evE_call, evE_bi, evE_rngl, evE_isi, evE_pop0, evE_pop1, evS_set, evS_unp, evS_par, evS_stsub, evS_app, evS_drop, evS_if_, evS_ret, evS_retN, evS_brk, evS_pass, evS_undr, evEs, evPs, evO, evI, evT, startG, List.map_cons, List.map_nil, List.set_cons_zero, List.set_cons_succ, List.getElem?_cons_zero, List.getElem?_cons_succ, List.length_cons, List.length_nil, List.cons_append, List.nil_append, List.replicate_succ, List.replicate_zero, Nat.reduceAdd, Nat.reduceSub, cmpD_ii_eq, cmpD_ii_ne, cmpD_ii_lt, cmpD_ii_le, cmpD_ii_gt, cmpD_ii_ge, cmpD_bb_eq, cmpD_bb_ne, List.all_cons, List.all_nil, List.any_cons, List.any_nil, Bool.or_false, Bool.or_true, Bool.true_or, Bool.false_or, Bool.and_true, Bool.true_and, Bool.and_self, isTy, wipeG, backG, Option.bind_some, Option.map_some, Bool.not_true, Bool.not_false, ite_true, ite_false, if_true, if_false, true_and, and_true, Bool.false_eq_true, evI_seq, List.isEmpty_nil, List.isEmpty_cons, List.length_map, decide_eq_true_eq, Bool.and_eq_true, b_add, b_sub, b_mul, b_div, b_mod, b_pow, b_addL, b_addT, b_mulL, sl_v, sl_f, sl_dr, sl_scr, ar_v, ar_f, ar_dr, ar_scr, rv_v, rv_f, as_i, as_b, da_nil, da_cons, sa_nil, sa_cons, bi_len, bi_max2, bi_min2, bi_maxL, bi_minL, bi_sumL, bi_allL, bi_anyL, bi_sorted, bi_sortedR, bi_listL, bi_listT, bi_tupL, bi_tupT, bi_int1, bi_int1b, bi_abs1, bi_repr, ag_n, ag_nil, ag_cons, up_l, up_t, sq_l, sq_t, ln_l, ln_t, rg_1, rg_2, en_l, zp_l, zp_t, sb_l, sb_t, ra_eq, rd_mk, st_mk, wp_mk, bk_mk, ls_mk, nl_mk, bn_mk, bl_mk, no_mk, ss_mk, is_mk, sS_mk, pS_mk, aS_mk, sv_scr, sv_v, sv_f, sr_l, sr_t, rr_l, evE_lstx, evE_dsp, evE_idx, evE_dcomp, evS_ext, ex_l, evS_augI, evXs_nil, evXs_cons, evXs_star, eS_mk, gI_mk, ke_i, ke_s, sl_fd, b_shl, b_shr, b_and, bi_min3, sortR_ints, sortRR_ints, ai_nil, ai_cons, allInts_map, evE_imax, evE_slb, evE_sla, rr_t, slb_t, sla_l, im_mk, bi_sortedT, bi_lenSet, bi_sortSet, Int.reduceLE, Int.reduceLT, Int.reduceToNat, Int.reducePow, Nat.reduceLT, Nat.reduceLeDiff, Nat.reducePow, Int.reduceNeg, Int.reduceAbs, small_lit, at_0, at_1, at_2, decide_true, decide_false, gt_iff_lt, ge_iff_le, eq_self, Bool.not_eq_true])
      refine ⟨decide_eq_true ?_, ?_⟩
      · simp only [List.length_nil] at e4
        omega
      · rfl
def dl (es : List E3) (v u : Int) : Int := (dlO es v u).getD 0
def nbA (es : List E3) (v : Int) (aw : Option Int) : List Int := (nb es v).filter fun u => decide (some u ≠ aw)
def bn (es : List E3) : Nat → Int → Option Int → Int
  | 0, _, _ => 0
  | f + 1, v, aw => lst ((nbA es v aw).map fun u => dl es v u + bn es f u (some v))
def Ends (es : List E3) : Nat → Int → Option Int → Prop
  | 0, _, _ => False
  | f + 1, v, aw => ∀ u ∈ nbA es v aw, (∃ d, dlO es v u = some d) ∧ Ends es f u (some v)
theorem oD_some {d : Int} : oD (some d) = .int d := rfl
theorem cmp_aw {u : Int} {aw : Option Int} : cmpD .NotEq (.int u) (oD aw) = some (decide (some u ≠ aw)) := by
  cases aw with
  | none => simp [oD, cmpD, shp, SeqAt.shaped, PyData.canLay0, PyData.depth, PyData.eqv]
  | some a =>
    show some (!decide (u = a)) = _
    simp
theorem needs_W {n : Int} {es : List E3} {S : Option DS} {iN iD iL iK iB : Nat} (hN : tf[iN]? = some ⟨2, 6, bNbrs⟩) (hD : tf[iD]? = some ⟨3, 6, bBetween⟩) (hL : tf[iL]? = some ⟨1, 3, bLeastT⟩) (hK : tf[iK]? = some ⟨3, 5, bKeysAway iN iD iB⟩) (hB : tf[iB]? = some ⟨3, 5, bBranchNeed iL iK⟩) (hl : es.length < 1000) :
    ∀ (f : Nat) (v : Int) (aw : Option Int) (k : Nat), Ends es f v aw → 2 * f < k → W (callF tf fu k iB [.v (treeD n es), .v (.int v), .v (oD aw)] S) fun p => p = (.v (.int (bn es f v aw)), S)
  | 0, v, aw, k, h, _ => h.elim
  | f + 1, v, aw, k, h, hk => by
    obtain ⟨k, rfl⟩ : ∃ j, k = j + 1 + 1 := ⟨k - 2, by omega⟩
    refine W_call hB rfl ?_
    unfold bBranchNeed
    (try simp only [W_cons, W_nil, kS_nx, kS_rt, kS_bk, oQ_nx, oQ_rt, W_some, W_bind, W_map, W_guard, W_guardB, evE_comp, evS_for, evS_while, evS_mkdr, evE_var, evE_con, evE_bin, evE_neg, evE_not_, evE_cmp, evE_chain, evE_and_, evE_or_, evE_ite, evE_tup, evE_lst, evE_sub, evE_subv, evE_slice, evE_rev, evE_lenv, evE_nilv, evE_inv, evE_call, evE_bi, evE_rngl, evE_isi, evE_pop0, evE_pop1, evS_set, evS_unp, evS_par, evS_stsub, evS_app, evS_drop, evS_if_, evS_ret, evS_retN, evS_brk, evS_pass, evS_undr, evEs, evPs, evO, evI, evT, startG, List.map_cons, List.map_nil, List.set_cons_zero, List.set_cons_succ, List.getElem?_cons_zero, List.getElem?_cons_succ, List.length_cons, List.length_nil, List.cons_append, List.nil_append, List.replicate_succ, List.replicate_zero, Nat.reduceAdd, Nat.reduceSub, cmpD_ii_eq, cmpD_ii_ne, cmpD_ii_lt, cmpD_ii_le, cmpD_ii_gt, cmpD_ii_ge, cmpD_bb_eq, cmpD_bb_ne, List.all_cons, List.all_nil, List.any_cons, List.any_nil, Bool.or_false, Bool.or_true, Bool.true_or, Bool.false_or, Bool.and_true, Bool.true_and, Bool.and_self, isTy, wipeG, backG, Option.bind_some, Option.map_some, Bool.not_true, Bool.not_false, ite_true, ite_false, if_true, if_false, true_and, and_true, Bool.false_eq_true, evI_seq, List.isEmpty_nil, List.isEmpty_cons, List.length_map, decide_eq_true_eq, Bool.and_eq_true, b_add, b_sub, b_mul, b_div, b_mod, b_pow, b_addL, b_addT, b_mulL, sl_v, sl_f, sl_dr, sl_scr, ar_v, ar_f, ar_dr, ar_scr, rv_v, rv_f, as_i, as_b, da_nil, da_cons, sa_nil, sa_cons, bi_len, bi_max2, bi_min2, bi_maxL, bi_minL, bi_sumL, bi_allL, bi_anyL, bi_sorted, bi_sortedR, bi_listL, bi_listT, bi_tupL, bi_tupT, bi_int1, bi_int1b, bi_abs1, bi_repr, ag_n, ag_nil, ag_cons, up_l, up_t, sq_l, sq_t, ln_l, ln_t, rg_1, rg_2, en_l, zp_l, zp_t, sb_l, sb_t, ra_eq, rd_mk, st_mk, wp_mk, bk_mk, ls_mk, nl_mk, bn_mk, bl_mk, no_mk, ss_mk, is_mk, sS_mk, pS_mk, aS_mk, sv_scr, sv_v, sv_f, sr_l, sr_t, rr_l, evE_lstx, evE_dsp, evE_idx, evE_dcomp, evS_ext, ex_l, evS_augI, evXs_nil, evXs_cons, evXs_star, eS_mk, gI_mk, ke_i, ke_s, sl_fd, b_shl, b_shr, b_and, bi_min3, sortR_ints, sortRR_ints, ai_nil, ai_cons, allInts_map, evE_imax, evE_slb, evE_sla, rr_t, slb_t, sla_l, im_mk, bi_sortedT, bi_lenSet, bi_sortSet, Int.reduceLE, Int.reduceLT, Int.reduceToNat, Int.reducePow, Nat.reduceLT, Nat.reduceLeDiff, Nat.reducePow, Int.reduceNeg, Int.reduceAbs, small_lit, at_0, at_1, at_2, decide_true, decide_false, gt_iff_lt, ge_iff_le, eq_self, Bool.not_eq_true])
    refine W.mono (Q := fun p => p = (.v (.list ((nbA es v aw).map fun u => .tuple [.int (dl es v u + bn es f u (some v)), .int u])), S)) ?_ ?_
    · refine W_call hK rfl ?_
      unfold bKeysAway
      (try simp only [W_cons, W_nil, kS_nx, kS_rt, kS_bk, oQ_nx, oQ_rt, W_some, W_bind, W_map, W_guard, W_guardB, evE_comp, evS_for, evS_while, evS_mkdr, evE_var, evE_con, evE_bin, evE_neg, evE_not_, evE_cmp, evE_chain, evE_and_, evE_or_, evE_ite, evE_tup, evE_lst, evE_sub, evE_subv, evE_slice, evE_rev, evE_lenv, evE_nilv, evE_inv, evE_call, evE_bi, evE_rngl, evE_isi, evE_pop0, evE_pop1, evS_set, evS_unp, evS_par, evS_stsub, evS_app, evS_drop, evS_if_, evS_ret, evS_retN, evS_brk, evS_pass, evS_undr, evEs, evPs, evO, evI, evT, startG, List.map_cons, List.map_nil, List.set_cons_zero, List.set_cons_succ, List.getElem?_cons_zero, List.getElem?_cons_succ, List.length_cons, List.length_nil, List.cons_append, List.nil_append, List.replicate_succ, List.replicate_zero, Nat.reduceAdd, Nat.reduceSub, cmpD_ii_eq, cmpD_ii_ne, cmpD_ii_lt, cmpD_ii_le, cmpD_ii_gt, cmpD_ii_ge, cmpD_bb_eq, cmpD_bb_ne, List.all_cons, List.all_nil, List.any_cons, List.any_nil, Bool.or_false, Bool.or_true, Bool.true_or, Bool.false_or, Bool.and_true, Bool.true_and, Bool.and_self, isTy, wipeG, backG, Option.bind_some, Option.map_some, Bool.not_true, Bool.not_false, ite_true, ite_false, if_true, if_false, true_and, and_true, Bool.false_eq_true, evI_seq, List.isEmpty_nil, List.isEmpty_cons, List.length_map, decide_eq_true_eq, Bool.and_eq_true, b_add, b_sub, b_mul, b_div, b_mod, b_pow, b_addL, b_addT, b_mulL, sl_v, sl_f, sl_dr, sl_scr, ar_v, ar_f, ar_dr, ar_scr, rv_v, rv_f, as_i, as_b, da_nil, da_cons, sa_nil, sa_cons, bi_len, bi_max2, bi_min2, bi_maxL, bi_minL, bi_sumL, bi_allL, bi_anyL, bi_sorted, bi_sortedR, bi_listL, bi_listT, bi_tupL, bi_tupT, bi_int1, bi_int1b, bi_abs1, bi_repr, ag_n, ag_nil, ag_cons, up_l, up_t, sq_l, sq_t, ln_l, ln_t, rg_1, rg_2, en_l, zp_l, zp_t, sb_l, sb_t, ra_eq, rd_mk, st_mk, wp_mk, bk_mk, ls_mk, nl_mk, bn_mk, bl_mk, no_mk, ss_mk, is_mk, sS_mk, pS_mk, aS_mk, sv_scr, sv_v, sv_f, sr_l, sr_t, rr_l, evE_lstx, evE_dsp, evE_idx, evE_dcomp, evS_ext, ex_l, evS_augI, evXs_nil, evXs_cons, evXs_star, eS_mk, gI_mk, ke_i, ke_s, sl_fd, b_shl, b_shr, b_and, bi_min3, sortR_ints, sortRR_ints, ai_nil, ai_cons, allInts_map, evE_imax, evE_slb, evE_sla, rr_t, slb_t, sla_l, im_mk, bi_sortedT, bi_lenSet, bi_sortSet, Int.reduceLE, Int.reduceLT, Int.reduceToNat, Int.reducePow, Nat.reduceLT, Nat.reduceLeDiff, Nat.reducePow, Int.reduceNeg, Int.reduceAbs, small_lit, at_0, at_1, at_2, decide_true, decide_false, gt_iff_lt, ge_iff_le, eq_self, Bool.not_eq_true])
      refine (nbrs_W hN (by omega) (by omega)).mono ?_
      rintro _ rfl
      (try simp only [W_cons, W_nil, kS_nx, kS_rt, kS_bk, oQ_nx, oQ_rt, W_some, W_bind, W_map, W_guard, W_guardB, evE_comp, evS_for, evS_while, evS_mkdr, evE_var, evE_con, evE_bin, evE_neg, evE_not_, evE_cmp, evE_chain, evE_and_, evE_or_, evE_ite, evE_tup, evE_lst, evE_sub, evE_subv, evE_slice, evE_rev, evE_lenv, evE_nilv, evE_inv, evE_call, evE_bi, evE_rngl, evE_isi, evE_pop0, evE_pop1, evS_set, evS_unp, evS_par, evS_stsub, evS_app, evS_drop, evS_if_, evS_ret, evS_retN, evS_brk, evS_pass, evS_undr, evEs, evPs, evO, evI, evT, startG, List.map_cons, List.map_nil, List.set_cons_zero, List.set_cons_succ, List.getElem?_cons_zero, List.getElem?_cons_succ, List.length_cons, List.length_nil, List.cons_append, List.nil_append, List.replicate_succ, List.replicate_zero, Nat.reduceAdd, Nat.reduceSub, cmpD_ii_eq, cmpD_ii_ne, cmpD_ii_lt, cmpD_ii_le, cmpD_ii_gt, cmpD_ii_ge, cmpD_bb_eq, cmpD_bb_ne, List.all_cons, List.all_nil, List.any_cons, List.any_nil, Bool.or_false, Bool.or_true, Bool.true_or, Bool.false_or, Bool.and_true, Bool.true_and, Bool.and_self, isTy, wipeG, backG, Option.bind_some, Option.map_some, Bool.not_true, Bool.not_false, ite_true, ite_false, if_true, if_false, true_and, and_true, Bool.false_eq_true, evI_seq, List.isEmpty_nil, List.isEmpty_cons, List.length_map, decide_eq_true_eq, Bool.and_eq_true, b_add, b_sub, b_mul, b_div, b_mod, b_pow, b_addL, b_addT, b_mulL, sl_v, sl_f, sl_dr, sl_scr, ar_v, ar_f, ar_dr, ar_scr, rv_v, rv_f, as_i, as_b, da_nil, da_cons, sa_nil, sa_cons, bi_len, bi_max2, bi_min2, bi_maxL, bi_minL, bi_sumL, bi_allL, bi_anyL, bi_sorted, bi_sortedR, bi_listL, bi_listT, bi_tupL, bi_tupT, bi_int1, bi_int1b, bi_abs1, bi_repr, ag_n, ag_nil, ag_cons, up_l, up_t, sq_l, sq_t, ln_l, ln_t, rg_1, rg_2, en_l, zp_l, zp_t, sb_l, sb_t, ra_eq, rd_mk, st_mk, wp_mk, bk_mk, ls_mk, nl_mk, bn_mk, bl_mk, no_mk, ss_mk, is_mk, sS_mk, pS_mk, aS_mk, sv_scr, sv_v, sv_f, sr_l, sr_t, rr_l, evE_lstx, evE_dsp, evE_idx, evE_dcomp, evS_ext, ex_l, evS_augI, evXs_nil, evXs_cons, evXs_star, eS_mk, gI_mk, ke_i, ke_s, sl_fd, b_shl, b_shr, b_and, bi_min3, sortR_ints, sortRR_ints, ai_nil, ai_cons, allInts_map, evE_imax, evE_slb, evE_sla, rr_t, slb_t, sla_l, im_mk, bi_sortedT, bi_lenSet, bi_sortSet, Int.reduceLE, Int.reduceLT, Int.reduceToNat, Int.reducePow, Nat.reduceLT, Nat.reduceLeDiff, Nat.reducePow, Int.reduceNeg, Int.reduceAbs, small_lit, at_0, at_1, at_2, decide_true, decide_false, gt_iff_lt, ge_iff_le, eq_self, Bool.not_eq_true])
      refine W_for (fun rest s => ∃ (r ms : List Int) (x : Slot), rest = r.map .int ∧ (ms ++ r.filter fun u => decide (some u ≠ aw)) = nbA es v aw ∧ (∀ u ∈ r, u ∈ nb es v) ∧ ms.length + r.length ≤ (nb es v).length ∧ s = ⟨[.v (treeD n es), .v (.int v), .v (oD aw), .own (ms.map fun u => .tuple [.int (dl es v u + bn es f u (some v)), .int u]), x], S⟩) ?_ ?_ ⟨nb es v, [], _, rfl, rfl, fun _ h => h, by simp, rfl⟩
      · rintro x rest s ⟨r, ms, x1, e1, e2, e3, e4, rfl⟩
        cases r with
        | nil => cases e1
        | cons u r =>
          rw [List.map_cons] at e1
          cases e1
          rw [List.filter_cons] at e2
          rw [List.length_cons] at e4
          have nl := nb_len' es v
          unfold fStep
          (try simp only [W_cons, W_nil, kS_nx, kS_rt, kS_bk, oQ_nx, oQ_rt, W_some, W_bind, W_map, W_guard, W_guardB, evE_comp, evS_for, evS_while, evS_mkdr, evE_var, evE_con, evE_bin, evE_neg, evE_not_, evE_cmp, evE_chain, evE_and_, evE_or_, evE_ite, evE_tup, evE_lst, evE_sub, evE_subv, evE_slice, evE_rev, evE_lenv, evE_nilv, evE_inv, evE_call, evE_bi, evE_rngl, evE_isi, evE_pop0, evE_pop1, evS_set, evS_unp, evS_par, evS_stsub, evS_app, evS_drop, evS_if_, evS_ret, evS_retN, evS_brk, evS_pass, evS_undr, evEs, evPs, evO, evI, evT, startG, List.map_cons, List.map_nil, List.set_cons_zero, List.set_cons_succ, List.getElem?_cons_zero, List.getElem?_cons_succ, List.length_cons, List.length_nil, List.cons_append, List.nil_append, List.replicate_succ, List.replicate_zero, Nat.reduceAdd, Nat.reduceSub, cmpD_ii_eq, cmpD_ii_ne, cmpD_ii_lt, cmpD_ii_le, cmpD_ii_gt, cmpD_ii_ge, cmpD_bb_eq, cmpD_bb_ne, List.all_cons, List.all_nil, List.any_cons, List.any_nil, Bool.or_false, Bool.or_true, Bool.true_or, Bool.false_or, Bool.and_true, Bool.true_and, Bool.and_self, isTy, wipeG, backG, Option.bind_some, Option.map_some, Bool.not_true, Bool.not_false, ite_true, ite_false, if_true, if_false, true_and, and_true, Bool.false_eq_true, evI_seq, List.isEmpty_nil, List.isEmpty_cons, List.length_map, decide_eq_true_eq, Bool.and_eq_true, b_add, b_sub, b_mul, b_div, b_mod, b_pow, b_addL, b_addT, b_mulL, sl_v, sl_f, sl_dr, sl_scr, ar_v, ar_f, ar_dr, ar_scr, rv_v, rv_f, as_i, as_b, da_nil, da_cons, sa_nil, sa_cons, bi_len, bi_max2, bi_min2, bi_maxL, bi_minL, bi_sumL, bi_allL, bi_anyL, bi_sorted, bi_sortedR, bi_listL, bi_listT, bi_tupL, bi_tupT, bi_int1, bi_int1b, bi_abs1, bi_repr, ag_n, ag_nil, ag_cons, up_l, up_t, sq_l, sq_t, ln_l, ln_t, rg_1, rg_2, en_l, zp_l, zp_t, sb_l, sb_t, ra_eq, rd_mk, st_mk, wp_mk, bk_mk, ls_mk, nl_mk, bn_mk, bl_mk, no_mk, ss_mk, is_mk, sS_mk, pS_mk, aS_mk, sv_scr, sv_v, sv_f, sr_l, sr_t, rr_l, evE_lstx, evE_dsp, evE_idx, evE_dcomp, evS_ext, ex_l, evS_augI, evXs_nil, evXs_cons, evXs_star, eS_mk, gI_mk, ke_i, ke_s, sl_fd, b_shl, b_shr, b_and, bi_min3, sortR_ints, sortRR_ints, ai_nil, ai_cons, allInts_map, evE_imax, evE_slb, evE_sla, rr_t, slb_t, sla_l, im_mk, bi_sortedT, bi_lenSet, bi_sortSet, Int.reduceLE, Int.reduceLT, Int.reduceToNat, Int.reducePow, Nat.reduceLT, Nat.reduceLeDiff, Nat.reducePow, Int.reduceNeg, Int.reduceAbs, small_lit, at_0, at_1, at_2, decide_true, decide_false, gt_iff_lt, ge_iff_le, eq_self, Bool.not_eq_true, cmp_aw])
          by_cases hu : some u ≠ aw
          · rw [if_pos (decide_eq_true hu)] at e2
            have hm : u ∈ nbA es v aw := List.mem_filter.mpr ⟨e3 u (List.mem_cons_self ..), decide_eq_true hu⟩
            obtain ⟨⟨d, hd⟩, he⟩ := h u hm
            (try simp only [W_cons, W_nil, kS_nx, kS_rt, kS_bk, oQ_nx, oQ_rt, W_some, W_bind, W_map, W_guard, W_guardB, evE_comp, evS_for, evS_while, evS_mkdr, evE_var, evE_con, evE_bin, evE_neg, evE_not_, evE_cmp, evE_chain, evE_and_, evE_or_, evE_ite, evE_tup, evE_lst, evE_sub, evE_subv, evE_slice, evE_rev, evE_lenv, evE_nilv, evE_inv, evE_call, evE_bi, evE_rngl, evE_isi, evE_pop0, evE_pop1, evS_set, evS_unp, evS_par, evS_stsub, evS_app, evS_drop, evS_if_, evS_ret, evS_retN, evS_brk, evS_pass, evS_undr, evEs, evPs, evO, evI, evT, startG, List.map_cons, List.map_nil, List.set_cons_zero, List.set_cons_succ, List.getElem?_cons_zero, List.getElem?_cons_succ, List.length_cons, List.length_nil, List.cons_append, List.nil_append, List.replicate_succ, List.replicate_zero, Nat.reduceAdd, Nat.reduceSub, cmpD_ii_eq, cmpD_ii_ne, cmpD_ii_lt, cmpD_ii_le, cmpD_ii_gt, cmpD_ii_ge, cmpD_bb_eq, cmpD_bb_ne, List.all_cons, List.all_nil, List.any_cons, List.any_nil, Bool.or_false, Bool.or_true, Bool.true_or, Bool.false_or, Bool.and_true, Bool.true_and, Bool.and_self, isTy, wipeG, backG, Option.bind_some, Option.map_some, Bool.not_true, Bool.not_false, ite_true, ite_false, if_true, if_false, true_and, and_true, Bool.false_eq_true, evI_seq, List.isEmpty_nil, List.isEmpty_cons, List.length_map, decide_eq_true_eq, Bool.and_eq_true, b_add, b_sub, b_mul, b_div, b_mod, b_pow, b_addL, b_addT, b_mulL, sl_v, sl_f, sl_dr, sl_scr, ar_v, ar_f, ar_dr, ar_scr, rv_v, rv_f, as_i, as_b, da_nil, da_cons, sa_nil, sa_cons, bi_len, bi_max2, bi_min2, bi_maxL, bi_minL, bi_sumL, bi_allL, bi_anyL, bi_sorted, bi_sortedR, bi_listL, bi_listT, bi_tupL, bi_tupT, bi_int1, bi_int1b, bi_abs1, bi_repr, ag_n, ag_nil, ag_cons, up_l, up_t, sq_l, sq_t, ln_l, ln_t, rg_1, rg_2, en_l, zp_l, zp_t, sb_l, sb_t, ra_eq, rd_mk, st_mk, wp_mk, bk_mk, ls_mk, nl_mk, bn_mk, bl_mk, no_mk, ss_mk, is_mk, sS_mk, pS_mk, aS_mk, sv_scr, sv_v, sv_f, sr_l, sr_t, rr_l, evE_lstx, evE_dsp, evE_idx, evE_dcomp, evS_ext, ex_l, evS_augI, evXs_nil, evXs_cons, evXs_star, eS_mk, gI_mk, ke_i, ke_s, sl_fd, b_shl, b_shr, b_and, bi_min3, sortR_ints, sortRR_ints, ai_nil, ai_cons, allInts_map, evE_imax, evE_slb, evE_sla, rr_t, slb_t, sla_l, im_mk, bi_sortedT, bi_lenSet, bi_sortSet, Int.reduceLE, Int.reduceLT, Int.reduceToNat, Int.reducePow, Nat.reduceLT, Nat.reduceLeDiff, Nat.reducePow, Int.reduceNeg, Int.reduceAbs, small_lit, at_0, at_1, at_2, decide_true, decide_false, gt_iff_lt, ge_iff_le, eq_self, Bool.not_eq_true, if_pos hu])
            refine (between_W hD (by omega)).mono ?_
            rintro _ rfl
            rw [hd]
            (try simp only [W_cons, W_nil, kS_nx, kS_rt, kS_bk, oQ_nx, oQ_rt, W_some, W_bind, W_map, W_guard, W_guardB, evE_comp, evS_for, evS_while, evS_mkdr, evE_var, evE_con, evE_bin, evE_neg, evE_not_, evE_cmp, evE_chain, evE_and_, evE_or_, evE_ite, evE_tup, evE_lst, evE_sub, evE_subv, evE_slice, evE_rev, evE_lenv, evE_nilv, evE_inv, evE_call, evE_bi, evE_rngl, evE_isi, evE_pop0, evE_pop1, evS_set, evS_unp, evS_par, evS_stsub, evS_app, evS_drop, evS_if_, evS_ret, evS_retN, evS_brk, evS_pass, evS_undr, evEs, evPs, evO, evI, evT, startG, List.map_cons, List.map_nil, List.set_cons_zero, List.set_cons_succ, List.getElem?_cons_zero, List.getElem?_cons_succ, List.length_cons, List.length_nil, List.cons_append, List.nil_append, List.replicate_succ, List.replicate_zero, Nat.reduceAdd, Nat.reduceSub, cmpD_ii_eq, cmpD_ii_ne, cmpD_ii_lt, cmpD_ii_le, cmpD_ii_gt, cmpD_ii_ge, cmpD_bb_eq, cmpD_bb_ne, List.all_cons, List.all_nil, List.any_cons, List.any_nil, Bool.or_false, Bool.or_true, Bool.true_or, Bool.false_or, Bool.and_true, Bool.true_and, Bool.and_self, isTy, wipeG, backG, Option.bind_some, Option.map_some, Bool.not_true, Bool.not_false, ite_true, ite_false, if_true, if_false, true_and, and_true, Bool.false_eq_true, evI_seq, List.isEmpty_nil, List.isEmpty_cons, List.length_map, decide_eq_true_eq, Bool.and_eq_true, b_add, b_sub, b_mul, b_div, b_mod, b_pow, b_addL, b_addT, b_mulL, sl_v, sl_f, sl_dr, sl_scr, ar_v, ar_f, ar_dr, ar_scr, rv_v, rv_f, as_i, as_b, da_nil, da_cons, sa_nil, sa_cons, bi_len, bi_max2, bi_min2, bi_maxL, bi_minL, bi_sumL, bi_allL, bi_anyL, bi_sorted, bi_sortedR, bi_listL, bi_listT, bi_tupL, bi_tupT, bi_int1, bi_int1b, bi_abs1, bi_repr, ag_n, ag_nil, ag_cons, up_l, up_t, sq_l, sq_t, ln_l, ln_t, rg_1, rg_2, en_l, zp_l, zp_t, sb_l, sb_t, ra_eq, rd_mk, st_mk, wp_mk, bk_mk, ls_mk, nl_mk, bn_mk, bl_mk, no_mk, ss_mk, is_mk, sS_mk, pS_mk, aS_mk, sv_scr, sv_v, sv_f, sr_l, sr_t, rr_l, evE_lstx, evE_dsp, evE_idx, evE_dcomp, evS_ext, ex_l, evS_augI, evXs_nil, evXs_cons, evXs_star, eS_mk, gI_mk, ke_i, ke_s, sl_fd, b_shl, b_shr, b_and, bi_min3, sortR_ints, sortRR_ints, ai_nil, ai_cons, allInts_map, evE_imax, evE_slb, evE_sla, rr_t, slb_t, sla_l, im_mk, bi_sortedT, bi_lenSet, bi_sortSet, Int.reduceLE, Int.reduceLT, Int.reduceToNat, Int.reducePow, Nat.reduceLT, Nat.reduceLeDiff, Nat.reducePow, Int.reduceNeg, Int.reduceAbs, small_lit, at_0, at_1, at_2, decide_true, decide_false, gt_iff_lt, ge_iff_le, eq_self, Bool.not_eq_true, oD_some])
            refine W.mono (needs_W hN hD hL hK hB hl f u (some v) k he (by omega)) ?_
            rintro _ rfl
            (try simp only [W_cons, W_nil, kS_nx, kS_rt, kS_bk, oQ_nx, oQ_rt, W_some, W_bind, W_map, W_guard, W_guardB, evE_comp, evS_for, evS_while, evS_mkdr, evE_var, evE_con, evE_bin, evE_neg, evE_not_, evE_cmp, evE_chain, evE_and_, evE_or_, evE_ite, evE_tup, evE_lst, evE_sub, evE_subv, evE_slice, evE_rev, evE_lenv, evE_nilv, evE_inv, evE_call, evE_bi, evE_rngl, evE_isi, evE_pop0, evE_pop1, evS_set, evS_unp, evS_par, evS_stsub, evS_app, evS_drop, evS_if_, evS_ret, evS_retN, evS_brk, evS_pass, evS_undr, evEs, evPs, evO, evI, evT, startG, List.map_cons, List.map_nil, List.set_cons_zero, List.set_cons_succ, List.getElem?_cons_zero, List.getElem?_cons_succ, List.length_cons, List.length_nil, List.cons_append, List.nil_append, List.replicate_succ, List.replicate_zero, Nat.reduceAdd, Nat.reduceSub, cmpD_ii_eq, cmpD_ii_ne, cmpD_ii_lt, cmpD_ii_le, cmpD_ii_gt, cmpD_ii_ge, cmpD_bb_eq, cmpD_bb_ne, List.all_cons, List.all_nil, List.any_cons, List.any_nil, Bool.or_false, Bool.or_true, Bool.true_or, Bool.false_or, Bool.and_true, Bool.true_and, Bool.and_self, isTy, wipeG, backG, Option.bind_some, Option.map_some, Bool.not_true, Bool.not_false, ite_true, ite_false, if_true, if_false, true_and, and_true, Bool.false_eq_true, evI_seq, List.isEmpty_nil, List.isEmpty_cons, List.length_map, decide_eq_true_eq, Bool.and_eq_true, b_add, b_sub, b_mul, b_div, b_mod, b_pow, b_addL, b_addT, b_mulL, sl_v, sl_f, sl_dr, sl_scr, ar_v, ar_f, ar_dr, ar_scr, rv_v, rv_f, as_i, as_b, da_nil, da_cons, sa_nil, sa_cons, bi_len, bi_max2, bi_min2, bi_maxL, bi_minL, bi_sumL, bi_allL, bi_anyL, bi_sorted, bi_sortedR, bi_listL, bi_listT, bi_tupL, bi_tupT, bi_int1, bi_int1b, bi_abs1, bi_repr, ag_n, ag_nil, ag_cons, up_l, up_t, sq_l, sq_t, ln_l, ln_t, rg_1, rg_2, en_l, zp_l, zp_t, sb_l, sb_t, ra_eq, rd_mk, st_mk, wp_mk, bk_mk, ls_mk, nl_mk, bn_mk, bl_mk, no_mk, ss_mk, is_mk, sS_mk, pS_mk, aS_mk, sv_scr, sv_v, sv_f, sr_l, sr_t, rr_l, evE_lstx, evE_dsp, evE_idx, evE_dcomp, evS_ext, ex_l, evS_augI, evXs_nil, evXs_cons, evXs_star, eS_mk, gI_mk, ke_i, ke_s, sl_fd, b_shl, b_shr, b_and, bi_min3, sortR_ints, sortRR_ints, ai_nil, ai_cons, allInts_map, evE_imax, evE_slb, evE_sla, rr_t, slb_t, sla_l, im_mk, bi_sortedT, bi_lenSet, bi_sortSet, Int.reduceLE, Int.reduceLT, Int.reduceToNat, Int.reducePow, Nat.reduceLT, Nat.reduceLeDiff, Nat.reducePow, Int.reduceNeg, Int.reduceAbs, small_lit, at_0, at_1, at_2, decide_true, decide_false, gt_iff_lt, ge_iff_le, eq_self, Bool.not_eq_true])
            refine ⟨decide_eq_true (by unfold LIM; omega), r, ms ++ [u], .v (.int u), rfl, by rw [List.append_assoc]; exact e2, fun z hz => e3 z (List.mem_cons_of_mem _ hz), by rw [List.length_append]; simp only [List.length_cons, List.length_nil]; omega, ?_⟩
            rw [List.map_append]
            unfold dl
            rw [List.map_cons, hd]
            rfl
          · rw [if_neg (by simpa using hu)] at e2
            (try simp only [W_cons, W_nil, kS_nx, kS_rt, kS_bk, oQ_nx, oQ_rt, W_some, W_bind, W_map, W_guard, W_guardB, evE_comp, evS_for, evS_while, evS_mkdr, evE_var, evE_con, evE_bin, evE_neg, evE_not_, evE_cmp, evE_chain, evE_and_, evE_or_, evE_ite, evE_tup, evE_lst, evE_sub, evE_subv, evE_slice, evE_rev, evE_lenv, evE_nilv, evE_inv, evE_call, evE_bi, evE_rngl, evE_isi, evE_pop0, evE_pop1, evS_set, evS_unp, evS_par, evS_stsub, evS_app, evS_drop, evS_if_, evS_ret, evS_retN, evS_brk, evS_pass, evS_undr, evEs, evPs, evO, evI, evT, startG, List.map_cons, List.map_nil, List.set_cons_zero, List.set_cons_succ, List.getElem?_cons_zero, List.getElem?_cons_succ, List.length_cons, List.length_nil, List.cons_append, List.nil_append, List.replicate_succ, List.replicate_zero, Nat.reduceAdd, Nat.reduceSub, cmpD_ii_eq, cmpD_ii_ne, cmpD_ii_lt, cmpD_ii_le, cmpD_ii_gt, cmpD_ii_ge, cmpD_bb_eq, cmpD_bb_ne, List.all_cons, List.all_nil, List.any_cons, List.any_nil, Bool.or_false, Bool.or_true, Bool.true_or, Bool.false_or, Bool.and_true, Bool.true_and, Bool.and_self, isTy, wipeG, backG, Option.bind_some, Option.map_some, Bool.not_true, Bool.not_false, ite_true, ite_false, if_true, if_false, true_and, and_true, Bool.false_eq_true, evI_seq, List.isEmpty_nil, List.isEmpty_cons, List.length_map, decide_eq_true_eq, Bool.and_eq_true, b_add, b_sub, b_mul, b_div, b_mod, b_pow, b_addL, b_addT, b_mulL, sl_v, sl_f, sl_dr, sl_scr, ar_v, ar_f, ar_dr, ar_scr, rv_v, rv_f, as_i, as_b, da_nil, da_cons, sa_nil, sa_cons, bi_len, bi_max2, bi_min2, bi_maxL, bi_minL, bi_sumL, bi_allL, bi_anyL, bi_sorted, bi_sortedR, bi_listL, bi_listT, bi_tupL, bi_tupT, bi_int1, bi_int1b, bi_abs1, bi_repr, ag_n, ag_nil, ag_cons, up_l, up_t, sq_l, sq_t, ln_l, ln_t, rg_1, rg_2, en_l, zp_l, zp_t, sb_l, sb_t, ra_eq, rd_mk, st_mk, wp_mk, bk_mk, ls_mk, nl_mk, bn_mk, bl_mk, no_mk, ss_mk, is_mk, sS_mk, pS_mk, aS_mk, sv_scr, sv_v, sv_f, sr_l, sr_t, rr_l, evE_lstx, evE_dsp, evE_idx, evE_dcomp, evS_ext, ex_l, evS_augI, evXs_nil, evXs_cons, evXs_star, eS_mk, gI_mk, ke_i, ke_s, sl_fd, b_shl, b_shr, b_and, bi_min3, sortR_ints, sortRR_ints, ai_nil, ai_cons, allInts_map, evE_imax, evE_slb, evE_sla, rr_t, slb_t, sla_l, im_mk, bi_sortedT, bi_lenSet, bi_sortSet, Int.reduceLE, Int.reduceLT, Int.reduceToNat, Int.reducePow, Nat.reduceLT, Nat.reduceLeDiff, Nat.reducePow, Int.reduceNeg, Int.reduceAbs, small_lit, at_0, at_1, at_2, decide_true, decide_false, gt_iff_lt, ge_iff_le, eq_self, Bool.not_eq_true, if_neg hu])
            exact ⟨r, ms, _, rfl, e2, fun z hz => e3 z (List.mem_cons_of_mem _ hz), by omega, rfl⟩
      · rintro s ⟨r, ms, x1, e1, e2, e3, e4, rfl⟩
        cases r with
        | cons u r => cases e1
        | nil =>
          rw [List.filter_nil, List.append_nil] at e2
          subst e2
          (try simp only [W_cons, W_nil, kS_nx, kS_rt, kS_bk, oQ_nx, oQ_rt, W_some, W_bind, W_map, W_guard, W_guardB, evE_comp, evS_for, evS_while, evS_mkdr, evE_var, evE_con, evE_bin, evE_neg, evE_not_, evE_cmp, evE_chain, evE_and_, evE_or_, evE_ite, evE_tup, evE_lst, evE_sub, evE_subv, evE_slice, evE_rev, evE_lenv, evE_nilv, evE_inv, evE_call, evE_bi, evE_rngl, evE_isi, evE_pop0, evE_pop1, evS_set, evS_unp, evS_par, evS_stsub, evS_app, evS_drop, evS_if_, evS_ret, evS_retN, evS_brk, evS_pass, evS_undr, evEs, evPs, evO, evI, evT, startG, List.map_cons, List.map_nil, List.set_cons_zero, List.set_cons_succ, List.getElem?_cons_zero, List.getElem?_cons_succ, List.length_cons, List.length_nil, List.cons_append, List.nil_append, List.replicate_succ, List.replicate_zero, Nat.reduceAdd, Nat.reduceSub, cmpD_ii_eq, cmpD_ii_ne, cmpD_ii_lt, cmpD_ii_le, cmpD_ii_gt, cmpD_ii_ge, cmpD_bb_eq, cmpD_bb_ne, List.all_cons, List.all_nil, List.any_cons, List.any_nil, Bool.or_false, Bool.or_true, Bool.true_or, Bool.false_or, Bool.and_true, Bool.true_and, Bool.and_self, isTy, wipeG, backG, Option.bind_some, Option.map_some, Bool.not_true, Bool.not_false, ite_true, ite_false, if_true, if_false, true_and, and_true, Bool.false_eq_true, evI_seq, List.isEmpty_nil, List.isEmpty_cons, List.length_map, decide_eq_true_eq, Bool.and_eq_true, b_add, b_sub, b_mul, b_div, b_mod, b_pow, b_addL, b_addT, b_mulL, sl_v, sl_f, sl_dr, sl_scr, ar_v, ar_f, ar_dr, ar_scr, rv_v, rv_f, as_i, as_b, da_nil, da_cons, sa_nil, sa_cons, bi_len, bi_max2, bi_min2, bi_maxL, bi_minL, bi_sumL, bi_allL, bi_anyL, bi_sorted, bi_sortedR, bi_listL, bi_listT, bi_tupL, bi_tupT, bi_int1, bi_int1b, bi_abs1, bi_repr, ag_n, ag_nil, ag_cons, up_l, up_t, sq_l, sq_t, ln_l, ln_t, rg_1, rg_2, en_l, zp_l, zp_t, sb_l, sb_t, ra_eq, rd_mk, st_mk, wp_mk, bk_mk, ls_mk, nl_mk, bn_mk, bl_mk, no_mk, ss_mk, is_mk, sS_mk, pS_mk, aS_mk, sv_scr, sv_v, sv_f, sr_l, sr_t, rr_l, evE_lstx, evE_dsp, evE_idx, evE_dcomp, evS_ext, ex_l, evS_augI, evXs_nil, evXs_cons, evXs_star, eS_mk, gI_mk, ke_i, ke_s, sl_fd, b_shl, b_shr, b_and, bi_min3, sortR_ints, sortRR_ints, ai_nil, ai_cons, allInts_map, evE_imax, evE_slb, evE_sla, rr_t, slb_t, sla_l, im_mk, bi_sortedT, bi_lenSet, bi_sortSet, Int.reduceLE, Int.reduceLT, Int.reduceToNat, Int.reducePow, Nat.reduceLT, Nat.reduceLeDiff, Nat.reducePow, Int.reduceNeg, Int.reduceAbs, small_lit, at_0, at_1, at_2, decide_true, decide_false, gt_iff_lt, ge_iff_le, eq_self, Bool.not_eq_true])
    · rintro _ rfl
      (try simp only [W_cons, W_nil, kS_nx, kS_rt, kS_bk, oQ_nx, oQ_rt, W_some, W_bind, W_map, W_guard, W_guardB, evE_comp, evS_for, evS_while, evS_mkdr, evE_var, evE_con, evE_bin, evE_neg, evE_not_, evE_cmp, evE_chain, evE_and_, evE_or_, evE_ite, evE_tup, evE_lst, evE_sub, evE_subv, evE_slice, evE_rev, evE_lenv, evE_nilv, evE_inv, evE_call, evE_bi, evE_rngl, evE_isi, evE_pop0, evE_pop1, evS_set, evS_unp, evS_par, evS_stsub, evS_app, evS_drop, evS_if_, evS_ret, evS_retN, evS_brk, evS_pass, evS_undr, evEs, evPs, evO, evI, evT, startG, List.map_cons, List.map_nil, List.set_cons_zero, List.set_cons_succ, List.getElem?_cons_zero, List.getElem?_cons_succ, List.length_cons, List.length_nil, List.cons_append, List.nil_append, List.replicate_succ, List.replicate_zero, Nat.reduceAdd, Nat.reduceSub, cmpD_ii_eq, cmpD_ii_ne, cmpD_ii_lt, cmpD_ii_le, cmpD_ii_gt, cmpD_ii_ge, cmpD_bb_eq, cmpD_bb_ne, List.all_cons, List.all_nil, List.any_cons, List.any_nil, Bool.or_false, Bool.or_true, Bool.true_or, Bool.false_or, Bool.and_true, Bool.true_and, Bool.and_self, isTy, wipeG, backG, Option.bind_some, Option.map_some, Bool.not_true, Bool.not_false, ite_true, ite_false, if_true, if_false, true_and, and_true, Bool.false_eq_true, evI_seq, List.isEmpty_nil, List.isEmpty_cons, List.length_map, decide_eq_true_eq, Bool.and_eq_true, b_add, b_sub, b_mul, b_div, b_mod, b_pow, b_addL, b_addT, b_mulL, sl_v, sl_f, sl_dr, sl_scr, ar_v, ar_f, ar_dr, ar_scr, rv_v, rv_f, as_i, as_b, da_nil, da_cons, sa_nil, sa_cons, bi_len, bi_max2, bi_min2, bi_maxL, bi_minL, bi_sumL, bi_allL, bi_anyL, bi_sorted, bi_sortedR, bi_listL, bi_listT, bi_tupL, bi_tupT, bi_int1, bi_int1b, bi_abs1, bi_repr, ag_n, ag_nil, ag_cons, up_l, up_t, sq_l, sq_t, ln_l, ln_t, rg_1, rg_2, en_l, zp_l, zp_t, sb_l, sb_t, ra_eq, rd_mk, st_mk, wp_mk, bk_mk, ls_mk, nl_mk, bn_mk, bl_mk, no_mk, ss_mk, is_mk, sS_mk, pS_mk, aS_mk, sv_scr, sv_v, sv_f, sr_l, sr_t, rr_l, evE_lstx, evE_dsp, evE_idx, evE_dcomp, evS_ext, ex_l, evS_augI, evXs_nil, evXs_cons, evXs_star, eS_mk, gI_mk, ke_i, ke_s, sl_fd, b_shl, b_shr, b_and, bi_min3, sortR_ints, sortRR_ints, ai_nil, ai_cons, allInts_map, evE_imax, evE_slb, evE_sla, rr_t, slb_t, sla_l, im_mk, bi_sortedT, bi_lenSet, bi_sortSet, Int.reduceLE, Int.reduceLT, Int.reduceToNat, Int.reducePow, Nat.reduceLT, Nat.reduceLeDiff, Nat.reducePow, Int.reduceNeg, Int.reduceAbs, small_lit, at_0, at_1, at_2, decide_true, decide_false, gt_iff_lt, ge_iff_le, eq_self, Bool.not_eq_true])
      have nl := nb_len' es v
      have nl2 : (nbA es v aw).length ≤ (nb es v).length := List.length_filter_le _ _
      refine ⟨decide_eq_true (by unfold LIM; omega), ?_⟩
      refine W.mono (W_compF (l := nbA es v aw) (G := fun u => [PyData.int (dl es v u + bn es f u (some v))]) (fun s => ∃ x y : Slot, s = ⟨[.v (treeD n es), .v (.int v), .v (oD aw), x, y], S⟩) ?_ ⟨_, _, rfl⟩) ?_
      · rintro u hu acc s ⟨x, y, rfl⟩
        unfold cStep
        (try simp only [W_cons, W_nil, kS_nx, kS_rt, kS_bk, oQ_nx, oQ_rt, W_some, W_bind, W_map, W_guard, W_guardB, evE_comp, evS_for, evS_while, evS_mkdr, evE_var, evE_con, evE_bin, evE_neg, evE_not_, evE_cmp, evE_chain, evE_and_, evE_or_, evE_ite, evE_tup, evE_lst, evE_sub, evE_subv, evE_slice, evE_rev, evE_lenv, evE_nilv, evE_inv, evE_call, evE_bi, evE_rngl, evE_isi, evE_pop0, evE_pop1, evS_set, evS_unp, evS_par, evS_stsub, evS_app, evS_drop, evS_if_, evS_ret, evS_retN, evS_brk, evS_pass, evS_undr, evEs, evPs, evO, evI, evT, startG, List.map_cons, List.map_nil, List.set_cons_zero, List.set_cons_succ, List.getElem?_cons_zero, List.getElem?_cons_succ, List.length_cons, List.length_nil, List.cons_append, List.nil_append, List.replicate_succ, List.replicate_zero, Nat.reduceAdd, Nat.reduceSub, cmpD_ii_eq, cmpD_ii_ne, cmpD_ii_lt, cmpD_ii_le, cmpD_ii_gt, cmpD_ii_ge, cmpD_bb_eq, cmpD_bb_ne, List.all_cons, List.all_nil, List.any_cons, List.any_nil, Bool.or_false, Bool.or_true, Bool.true_or, Bool.false_or, Bool.and_true, Bool.true_and, Bool.and_self, isTy, wipeG, backG, Option.bind_some, Option.map_some, Bool.not_true, Bool.not_false, ite_true, ite_false, if_true, if_false, true_and, and_true, Bool.false_eq_true, evI_seq, List.isEmpty_nil, List.isEmpty_cons, List.length_map, decide_eq_true_eq, Bool.and_eq_true, b_add, b_sub, b_mul, b_div, b_mod, b_pow, b_addL, b_addT, b_mulL, sl_v, sl_f, sl_dr, sl_scr, ar_v, ar_f, ar_dr, ar_scr, rv_v, rv_f, as_i, as_b, da_nil, da_cons, sa_nil, sa_cons, bi_len, bi_max2, bi_min2, bi_maxL, bi_minL, bi_sumL, bi_allL, bi_anyL, bi_sorted, bi_sortedR, bi_listL, bi_listT, bi_tupL, bi_tupT, bi_int1, bi_int1b, bi_abs1, bi_repr, ag_n, ag_nil, ag_cons, up_l, up_t, sq_l, sq_t, ln_l, ln_t, rg_1, rg_2, en_l, zp_l, zp_t, sb_l, sb_t, ra_eq, rd_mk, st_mk, wp_mk, bk_mk, ls_mk, nl_mk, bn_mk, bl_mk, no_mk, ss_mk, is_mk, sS_mk, pS_mk, aS_mk, sv_scr, sv_v, sv_f, sr_l, sr_t, rr_l, evE_lstx, evE_dsp, evE_idx, evE_dcomp, evS_ext, ex_l, evS_augI, evXs_nil, evXs_cons, evXs_star, eS_mk, gI_mk, ke_i, ke_s, sl_fd, b_shl, b_shr, b_and, bi_min3, sortR_ints, sortRR_ints, ai_nil, ai_cons, allInts_map, evE_imax, evE_slb, evE_sla, rr_t, slb_t, sla_l, im_mk, bi_sortedT, bi_lenSet, bi_sortSet, Int.reduceLE, Int.reduceLT, Int.reduceToNat, Int.reducePow, Nat.reduceLT, Nat.reduceLeDiff, Nat.reducePow, Int.reduceNeg, Int.reduceAbs, small_lit, at_0, at_1, at_2, decide_true, decide_false, gt_iff_lt, ge_iff_le, eq_self, Bool.not_eq_true])
        exact ⟨_, _, rfl⟩
      rintro ⟨l, s⟩ ⟨h1, x, y, rfl⟩
      have h1 : l = _ := h1
      rw [List.nil_append, flat_one] at h1
      have h2 : ((nbA es v aw).map fun u => PyData.int (dl es v u + bn es f u (some v))) = ((nbA es v aw).map fun u => dl es v u + bn es f u (some v)).map PyData.int := by rw [List.map_map]; rfl
      rw [h2] at h1
      subst h1
      (try simp only [W_cons, W_nil, kS_nx, kS_rt, kS_bk, oQ_nx, oQ_rt, W_some, W_bind, W_map, W_guard, W_guardB, evE_comp, evS_for, evS_while, evS_mkdr, evE_var, evE_con, evE_bin, evE_neg, evE_not_, evE_cmp, evE_chain, evE_and_, evE_or_, evE_ite, evE_tup, evE_lst, evE_sub, evE_subv, evE_slice, evE_rev, evE_lenv, evE_nilv, evE_inv, evE_call, evE_bi, evE_rngl, evE_isi, evE_pop0, evE_pop1, evS_set, evS_unp, evS_par, evS_stsub, evS_app, evS_drop, evS_if_, evS_ret, evS_retN, evS_brk, evS_pass, evS_undr, evEs, evPs, evO, evI, evT, startG, List.map_cons, List.map_nil, List.set_cons_zero, List.set_cons_succ, List.getElem?_cons_zero, List.getElem?_cons_succ, List.length_cons, List.length_nil, List.cons_append, List.nil_append, List.replicate_succ, List.replicate_zero, Nat.reduceAdd, Nat.reduceSub, cmpD_ii_eq, cmpD_ii_ne, cmpD_ii_lt, cmpD_ii_le, cmpD_ii_gt, cmpD_ii_ge, cmpD_bb_eq, cmpD_bb_ne, List.all_cons, List.all_nil, List.any_cons, List.any_nil, Bool.or_false, Bool.or_true, Bool.true_or, Bool.false_or, Bool.and_true, Bool.true_and, Bool.and_self, isTy, wipeG, backG, Option.bind_some, Option.map_some, Bool.not_true, Bool.not_false, ite_true, ite_false, if_true, if_false, true_and, and_true, Bool.false_eq_true, evI_seq, List.isEmpty_nil, List.isEmpty_cons, List.length_map, decide_eq_true_eq, Bool.and_eq_true, b_add, b_sub, b_mul, b_div, b_mod, b_pow, b_addL, b_addT, b_mulL, sl_v, sl_f, sl_dr, sl_scr, ar_v, ar_f, ar_dr, ar_scr, rv_v, rv_f, as_i, as_b, da_nil, da_cons, sa_nil, sa_cons, bi_len, bi_max2, bi_min2, bi_maxL, bi_minL, bi_sumL, bi_allL, bi_anyL, bi_sorted, bi_sortedR, bi_listL, bi_listT, bi_tupL, bi_tupT, bi_int1, bi_int1b, bi_abs1, bi_repr, ag_n, ag_nil, ag_cons, up_l, up_t, sq_l, sq_t, ln_l, ln_t, rg_1, rg_2, en_l, zp_l, zp_t, sb_l, sb_t, ra_eq, rd_mk, st_mk, wp_mk, bk_mk, ls_mk, nl_mk, bn_mk, bl_mk, no_mk, ss_mk, is_mk, sS_mk, pS_mk, aS_mk, sv_scr, sv_v, sv_f, sr_l, sr_t, rr_l, evE_lstx, evE_dsp, evE_idx, evE_dcomp, evS_ext, ex_l, evS_augI, evXs_nil, evXs_cons, evXs_star, eS_mk, gI_mk, ke_i, ke_s, sl_fd, b_shl, b_shr, b_and, bi_min3, sortR_ints, sortRR_ints, ai_nil, ai_cons, allInts_map, evE_imax, evE_slb, evE_sla, rr_t, slb_t, sla_l, im_mk, bi_sortedT, bi_lenSet, bi_sortSet, Int.reduceLE, Int.reduceLT, Int.reduceToNat, Int.reducePow, Nat.reduceLT, Nat.reduceLeDiff, Nat.reducePow, Int.reduceNeg, Int.reduceAbs, small_lit, at_0, at_1, at_2, decide_true, decide_false, gt_iff_lt, ge_iff_le, eq_self, Bool.not_eq_true])
      refine (leastT_W hL (by omega) (by rw [List.length_map]; unfold LIM; omega)).mono ?_
      rintro _ rfl
      (try simp only [W_cons, W_nil, kS_nx, kS_rt, kS_bk, oQ_nx, oQ_rt, W_some, W_bind, W_map, W_guard, W_guardB, evE_comp, evS_for, evS_while, evS_mkdr, evE_var, evE_con, evE_bin, evE_neg, evE_not_, evE_cmp, evE_chain, evE_and_, evE_or_, evE_ite, evE_tup, evE_lst, evE_sub, evE_subv, evE_slice, evE_rev, evE_lenv, evE_nilv, evE_inv, evE_call, evE_bi, evE_rngl, evE_isi, evE_pop0, evE_pop1, evS_set, evS_unp, evS_par, evS_stsub, evS_app, evS_drop, evS_if_, evS_ret, evS_retN, evS_brk, evS_pass, evS_undr, evEs, evPs, evO, evI, evT, startG, List.map_cons, List.map_nil, List.set_cons_zero, List.set_cons_succ, List.getElem?_cons_zero, List.getElem?_cons_succ, List.length_cons, List.length_nil, List.cons_append, List.nil_append, List.replicate_succ, List.replicate_zero, Nat.reduceAdd, Nat.reduceSub, cmpD_ii_eq, cmpD_ii_ne, cmpD_ii_lt, cmpD_ii_le, cmpD_ii_gt, cmpD_ii_ge, cmpD_bb_eq, cmpD_bb_ne, List.all_cons, List.all_nil, List.any_cons, List.any_nil, Bool.or_false, Bool.or_true, Bool.true_or, Bool.false_or, Bool.and_true, Bool.true_and, Bool.and_self, isTy, wipeG, backG, Option.bind_some, Option.map_some, Bool.not_true, Bool.not_false, ite_true, ite_false, if_true, if_false, true_and, and_true, Bool.false_eq_true, evI_seq, List.isEmpty_nil, List.isEmpty_cons, List.length_map, decide_eq_true_eq, Bool.and_eq_true, b_add, b_sub, b_mul, b_div, b_mod, b_pow, b_addL, b_addT, b_mulL, sl_v, sl_f, sl_dr, sl_scr, ar_v, ar_f, ar_dr, ar_scr, rv_v, rv_f, as_i, as_b, da_nil, da_cons, sa_nil, sa_cons, bi_len, bi_max2, bi_min2, bi_maxL, bi_minL, bi_sumL, bi_allL, bi_anyL, bi_sorted, bi_sortedR, bi_listL, bi_listT, bi_tupL, bi_tupT, bi_int1, bi_int1b, bi_abs1, bi_repr, ag_n, ag_nil, ag_cons, up_l, up_t, sq_l, sq_t, ln_l, ln_t, rg_1, rg_2, en_l, zp_l, zp_t, sb_l, sb_t, ra_eq, rd_mk, st_mk, wp_mk, bk_mk, ls_mk, nl_mk, bn_mk, bl_mk, no_mk, ss_mk, is_mk, sS_mk, pS_mk, aS_mk, sv_scr, sv_v, sv_f, sr_l, sr_t, rr_l, evE_lstx, evE_dsp, evE_idx, evE_dcomp, evS_ext, ex_l, evS_augI, evXs_nil, evXs_cons, evXs_star, eS_mk, gI_mk, ke_i, ke_s, sl_fd, b_shl, b_shr, b_and, bi_min3, sortR_ints, sortRR_ints, ai_nil, ai_cons, allInts_map, evE_imax, evE_slb, evE_sla, rr_t, slb_t, sla_l, im_mk, bi_sortedT, bi_lenSet, bi_sortSet, Int.reduceLE, Int.reduceLT, Int.reduceToNat, Int.reducePow, Nat.reduceLT, Nat.reduceLeDiff, Nat.reducePow, Int.reduceNeg, Int.reduceAbs, small_lit, at_0, at_1, at_2, decide_true, decide_false, gt_iff_lt, ge_iff_le, eq_self, Bool.not_eq_true])
      rfl
end Tl

namespace Tl
open PySem
def Adj (es : List E3) (v u : Int) : Prop := ∃ e ∈ es, (e.1 = v ∧ e.2.1 = u) ∨ (e.1 = u ∧ e.2.1 = v)
theorem Adj.symm {es : List E3} {v u : Int} (h : Adj es v u) : Adj es u v := by
  obtain ⟨e, he, h⟩ := h
  exact ⟨e, he, h.symm⟩
theorem mem_flat_if {α : Type} {p : α → Prop} [DecidablePred p] {f : α → Int} {l : List α} {x : Int} : x ∈ (l.flatMap fun e => if p e then [f e] else []) ↔ ∃ e ∈ l, p e ∧ f e = x := by
  rw [List.mem_flatMap]
  constructor
  · rintro ⟨e, he, h⟩
    by_cases q : p e
    · rw [if_pos q, List.mem_singleton] at h
      exact ⟨e, he, q, h.symm⟩
    · rw [if_neg q] at h
      cases h
  · rintro ⟨e, he, q, rfl⟩
    exact ⟨e, he, by rw [if_pos q]; exact List.mem_singleton.mpr rfl⟩
theorem nb_mem {es : List E3} {v u : Int} : u ∈ nb es v ↔ Adj es v u := by
  unfold nb
  rw [(sortI_perm _).mem_iff]
  unfold nbL
  rw [List.mem_append, mem_flat_if (p := fun e : E3 => e.1 = v) (f := fun e : E3 => e.2.1), mem_flat_if (p := fun e : E3 => e.2.1 = v) (f := fun e : E3 => e.1)]
  constructor
  · rintro (⟨e, he, h1, h2⟩ | ⟨e, he, h1, h2⟩)
    · exact ⟨e, he, .inl ⟨h1, h2⟩⟩
    · exact ⟨e, he, .inr ⟨h2, h1⟩⟩
  · rintro ⟨e, he, ⟨h1, h2⟩ | ⟨h1, h2⟩⟩
    · exact .inl ⟨e, he, h1, h2⟩
    · exact .inr ⟨e, he, h2, h1⟩
theorem adj_perm {es es' : List E3} (p : es.Perm es') {v u : Int} : Adj es v u ↔ Adj es' v u := by
  unfold Adj
  simp only [p.mem_iff]
structure Rk (es : List E3) (N : Nat) (rk : Int → Nat) : Prop where
  le : ∀ v, rk v ≤ N
  ne : ∀ v u, Adj es v u → rk v ≠ rk u
  un : ∀ v a b, Adj es v a → Adj es v b → rk a < rk v → rk b < rk v → a = b
theorem adj_app {es : List E3} {w u d v x : Int} (hwu : w ≠ u) : Adj (es ++ [nrm (w, u, d)]) v x ↔ Adj es v x ∨ (v = w ∧ x = u) ∨ (v = u ∧ x = w) := by
  have key : (∃ e ∈ [nrm (w, u, d)], (e.1 = v ∧ e.2.1 = x) ∨ (e.1 = x ∧ e.2.1 = v)) ↔ (v = w ∧ x = u) ∨ (v = u ∧ x = w) := by
    simp only [List.mem_singleton, exists_eq_left]
    unfold nrm
    simp only
    split <;> split <;> omega
  unfold Adj at *
  constructor
  · rintro ⟨e, he, h⟩
    rcases List.mem_append.mp he with q | q
    · exact .inl ⟨e, q, h⟩
    · exact .inr (key.mp ⟨e, q, h⟩)
  · rintro (⟨e, he, h⟩ | h)
    · exact ⟨e, List.mem_append_left _ he, h⟩
    · obtain ⟨e, he, h⟩ := key.mpr h
      exact ⟨e, List.mem_append_right _ he, h⟩
theorem Gr.adj {vs : List Int} {es : List E3} (g : Gr vs es) {v u : Int} (h : Adj es v u) : v ∈ vs ∧ u ∈ vs ∧ v ≠ u := by
  obtain ⟨e, he, h⟩ := h
  obtain ⟨a1, a2, a3, _⟩ := g.bounds.2 e he
  rcases h with ⟨rfl, rfl⟩ | ⟨rfl, rfl⟩
  · exact ⟨a1, a2, by omega⟩
  · exact ⟨a2, a1, by omega⟩
theorem Gr.rank {vs : List Int} {es : List E3} (g : Gr vs es) : ∃ rk : Int → Nat, Rk es vs.length rk ∧ (∀ v ∈ vs, rk v < vs.length) := by
  induction g with
  | one v => exact ⟨fun _ => 0, ⟨fun _ => Nat.zero_le _, fun v u ⟨e, he, _⟩ => (nomatch he), fun v a b ⟨e, he, _⟩ => (nomatch he)⟩, fun _ _ => Nat.zero_lt_one⟩
  | leaf g hu hw h1 h2 ih =>
    rename_i vs es u w d
    obtain ⟨rk, R, lt⟩ := ih
    have wu : w ≠ u := fun e => hw (e ▸ hu)
    refine ⟨fun x => if x = w then vs.length else rk x, ⟨fun v => ?_, fun v x h => ?_, fun v a b ha hb la lb => ?_⟩, fun v hv => ?_⟩
    · rw [List.length_append]
      have := R.le v
      split <;> simp <;> omega
    · have lu := lt u hu
      rcases (adj_app wu).mp h with h | ⟨rfl, rfl⟩ | ⟨rfl, rfl⟩
      · obtain ⟨m1, m2, _⟩ := g.adj h
        have n1 : v ≠ w := fun e => hw (e ▸ m1)
        have n2 : x ≠ w := fun e => hw (e ▸ m2)
        simp only [if_neg n1, if_neg n2]
        exact R.ne v x h
      · simp only [if_true, if_neg wu.symm]
        omega
      · simp only [if_true, if_neg wu.symm]
        omega
    · have lu := lt u hu
      have old : ∀ x, Adj (es ++ [nrm (w, u, d)]) v x → v ≠ w → (if x = w then vs.length else rk x) < (if v = w then vs.length else rk v) → Adj es v x ∧ rk x < rk v := fun x h hv hl => by
        rw [if_neg hv] at hl
        rcases (adj_app wu).mp h with h | ⟨rfl, rfl⟩ | ⟨rfl, rfl⟩
        · obtain ⟨m1, m2, _⟩ := g.adj h
          have n2 : x ≠ w := fun e => hw (e ▸ m2)
          rw [if_neg n2] at hl
          exact ⟨h, hl⟩
        · exact absurd rfl hv
        · rw [if_pos rfl] at hl
          omega
      by_cases hv : v = w
      · subst hv
        have nx : ∀ x, Adj (es ++ [nrm (v, u, d)]) v x → x = u := fun x h => by
          rcases (adj_app wu).mp h with h | ⟨_, rfl⟩ | ⟨e, _⟩
          · exact absurd (g.adj h).1 hw
          · rfl
          · exact absurd e wu
        rw [nx a ha, nx b hb]
      · obtain ⟨a1, a2⟩ := old a ha hv la
        obtain ⟨b1, b2⟩ := old b hb hv lb
        exact R.un v a b a1 b1 a2 b2
    · rw [List.length_append]
      rcases List.mem_append.mp hv with h | h
      · have n1 : v ≠ w := fun e => hw (e ▸ h)
        simp only [if_neg n1, List.length_cons, List.length_nil]
        have := lt v h
        omega
      · rw [List.mem_singleton] at h
        simp only [if_pos h, List.length_cons, List.length_nil]
        omega
theorem dlO_adj {es : List E3} (ho : ∀ e ∈ es, e.1 < e.2.1) {v u : Int} (h : Adj es v u) : ∃ d, dlO es v u = some d ∧ ∃ e ∈ es, e.2.2 = d ∧ ((e.1 = v ∧ e.2.1 = u) ∨ (e.1 = u ∧ e.2.1 = v)) := by
  obtain ⟨e, he, h⟩ := h
  have lt := ho e he
  have hp : isE v u e = true := by
    unfold isE
    rw [Bool.and_eq_true, decide_eq_true_eq, decide_eq_true_eq]
    rcases h with ⟨rfl, rfl⟩ | ⟨rfl, rfl⟩
    · rw [if_neg (by omega), if_pos lt]
      exact ⟨rfl, rfl⟩
    · rw [if_pos lt, if_neg (by omega)]
      exact ⟨rfl, rfl⟩
  unfold dlO
  cases hq : es.find? (isE v u) with
  | none => exact absurd hp (by simpa using List.find?_eq_none.mp hq e he)
  | some f =>
    refine ⟨f.2.2, rfl, f, List.mem_of_find?_eq_some hq, rfl, ?_⟩
    have hf := List.find?_some hq
    unfold isE at hf
    rw [Bool.and_eq_true, decide_eq_true_eq, decide_eq_true_eq] at hf
    have := ho f (List.mem_of_find?_eq_some hq)
    obtain ⟨f1, f2⟩ := hf
    split at f1 <;> split at f2 <;> omega
def far (N : Nat) (rk : Int → Nat) (v : Int) (aw : Option Int) : Nat := match aw with
  | some a => if rk a < rk v then N - rk v else N + 1 + rk v
  | none => N + 1 + rk v
theorem ends_of {es : List E3} {N : Nat} {rk : Int → Nat} (ho : ∀ e ∈ es, e.1 < e.2.1) (R : Rk es N rk) : ∀ (f : Nat) (v : Int) (aw : Option Int), (∀ a, aw = some a → Adj es v a) → far N rk v aw < f → Ends es f v aw
  | 0, v, aw, _, h => absurd h (Nat.not_lt_zero _)
  | f + 1, v, aw, ha, h => fun u hu => by
    obtain ⟨h1, h2⟩ := List.mem_filter.mp hu
    have hadj := nb_mem.mp h1
    have hne := of_decide_eq_true h2
    obtain ⟨d, hd, _⟩ := dlO_adj ho hadj
    refine ⟨⟨d, hd⟩, ends_of ho R f u (some v) (fun a e => by cases e; exact hadj.symm) ?_⟩
    have l1 := R.le u
    have l2 := R.le v
    have l3 := R.ne v u hadj
    cases aw with
    | none =>
      unfold far at h ⊢
      simp only at h ⊢
      split <;> omega
    | some a =>
      have hu2 := R.un v a u (ha a rfl) hadj
      have hau : a ≠ u := fun e => hne (by rw [e])
      unfold far at h ⊢
      simp only at h ⊢
      split at h
      · rename_i q
        by_cases z : rk u < rk v
        · exact absurd (hu2 q z) hau
        · rw [if_pos (by omega)]
          omega
      · split <;> omega
theorem IsTr.ord {n : Nat} {es : List E3} (t : IsTr n es) : ∀ e ∈ es, e.1 < e.2.1 := fun e he => (t.bounds.2 e he).2.1
theorem IsTr.ends {n : Nat} {es : List E3} (t : IsTr n es) (v : Int) (aw : Option Int) (ha : ∀ a, aw = some a → Adj es v a) : Ends es (2 * n + 2) v aw := by
  have ho := t.ord
  obtain ⟨vs, es', g, p, rfl⟩ := t
  obtain ⟨rk, R, _⟩ := g.rank
  have hl := p.length_eq
  rw [rngI_len] at hl
  have R' : Rk (sortE es') vs.length rk := ⟨R.le, fun v u h => R.ne v u ((adj_perm (sortE_perm es')).mp h), fun v a b h1 h2 => R.un v a b ((adj_perm (sortE_perm es')).mp h1) ((adj_perm (sortE_perm es')).mp h2)⟩
  refine ends_of ho R' _ v aw ha ?_
  have := R.le v
  unfold far
  split
  · split <;> omega
  · omega
end Tl

namespace Tl
open PySem
structure PB (tf : List Fn) (iN iD iL iK iB : Nat) : Prop where
  nb : tf[iN]? = some ⟨2, 6, bNbrs⟩
  bt : tf[iD]? = some ⟨3, 6, bBetween⟩
  lt : tf[iL]? = some ⟨1, 3, bLeastT⟩
  ka : tf[iK]? = some ⟨3, 5, bKeysAway iN iD iB⟩
  bn : tf[iB]? = some ⟨3, 5, bBranchNeed iL iK⟩
structure PN (tf : List Fn) (iN iD iL iK iB iF : Nat) : Prop where
  nb : tf[iN]? = some ⟨2, 6, bNbrs⟩
  bt : tf[iD]? = some ⟨3, 6, bBetween⟩
  lt : tf[iL]? = some ⟨1, 3, bLeastT⟩
  ka : tf[iK]? = some ⟨3, 5, bKeysAway iN iD iB⟩
  bn : tf[iB]? = some ⟨3, 5, bBranchNeed iL iK⟩
  nf : tf[iF]? = some ⟨2, 2, bNeedFrom iB⟩
theorem PN.pb {tf : List Fn} {iN iD iL iK iB iF : Nat} (P : PN tf iN iD iL iK iB iF) : PB tf iN iD iL iK iB := ⟨P.nb, P.bt, P.lt, P.ka, P.bn⟩
section
variable {tf : List Fn} {fu k iN iD iL iK iB iF : Nat} {n : Nat} {es : List E3} {S : Option DS}
def nd (n : Nat) (es : List E3) (v : Int) : Int := bn es (2 * n + 2) v none
def bd (n : Nat) (es : List E3) (v a : Int) : Int := bn es (2 * n + 2) v (some a)
theorem branch_W (P : PB tf iN iD iL iK iB) {v a : Int} (hk : 100 < k) (t : IsTr n es) (hn : n ≤ 16) (ha : Adj es v a) : W (callF tf fu k iB [.v (treeD n es), .v (.int v), .v (.int a)] S) fun p => p = (.v (.int (bd n es v a)), S) := by
  have tb := t.bounds.1
  exact needs_W P.nb P.bt P.lt P.ka P.bn (by omega) (2 * n + 2) v (some a) k (t.ends v (some a) (fun b e => by cases e; exact ha)) (by omega)
theorem from_W (P : PN tf iN iD iL iK iB iF) {v : Int} (hk : 100 < k) (t : IsTr n es) (hn : n ≤ 16) : W (callF tf fu k iF [.v (treeD n es), .v (.int v)] S) fun p => p = (.v (.int (nd n es v)), S) := by
  obtain ⟨k, rfl⟩ : ∃ j, k = j + 1 := ⟨k - 1, by omega⟩
  have tb := t.bounds.1
  refine W_call P.nf rfl ?_
  unfold bNeedFrom
  (try simp only [W_cons, W_nil, kS_nx, kS_rt, kS_bk, oQ_nx, oQ_rt, W_some, W_bind, W_map, W_guard, W_guardB, evE_comp, evS_for, evS_while, evS_mkdr, evE_var, evE_con, evE_bin, evE_neg, evE_not_, evE_cmp, evE_chain, evE_and_, evE_or_, evE_ite, evE_tup, evE_lst, evE_sub, evE_subv, evE_slice, evE_rev, evE_lenv, evE_nilv, evE_inv, evE_call, evE_bi, evE_rngl, evE_isi, evE_pop0, evE_pop1, evS_set, evS_unp, evS_par, evS_stsub, evS_app, evS_drop, evS_if_, evS_ret, evS_retN, evS_brk, evS_pass, evS_undr, evEs, evPs, evO, evI, evT, startG, List.map_cons, List.map_nil, List.set_cons_zero, List.set_cons_succ, List.getElem?_cons_zero, List.getElem?_cons_succ, List.length_cons, List.length_nil, List.cons_append, List.nil_append, List.replicate_succ, List.replicate_zero, Nat.reduceAdd, Nat.reduceSub, cmpD_ii_eq, cmpD_ii_ne, cmpD_ii_lt, cmpD_ii_le, cmpD_ii_gt, cmpD_ii_ge, cmpD_bb_eq, cmpD_bb_ne, List.all_cons, List.all_nil, List.any_cons, List.any_nil, Bool.or_false, Bool.or_true, Bool.true_or, Bool.false_or, Bool.and_true, Bool.true_and, Bool.and_self, isTy, wipeG, backG, Option.bind_some, Option.map_some, Bool.not_true, Bool.not_false, ite_true, ite_false, if_true, if_false, true_and, and_true, Bool.false_eq_true, evI_seq, List.isEmpty_nil, List.isEmpty_cons, List.length_map, decide_eq_true_eq, Bool.and_eq_true, b_add, b_sub, b_mul, b_div, b_mod, b_pow, b_addL, b_addT, b_mulL, sl_v, sl_f, sl_dr, sl_scr, ar_v, ar_f, ar_dr, ar_scr, rv_v, rv_f, as_i, as_b, da_nil, da_cons, sa_nil, sa_cons, bi_len, bi_max2, bi_min2, bi_maxL, bi_minL, bi_sumL, bi_allL, bi_anyL, bi_sorted, bi_sortedR, bi_listL, bi_listT, bi_tupL, bi_tupT, bi_int1, bi_int1b, bi_abs1, bi_repr, ag_n, ag_nil, ag_cons, up_l, up_t, sq_l, sq_t, ln_l, ln_t, rg_1, rg_2, en_l, zp_l, zp_t, sb_l, sb_t, ra_eq, rd_mk, st_mk, wp_mk, bk_mk, ls_mk, nl_mk, bn_mk, bl_mk, no_mk, ss_mk, is_mk, sS_mk, pS_mk, aS_mk, sv_scr, sv_v, sv_f, sr_l, sr_t, rr_l, evE_lstx, evE_dsp, evE_idx, evE_dcomp, evS_ext, ex_l, evS_augI, evXs_nil, evXs_cons, evXs_star, eS_mk, gI_mk, ke_i, ke_s, sl_fd, b_shl, b_shr, b_and, bi_min3, sortR_ints, sortRR_ints, ai_nil, ai_cons, allInts_map, evE_imax, evE_slb, evE_sla, rr_t, slb_t, sla_l, im_mk, bi_sortedT, bi_lenSet, bi_sortSet, Int.reduceLE, Int.reduceLT, Int.reduceToNat, Int.reducePow, Nat.reduceLT, Nat.reduceLeDiff, Nat.reducePow, Int.reduceNeg, Int.reduceAbs, small_lit, at_0, at_1, at_2, decide_true, decide_false, gt_iff_lt, ge_iff_le, eq_self, Bool.not_eq_true])
  refine W.mono (needs_W P.nb P.bt P.lt P.ka P.bn (by omega) (2 * n + 2) v none k (t.ends v none (fun a e => nomatch e)) (by omega)) ?_
  rintro _ rfl
  (try simp only [W_cons, W_nil, kS_nx, kS_rt, kS_bk, oQ_nx, oQ_rt, W_some, W_bind, W_map, W_guard, W_guardB, evE_comp, evS_for, evS_while, evS_mkdr, evE_var, evE_con, evE_bin, evE_neg, evE_not_, evE_cmp, evE_chain, evE_and_, evE_or_, evE_ite, evE_tup, evE_lst, evE_sub, evE_subv, evE_slice, evE_rev, evE_lenv, evE_nilv, evE_inv, evE_call, evE_bi, evE_rngl, evE_isi, evE_pop0, evE_pop1, evS_set, evS_unp, evS_par, evS_stsub, evS_app, evS_drop, evS_if_, evS_ret, evS_retN, evS_brk, evS_pass, evS_undr, evEs, evPs, evO, evI, evT, startG, List.map_cons, List.map_nil, List.set_cons_zero, List.set_cons_succ, List.getElem?_cons_zero, List.getElem?_cons_succ, List.length_cons, List.length_nil, List.cons_append, List.nil_append, List.replicate_succ, List.replicate_zero, Nat.reduceAdd, Nat.reduceSub, cmpD_ii_eq, cmpD_ii_ne, cmpD_ii_lt, cmpD_ii_le, cmpD_ii_gt, cmpD_ii_ge, cmpD_bb_eq, cmpD_bb_ne, List.all_cons, List.all_nil, List.any_cons, List.any_nil, Bool.or_false, Bool.or_true, Bool.true_or, Bool.false_or, Bool.and_true, Bool.true_and, Bool.and_self, isTy, wipeG, backG, Option.bind_some, Option.map_some, Bool.not_true, Bool.not_false, ite_true, ite_false, if_true, if_false, true_and, and_true, Bool.false_eq_true, evI_seq, List.isEmpty_nil, List.isEmpty_cons, List.length_map, decide_eq_true_eq, Bool.and_eq_true, b_add, b_sub, b_mul, b_div, b_mod, b_pow, b_addL, b_addT, b_mulL, sl_v, sl_f, sl_dr, sl_scr, ar_v, ar_f, ar_dr, ar_scr, rv_v, rv_f, as_i, as_b, da_nil, da_cons, sa_nil, sa_cons, bi_len, bi_max2, bi_min2, bi_maxL, bi_minL, bi_sumL, bi_allL, bi_anyL, bi_sorted, bi_sortedR, bi_listL, bi_listT, bi_tupL, bi_tupT, bi_int1, bi_int1b, bi_abs1, bi_repr, ag_n, ag_nil, ag_cons, up_l, up_t, sq_l, sq_t, ln_l, ln_t, rg_1, rg_2, en_l, zp_l, zp_t, sb_l, sb_t, ra_eq, rd_mk, st_mk, wp_mk, bk_mk, ls_mk, nl_mk, bn_mk, bl_mk, no_mk, ss_mk, is_mk, sS_mk, pS_mk, aS_mk, sv_scr, sv_v, sv_f, sr_l, sr_t, rr_l, evE_lstx, evE_dsp, evE_idx, evE_dcomp, evS_ext, ex_l, evS_augI, evXs_nil, evXs_cons, evXs_star, eS_mk, gI_mk, ke_i, ke_s, sl_fd, b_shl, b_shr, b_and, bi_min3, sortR_ints, sortRR_ints, ai_nil, ai_cons, allInts_map, evE_imax, evE_slb, evE_sla, rr_t, slb_t, sla_l, im_mk, bi_sortedT, bi_lenSet, bi_sortSet, Int.reduceLE, Int.reduceLT, Int.reduceToNat, Int.reducePow, Nat.reduceLT, Nat.reduceLeDiff, Nat.reducePow, Int.reduceNeg, Int.reduceAbs, small_lit, at_0, at_1, at_2, decide_true, decide_false, gt_iff_lt, ge_iff_le, eq_self, Bool.not_eq_true])
  rfl
theorem flat_one' {α β : Type} (f : α → β) : ∀ l : List α, (l.flatMap fun e => [f e]) = l.map f
  | [] => rfl
  | a :: r => by rw [List.flatMap_cons, List.map_cons, flat_one' f r]; rfl
end
end Tl

namespace Tl
open PySem
theorem W_forF {α : Type} {f : α → D} {step : D → Sta → Option Out} {Q : Out → Prop} (I : List α → Sta → Prop) (hs : ∀ x r s, I (x :: r) s → W (step (f x) s) fun o => match o with
    | .nx s' => I r s'
    | .bk s' => Q (.nx s')
    | .rt v s' => Q (.rt v s')) (he : ∀ s, I [] s → Q (.nx s)) : ∀ {l : List α} {s : Sta}, I l s → W (forLoop step (l.map f) s) Q
  | [], s, h => W_some.mpr (he s h)
  | x :: r, s, h => by
    rw [List.map_cons, forLoop, W_bind]
    refine (hs x r s h).mono fun o z => ?_
    cases o with
    | nx s' => exact W_forF I hs he z
    | bk s' => exact W_some.mpr z
    | rt v s' => exact W_some.mpr z
theorem rngI_split {n j : Nat} (h : j < n) : (rngI n).drop j = (j : Int) :: (rngI n).drop (j + 1) := by
  have hl : j < (rngI n).length := by rw [rngI_len]; exact h
  have e : (rngI n)[j]? = some (j : Int) := by
    unfold rngI
    rw [List.getElem?_map, List.getElem?_range h]
    rfl
  rw [List.drop_eq_getElem_cons hl, (List.getElem?_eq_some_iff.mp e).2]
theorem W_rng {step : D → Sta → Option Out} {Q : Out → Prop} {n : Nat} (I : Nat → Sta → Prop) (hs : ∀ (j : Nat) s, j < n → I j s → W (step (.int (j : Nat)) s) fun o => match o with
    | .nx s' => I (j + 1) s'
    | .bk s' => Q (.nx s')
    | .rt v s' => Q (.rt v s')) (he : ∀ s, I n s → Q (.nx s)) {s : Sta} (h0 : I 0 s) : W (forLoop step (rngD 0 ((n : Nat) : Int)) s) Q := by
  rw [rngD_zero]
  refine W_forF (fun r s => ∃ j, j ≤ n ∧ r = (rngI n).drop j ∧ I j s) ?_ ?_ ⟨0, Nat.zero_le _, rfl, h0⟩
  · rintro x r s ⟨j, hj, hr, h⟩
    have hlt : j < n := by
      by_cases q : j < n
      · exact q
      · rw [List.drop_eq_nil_of_le (by rw [rngI_len]; omega)] at hr
        cases hr
    rw [rngI_split hlt] at hr
    cases hr
    refine (hs j s hlt h).mono fun o z => ?_
    cases o with
    | nx s' => exact ⟨j + 1, hlt, rfl, z⟩
    | bk s' => exact z
    | rt v s' => exact z
  · rintro s ⟨j, hj, hr, h⟩
    have e : j = n := by
      have := congrArg List.length hr
      rw [List.length_nil, List.length_drop, rngI_len] at this
      omega
    subst e
    exact he s h
theorem rngD_lit {n : Nat} : rngD 0 (no_index (OfNat.ofNat n : Int)) = rngD 0 (((OfNat.ofNat n : Nat) : Nat) : Int) := rfl
end Tl

namespace Tl
open PySem
theorem nrm_swap (a b d : Int) : nrm (a, b, d) = nrm (b, a, d) := by
  unfold nrm
  simp only [Prod.mk.injEq]
  refine ⟨?_, ?_, trivial⟩ <;> split <;> split <;> omega
theorem Gr.pre {vs : List Int} {es : List E3} (g : Gr vs es) : ∀ {u w d : Int} {r : List Int}, vs = u :: r → w ∉ vs → 1 ≤ d → d ≤ 1000000000 → Gr (w :: vs) (nrm (u, w, d) :: es) := by
  induction g with
  | one v =>
    intro u w d r e hw h1 h2
    cases e
    exact Gr.leaf (.one w) (List.mem_singleton.mpr rfl) (by simpa using fun z => hw (by simp [z])) h1 h2
  | @leaf vs es x y dd g hx hy h1 h2 ih =>
    intro u w d r e hw k1 k2
    have hne : vs ≠ [] := fun z => by rw [z] at hx; cases hx
    obtain ⟨a, q, rfl⟩ := List.exists_cons_of_ne_nil hne
    have ea : a = u := by simpa using congrArg List.head? e
    subst ea
    have hw' : w ∉ a :: q := fun z => hw (List.mem_append_left _ z)
    have g2 := ih rfl hw' k1 k2
    have := Gr.leaf (d := dd) g2 (List.mem_cons_of_mem _ hx) (w := y) (fun z => by
      rcases List.mem_cons.mp z with z | z
      · exact hw (List.mem_append_right _ (by simp [z]))
      · exact hy z) h1 h2
    simpa using this
theorem Gr.reroot {vs : List Int} {es : List E3} (g : Gr vs es) : ∀ s ∈ vs, ∃ vs' es', Gr (s :: vs') es' ∧ (s :: vs').Perm vs ∧ es'.Perm es := by
  induction g with
  | one v =>
    intro s hs
    rw [List.mem_singleton] at hs
    subst hs
    exact ⟨[], [], .one s, List.Perm.refl _, List.Perm.refl _⟩
  | @leaf vs es u w d g hu hw h1 h2 ih =>
    intro s hs
    by_cases e : s ∈ vs
    · obtain ⟨vs', es', g', p1, p2⟩ := ih s e
      refine ⟨vs' ++ [w], es' ++ [nrm (w, u, d)], ?_, ?_, p2.append_right _⟩
      · have := Gr.leaf (d := d) g' (p1.mem_iff.mpr hu) (fun z => hw (p1.mem_iff.mp z)) h1 h2
        simpa using this
      · have := p1.append_right [w]
        simpa using this
    · have e : s = w := by
        rcases List.mem_append.mp hs with z | z
        · exact absurd z e
        · exact List.mem_singleton.mp z
      subst e
      obtain ⟨vs', es', g', p1, p2⟩ := ih u hu
      refine ⟨u :: vs', nrm (u, s, d) :: es', g'.pre rfl (fun z => hw (p1.mem_iff.mp z)) h1 h2, ?_, ?_⟩
      · exact (p1.cons s).trans (List.perm_append_singleton s vs).symm
      · rw [nrm_swap u s d]
        exact (p2.cons _).trans (List.perm_append_singleton _ es).symm
structure Rt (n : Nat) (es : List E3) (s : Int) (cal : Int → Option Int) : Prop where
  src : 0 ≤ s ∧ s < n
  cs : cal s = none
  co : ∀ v : Int, 0 ≤ v → v < n → v ≠ s → ∃ u, cal v = some u
  ca : ∀ v u, cal v = some u → Adj es v u
  ad : ∀ v u, Adj es v u → cal v = some u ∨ cal u = some v
  rk : ∃ rk : Int → Nat, ∀ v u, cal v = some u → rk u < rk v
  inn : ∀ v u, Adj es v u → (0 ≤ v ∧ v < n) ∧ 0 ≤ u ∧ u < n
theorem Gr.cal {vs : List Int} {es : List E3} (g : Gr vs es) : ∀ {s : Int} {r : List Int}, vs = s :: r → ∃ (cal : Int → Option Int) (rk : Int → Nat), (∀ v ∈ vs, v ≠ s → ∃ u, cal v = some u) ∧ cal s = none ∧ (∀ v u, cal v = some u → Adj es v u) ∧ (∀ v u, Adj es v u → cal v = some u ∨ cal u = some v) ∧ (∀ v u, cal v = some u → rk u < rk v) ∧ (∀ v ∈ vs, rk v < vs.length) := by
  induction g with
  | one v =>
    intro s r e
    cases e
    exact ⟨fun _ => none, fun _ => 0, fun v h1 h2 => absurd (List.mem_singleton.mp h1) h2, rfl, fun v u h => (by cases h), fun v u ⟨e, he, _⟩ => (nomatch he), fun v u h => (by cases h), fun _ _ => Nat.zero_lt_one⟩
  | @leaf vs es u w d g hu hw h1 h2 ih =>
    intro s r e
    have hne : vs ≠ [] := fun z => by rw [z] at hu; cases hu
    obtain ⟨a, q, rfl⟩ := List.exists_cons_of_ne_nil hne
    have ea : a = s := by simpa using congrArg List.head? e
    subst ea
    obtain ⟨cal, rk, c1, c2, c3, c4, c5, c6⟩ := ih rfl
    have wu : w ≠ u := fun z => hw (z ▸ hu)
    have wa : w ≠ a := fun z => hw (z ▸ List.mem_cons_self ..)
    have nw : ∀ v x, cal v = some x → v ≠ w ∧ x ≠ w := fun v x h => by
      obtain ⟨m1, m2, _⟩ := g.adj (c3 v x h)
      exact ⟨fun z => hw (z ▸ m1), fun z => hw (z ▸ m2)⟩
    refine ⟨fun x => if x = w then some u else cal x, fun x => if x = w then (a :: q).length else rk x, fun v hv hs => ?_, ?_, fun v x h => ?_, fun v x h => ?_, fun v x h => ?_, fun v hv => ?_⟩
    · by_cases q1 : v = w
      · exact ⟨u, if_pos q1⟩
      · rcases List.mem_append.mp hv with z | z
        · obtain ⟨x, hx⟩ := c1 v z hs
          exact ⟨x, by simp only [if_neg q1]; exact hx⟩
        · exact absurd (List.mem_singleton.mp z) q1
    · simp only [if_neg wa.symm]
      exact c2
    · rw [adj_app wu]
      by_cases q1 : v = w
      · simp only [if_pos q1] at h
        cases h
        exact .inr (.inl ⟨q1, rfl⟩)
      · simp only [if_neg q1] at h
        exact .inl (c3 v x h)
    · rcases (adj_app wu).mp h with h | ⟨rfl, rfl⟩ | ⟨rfl, rfl⟩
      · obtain ⟨m1, m2, _⟩ := g.adj h
        have n1 : v ≠ w := fun z => hw (z ▸ m1)
        have n2 : x ≠ w := fun z => hw (z ▸ m2)
        simp only [if_neg n1, if_neg n2]
        exact c4 v x h
      · exact .inl (if_pos rfl)
      · exact .inr (if_pos rfl)
    · by_cases q1 : v = w
      · simp only [if_pos q1] at h ⊢
        cases h
        simp only [if_neg wu.symm]
        exact c6 u hu
      · simp only [if_neg q1] at h ⊢
        simp only [if_neg (nw v x h).2]
        exact c5 v x h
    · rw [List.length_append]
      by_cases q1 : v = w
      · simp only [if_pos q1, List.length_cons, List.length_nil]
        omega
      · simp only [if_neg q1]
        rcases List.mem_append.mp hv with z | z
        · have := c6 v z
          simp only [List.length_cons, List.length_nil] at this ⊢
          omega
        · exact absurd (List.mem_singleton.mp z) q1
theorem IsTr.adj {n : Nat} {es : List E3} (t : IsTr n es) {v u : Int} (h : Adj es v u) : (0 ≤ v ∧ v < n) ∧ (0 ≤ u ∧ u < n) ∧ v ≠ u := by
  obtain ⟨vs, es', g, p, rfl⟩ := t
  obtain ⟨m1, m2, m3⟩ := g.adj ((adj_perm (sortE_perm es')).mp h)
  exact ⟨rngI_mem.mp (p.mem_iff.mp m1), rngI_mem.mp (p.mem_iff.mp m2), m3⟩
structure Wk (n : Nat) (s : Int) (cal : Int → Option Int) (P Q : List Int) : Prop where
  nd : (P ++ Q).Nodup
  inn : ∀ v ∈ P ++ Q, 0 ≤ v ∧ v < n
  src : s ∈ P ++ Q
  up : ∀ v ∈ P ++ Q, ∀ u, cal v = some u → u ∈ P
  dn : ∀ v u, cal v = some u → u ∈ P → v ∈ P ++ Q
section
variable {n : Nat} {es : List E3} {s : Int} {cal : Int → Option Int} {P Q : List Int}
theorem nodup_sub : ∀ {l m : List Int}, l.Nodup → (∀ x ∈ l, x ∈ m) → l.length ≤ m.length
  | [], m, _, _ => Nat.zero_le _
  | a :: l, m, hn, hs => by
    obtain ⟨h1, h2⟩ := List.nodup_cons.mp hn
    have ha := hs a (List.mem_cons_self ..)
    have := nodup_sub (l := l) (m := m.erase a) h2 fun x hx => (List.mem_erase_of_ne (a := x) (b := a) (fun (e : x = a) => h1 (e ▸ hx))).mpr (hs x (List.mem_cons_of_mem _ hx))
    rw [List.length_erase_of_mem ha] at this
    have := List.length_pos_of_mem ha
    rw [List.length_cons]
    omega
theorem Wk.len (w : Wk n s cal P Q) : P.length + Q.length ≤ n := by
  have h : (P ++ Q).length ≤ (rngI n).length := nodup_sub w.nd fun v hv => rngI_mem.mpr (w.inn v hv)
  rw [List.length_append, rngI_len] at h
  exact h
theorem Rt.chi (R : Rt n es s cal) {x u : Int} : u ∈ nbA es x (cal x) ↔ cal u = some x := by
  unfold nbA
  rw [List.mem_filter, nb_mem, decide_eq_true_eq]
  constructor
  · rintro ⟨h1, h2⟩
    rcases R.ad x u h1 with z | z
    · exact absurd z.symm h2
    · exact z
  · intro h
    refine ⟨(R.ca u x h).symm, fun z => ?_⟩
    obtain ⟨rk, hr⟩ := R.rk
    have := hr u x h
    have := hr x u z.symm
    omega
theorem Wk.all (R : Rt n es s cal) (w : Wk n s cal P []) : ∀ v : Int, 0 ≤ v → v < n → v ∈ P := by
  obtain ⟨rk, hr⟩ := R.rk
  have key : ∀ (m : Nat) (v : Int), rk v < m → 0 ≤ v → v < n → v ∈ P := fun m => by
    induction m with
    | zero => exact fun v h => absurd h (Nat.not_lt_zero _)
    | succ m ih =>
      intro v h v0 v1
      by_cases e : v = s
      · have := w.src
        rw [List.append_nil] at this
        rw [e]; exact this
      · obtain ⟨u, hu⟩ := R.co v v0 v1 e
        have hin := R.inn v u (R.ca v u hu)
        have := ih u (by have := hr v u hu; omega) hin.2.1 hin.2.2
        have := w.dn v u hu this
        rwa [List.append_nil] at this
  exact fun v v0 v1 => key _ v (Nat.lt_succ_self _) v0 v1
end
end Tl

namespace Tl
open PySem
theorem nbL_app (es fs : List E3) (v : Int) : (nbL (es ++ fs) v).Perm (nbL es v ++ nbL fs v) := by
  unfold nbL
  rw [List.flatMap_append, List.flatMap_append]
  generalize es.flatMap (fun e => if e.1 = v then [e.2.1] else []) = a
  generalize es.flatMap (fun e => if e.2.1 = v then [e.1] else []) = b
  generalize fs.flatMap (fun e => if e.1 = v then [e.2.1] else []) = c
  generalize fs.flatMap (fun e => if e.2.1 = v then [e.1] else []) = d
  rw [List.append_assoc, List.append_assoc]
  refine List.Perm.append_left a ?_
  rw [← List.append_assoc, ← List.append_assoc]
  exact (List.perm_append_comm).append_right d
theorem mem_nbL {es : List E3} {v u : Int} : u ∈ nbL es v ↔ Adj es v u := by
  rw [← nb_mem]
  unfold nb
  rw [(sortI_perm _).mem_iff]
theorem nbL_one {w u d v : Int} (h : w ≠ u) : nbL [nrm (w, u, d)] v = if v = u then [w] else if v = w then [u] else [] := by
  unfold nbL nrm
  simp only [List.flatMap_cons, List.flatMap_nil, List.append_nil]
  repeat' split
  all_goals first | rfl | (exfalso; omega) | (simp; omega)
theorem Gr.nodup {vs : List Int} {es : List E3} (g : Gr vs es) (v : Int) : (nbL es v).Nodup := by
  induction g with
  | one x => exact List.nodup_nil
  | @leaf vs es u w d g hu hw h1 h2 ih =>
    have wu : w ≠ u := fun z => hw (z ▸ hu)
    refine (nbL_app es _ v).nodup_iff.mpr (List.nodup_append.mpr ⟨ih, ?_, fun a ha b hb e => ?_⟩)
    · rw [nbL_one wu]
      split
      · simp
      · split <;> simp
    · subst e
      rw [nbL_one wu] at hb
      have q := g.adj (mem_nbL.mp ha)
      split at hb
      · rw [List.mem_singleton] at hb
        subst hb
        exact hw q.2.1
      · split at hb
        · rename_i e
          subst e
          exact hw q.1
        · cases hb
theorem nbL_perm {es fs : List E3} (p : es.Perm fs) (v : Int) : (nbL es v).Perm (nbL fs v) := by
  unfold nbL
  exact (p.flatMap_right _).append (p.flatMap_right _)
theorem IsTr.nodup {n : Nat} {es : List E3} (t : IsTr n es) (v : Int) : (nb es v).Nodup := by
  obtain ⟨vs, es', g, p, rfl⟩ := t
  unfold nb
  exact (sortI_perm _).nodup_iff.mpr ((nbL_perm (sortE_perm es') v).nodup_iff.mpr (g.nodup v))
theorem IsTr.nodupA {n : Nat} {es : List E3} (t : IsTr n es) (v : Int) (a : Option Int) : (nbA es v a).Nodup := (t.nodup v).filter _
theorem nil_or_snoc {α : Type} (l : List α) : l = [] ∨ ∃ r x, l = r ++ [x] := by
  rcases List.eq_nil_or_concat l with h | ⟨r, x, h⟩
  · exact .inl h
  · exact .inr ⟨r, x, by rw [h, List.concat_eq_append]⟩
def ch (cal : Int → Option Int) (x : Int) (l : List Int) : List Int := l.filter fun u => decide (some u ≠ cal x)
variable {tf : List Fn} {fu k i : Nat}
structure KV (kvs : List (L2.Key × D)) (l : List Int) (f : Int → D) : Prop where
  get : ∀ v, getK kvs (.inl v) = if v ∈ l then some (f v) else none
  len : kvs.length ≤ l.length
theorem KV.one (s : Int) (f : Int → D) : KV [(.inl s, f s)] [s] f where
  get := fun v => by
    simp only [getK, List.mem_singleton, Sum.inl.injEq]
    by_cases h : s = v
    · rw [if_pos h, if_pos h.symm, h]
    · rw [if_neg h, if_neg fun z => h z.symm]
  len := Nat.le_refl _
theorem KV.congr {kvs : List (L2.Key × D)} {l l' : List Int} {f : Int → D} (h : KV kvs l f) (e : ∀ v, v ∈ l ↔ v ∈ l') (hl : l.length = l'.length) : KV kvs l' f := ⟨fun v => by rw [h.get]; simp [e], by rw [← hl]; exact h.len⟩
end Tl

namespace Tl
open PySem
structure Shw (b d : Nat) (x : D) : Prop where
  ls : x.leavesShort 60 = true
  sh : x.showable = true
  bk : x.bulk ≤ b
  dp : x.depth ≤ d
structure ShwA (b d : Nat) (xs : List D) : Prop where
  ls : PyData.leavesShortAll 60 xs = true
  sh : PyData.showableAll xs = true
  bk : PyData.bulkAll xs ≤ b
  dp : PyData.depthAll xs ≤ d
theorem Shw.ok {b d : Nat} {x : D} (h : Shw b d x) (hb : b ≤ 16000 := by decide) (hd : d ≤ 40 := by decide) : x.showable = true ∧ x.shown.length ≤ 1000000 ∧ x.depth ≤ 40 := by
  have z := PyData.shown_le_bulk 60 (by decide) x h.ls
  have := h.bk
  have := h.dp
  exact ⟨h.sh, by omega, by omega⟩
theorem Shw.le {b b' d d' : Nat} {x : D} (h : Shw b d x) (hb : b ≤ b') (hd : d ≤ d') : Shw b' d' x := ⟨h.ls, h.sh, Nat.le_trans h.bk hb, Nat.le_trans h.dp hd⟩
theorem Shw.none : Shw 0 0 .none := ⟨rfl, rfl, Nat.le_refl _, Nat.le_refl _⟩
theorem Shw.bool (b : Bool) : Shw 0 0 (.bool b) := ⟨rfl, rfl, Nat.le_refl _, Nat.le_refl _⟩
theorem Shw.int {i : Int} (h : i.natAbs < 10 ^ 59) : Shw 0 0 (.int i) := by
  refine ⟨?_, ?_, Nat.le_refl _, Nat.le_refl _⟩
  · simp only [PyData.leavesShort, decide_eq_true_eq]
    have e := int_text_length_le10 (k := 59) (by decide) h
    show (Str.ofString (toString i)).length ≤ 60
    rw [ofString_length]; exact e
  · simp only [PyData.showable, decide_eq_true_eq]
    by_cases q : i.natAbs = 0
    · rw [q]; decide
    · exact (Nat.log2_lt q).mpr (Nat.lt_trans h (by decide))
theorem ShwA.nil : ShwA 0 0 [] := ⟨rfl, rfl, Nat.le_refl _, Nat.le_refl _⟩
theorem ShwA.cons {b d b' : Nat} {x : D} {xs : List D} (h : Shw b d x) (t : ShwA b' d xs) : ShwA (b + 1 + b') d (x :: xs) := by
  refine ⟨?_, ?_, ?_, ?_⟩
  · simp only [PyData.leavesShortAll, h.ls, t.ls, Bool.and_self]
  · simp only [PyData.showableAll, h.sh, t.sh, Bool.and_self]
  · have := h.bk
    have := t.bk
    simp only [PyData.bulkAll]
    omega
  · have := h.dp
    have := t.dp
    simp only [PyData.depthAll]
    omega
theorem ShwA.all {b d : Nat} : ∀ {xs : List D}, (∀ x ∈ xs, Shw b d x) → ShwA (xs.length * (b + 1)) d xs
  | [], _ => ⟨rfl, rfl, Nat.zero_le _, Nat.zero_le _⟩
  | x :: r, h => by
    have := ShwA.cons (h x (List.mem_cons_self ..)) (ShwA.all fun y hy => h y (List.mem_cons_of_mem _ hy))
    rw [List.length_cons, Nat.succ_mul, Nat.add_comm]
    exact this
theorem ShwA.tup {b d : Nat} {xs : List D} (h : ShwA b d xs) : Shw b (d + 1) (.tuple xs) := ⟨by simpa only [PyData.leavesShort] using h.ls, by simpa only [PyData.showable] using h.sh, by simpa only [PyData.bulk] using h.bk, by simp only [PyData.depth]; have := h.dp; omega⟩
theorem ShwA.lst {b d : Nat} {xs : List D} (h : ShwA b d xs) : Shw b (d + 1) (.list xs) := ⟨by simpa only [PyData.leavesShort] using h.ls, by simpa only [PyData.showable] using h.sh, by simpa only [PyData.bulk] using h.bk, by simp only [PyData.depth]; have := h.dp; omega⟩
theorem Shw.tree {n : Nat} {es : List E3} (t : IsTr n es) (hn : n ≤ 100) : Shw 500 3 (treeD n es) := by
  obtain ⟨h1, h2⟩ := t.bounds
  have : ∀ x ∈ es.map edD, Shw 3 1 x := fun x hx => by
    obtain ⟨e, he, rfl⟩ := List.mem_map.mp hx
    have := h2 e he
    unfold edD
    exact (ShwA.tup (.cons (.int (by omega)) (.cons (.int (by omega)) (.cons (.int (by omega)) .nil))))
  have q := ShwA.tup (ShwA.all this)
  rw [List.length_map] at q
  have r := ShwA.tup (ShwA.cons (x := .int (n : Nat)) ((Shw.int (by omega)).le (Nat.le_refl _) (Nat.zero_le _)) (.cons q (ShwA.nil.1 |> fun _ => (⟨rfl, rfl, Nat.zero_le 0, Nat.zero_le _⟩ : ShwA 0 2 []))))
  exact r.le (by omega) (Nat.le_refl _)
theorem dl_bd {n : Nat} {es : List E3} (t : IsTr n es) {v u : Int} (h : Adj es v u) : dlO es v u = some (dl es v u) ∧ 1 ≤ dl es v u ∧ dl es v u ≤ 1000000000 := by
  obtain ⟨d, hd, e, he, e1, _⟩ := dlO_adj t.ord h
  have := (t.bounds.2 e he).2.2.2
  unfold dl
  rw [hd]
  exact ⟨rfl, by simp; omega, by simp; omega⟩
theorem bn_nn {es : List E3} : ∀ (f : Nat) (v : Int) (a : Option Int), 0 ≤ bn es f v a
  | 0, _, _ => Int.le_refl _
  | f + 1, v, a => lst_nn _
def bo (n : Nat) (es : List E3) (v : Int) (a : Option Int) : Int := bn es (2 * n + 2) v a
variable {tf : List Fn} {fu k i : Nat}
end Tl

namespace Tl
open PySem
theorem rngI_succ (n : Nat) : rngI (n + 1) = rngI n ++ [(n : Int)] := by
  unfold rngI
  rw [List.range_succ, List.map_append]
  rfl
variable {tf : List Fn} {fu k i : Nat}
section
variable {iN iD iL iK iB iF iC : Nat} {n : Nat} {es : List E3} {S : Option DS} {s : Int} {cal : Int → Option Int}
def arr (es : List E3) (cal : Int → Option Int) (sch : Int → Int) (v : Int) : Int := match cal v with
  | none => 0
  | some u => sch v + dl es u v
def schD (cal : Int → Option Int) (sch : Int → Int) (n : Nat) : D := .tuple ((rngI n).map fun v => match cal v with
  | none => .none
  | some _ => .int (sch v))
def maxL (l : List Int) : Int := match l with
  | [] => 0
  | x :: r => maxI x r
end
end Tl

namespace Tl
open PySem
theorem bn_fuel {es : List E3} : ∀ (f f' : Nat) (v : Int) (a : Option Int), Ends es f v a → f ≤ f' → bn es f' v a = bn es f v a
  | 0, _, _, _, h, _ => h.elim
  | f + 1, 0, _, _, _, hl => absurd hl (by omega)
  | f + 1, f' + 1, v, a, h, hl => by
    show lst _ = lst _
    congr 1
    exact List.map_congr_left fun u hu => by rw [bn_fuel f f' u (some v) (h u hu).2 (by omega)]
def ky (n : Nat) (es : List E3) (v u : Int) : Int := dl es v u + bo n es u (some v)
theorem bo_lst {n : Nat} {es : List E3} (t : IsTr n es) {v : Int} {a : Option Int} (ha : ∀ u, a = some u → Adj es v u) : bo n es v a = lst ((nbA es v a).map (ky n es v)) := by
  have en := t.ends v a ha
  show lst _ = lst _
  congr 1
  refine List.map_congr_left fun u hu => ?_
  unfold ky bo
  rw [bn_fuel (2 * n + 1) (2 * n + 2) u (some v) (en u hu).2 (by omega)]
variable {tf : List Fn} {fu k i : Nat}
section
variable {iN iD iL iK iB iF iC : Nat} {n : Nat} {es : List E3} {S : Option DS} {s : Int} {cal : Int → Option Int}
def enk (κ : Int → Int) (u : Int) : List Int := [0 - κ u, u]
theorem nbA_lt (t : IsTr n es) (v : Int) (a : Option Int) : (nbA es v a).Pairwise (· < ·) := by
  have h1 : (nbA es v a).Pairwise (· ≤ ·) := (sortI_sorted _).filter _
  have h2 := t.nodupA v a
  exact (h1.and h2).imp fun ⟨x, y⟩ => by omega
def ordL (κ : Int → Int) (l : List Int) : List Int := (sortT (l.map (enk κ))).map fun p => (p[1]?).getD 0
end
end Tl

namespace Tl
open PySem
theorem tl3_inj {a b : E3} (h : tl3 a = tl3 b) : a = b := by
  obtain ⟨a1, a2, a3⟩ := a
  obtain ⟨b1, b2, b3⟩ := b
  simp only [tl3, List.cons.injEq, and_true] at h
  obtain ⟨h1, h2, h3⟩ := h
  rw [h1, h2, h3]
theorem sortE_congr {l m : List E3} (p : l.Perm m) : sortE l = sortE m :=
  ((sortE_perm l).trans (p.trans (sortE_perm m).symm)).eq_of_pairwise (fun a b _ _ h1 h2 => tl3_inj (lexLe_anti _ _ h1 h2)) (sortE_sorted l) (sortE_sorted m)
theorem sortE_idem (l : List E3) : sortE (sortE l) = sortE l := sortE_congr (sortE_perm l)
theorem IsTr.sorted {n : Nat} {es : List E3} (t : IsTr n es) : sortE es = es := by
  obtain ⟨vs, es', g, p, rfl⟩ := t
  exact sortE_idem es'
theorem nrm_id {e : E3} (h : e.1 < e.2.1) : nrm e = e := by
  unfold nrm
  rw [if_neg (by omega), if_pos h]
theorem nrm_map {es : List E3} (h : ∀ e ∈ es, e.1 < e.2.1) : es.map nrm = es := by
  have : es.map nrm = es.map id := List.map_congr_left fun e he => nrm_id (h e he)
  rw [this, List.map_id]
def leafE (es : List E3) (n : Nat) (v d : Int) : List E3 := sortE (es ++ [nrm (v, (n : Int), d)])
theorem IsTr.leaf {n : Nat} {es : List E3} (t : IsTr n es) {v d : Int} (v0 : 0 ≤ v) (v1 : v < n) (d0 : 1 ≤ d) (d1 : d ≤ 1000000000) : IsTr (n + 1) (leafE es n v d) := by
  obtain ⟨vs, es', g, p, rfl⟩ := t
  refine ⟨vs ++ [(n : Int)], es' ++ [nrm ((n : Int), v, d)], Gr.leaf g (p.mem_iff.mpr (rngI_mem.mpr ⟨v0, v1⟩)) (fun z => ?_) d0 d1, ?_, ?_⟩
  · have := rngI_mem.mp (p.mem_iff.mp z)
    omega
  · rw [rngI_succ]
    exact p.append_right _
  · unfold leafE
    rw [nrm_swap v]
    exact sortE_congr ((sortE_perm es').append_right _)
variable {tf : List Fn} {fu k i : Nat}
section
variable {iN iD iL iK iB iF iC iM : Nat} {n : Nat} {es : List E3} {S : Option DS} {s : Int} {cal : Int → Option Int}
end
end Tl

namespace Tl
open PySem
theorem lst_perm {r s : List Int} (p : r.Perm s) : lst r = lst s := by
  have h : ∀ m, lst r ≤ m ↔ lst s ≤ m := fun m => by
    rw [lst_le, lst_le]
    simp only [cnt_perm p]
  exact Int.le_antisymm ((h _).mpr (Int.le_refl _)) ((h _).mp (Int.le_refl _))
variable {tf : List Fn} {fu k i : Nat}
section
variable {iN iD iL iK iB iF : Nat} {n : Nat} {es : List E3} {S : Option DS}
end
end Tl

namespace Tl
open PySem
def tb (f g : Int → D) (l : List Int) (n : Nat) : List D := (rngI n).map fun v => if v ∈ l then f v else g v
section
variable {f g : Int → D} {l l' : List Int} {n : Nat} {v : Int}
end
theorem sorted_eq : ∀ {l m : List Int}, l.Pairwise (· < ·) → m.Pairwise (· < ·) → (∀ x, x ∈ l ↔ x ∈ m) → l = m
  | [], [], _, _, _ => rfl
  | [], b :: m, _, _, h => absurd ((h b).mpr (List.mem_cons_self ..)) (by simp)
  | a :: l, [], _, _, h => absurd ((h a).mp (List.mem_cons_self ..)) (by simp)
  | a :: l, b :: m, h1, h2, h => by
    obtain ⟨p1, p2⟩ := List.pairwise_cons.mp h1
    obtain ⟨q1, q2⟩ := List.pairwise_cons.mp h2
    have e : a = b := by
      rcases List.mem_cons.mp ((h a).mp (List.mem_cons_self ..)) with z | z
      · exact z
      · rcases List.mem_cons.mp ((h b).mpr (List.mem_cons_self ..)) with y | y
        · exact y.symm
        · have := q1 a z
          have := p1 b y
          omega
    subst e
    rw [sorted_eq p2 q2 fun x => ?_]
    constructor
    · intro hx
      rcases List.mem_cons.mp ((h x).mp (List.mem_cons_of_mem _ hx)) with z | z
      · subst z
        exact absurd (p1 x hx) (by omega)
      · exact z
    · intro hx
      rcases List.mem_cons.mp ((h x).mpr (List.mem_cons_of_mem _ hx)) with z | z
      · subst z
        exact absurd (q1 x hx) (by omega)
      · exact z
variable {tf : List Fn} {fu k i : Nat}
section
variable {iN iD iL iK iB iF iC : Nat} {n : Nat} {es : List E3} {S : Option DS} {s : Int} {cal : Int → Option Int}
def Dw (cal : Int → Option Int) (P : List Int) : Prop := ∀ A x B, P = A ++ x :: B → ∀ u, cal x = some u → u ∈ A
theorem Dw.snoc {P : List Int} {x : Int} (h : Dw cal P) (hx : ∀ u, cal x = some u → u ∈ P) : Dw cal (P ++ [x]) := fun A y B e u hu => by
  rcases List.append_eq_append_iff.mp e with ⟨a', e1, e2⟩ | ⟨c', e1, e2⟩
  · cases a' with
    | nil =>
      simp at e1 e2
      rw [e1]
      exact hx u (by rw [e2.1]; exact hu)
    | cons z r => simp at e2
  · cases c' with
    | nil =>
      simp at e1 e2
      rw [← e1]
      exact hx u (by rw [← e2.1]; exact hu)
    | cons z r =>
      simp at e2
      exact h A y r (by rw [e1, e2.1]) u hu
end
end Tl

namespace Tl
open PySem
structure Bst (n : Nat) (es : List E3) (s : Int) (cal : Int → Option Int) (A st : Int → Int) : Prop where
  src : A s = 0
  sv : ∀ u v, cal u = some v → st u = A v + ((ordL (ky n es v) (nbA es v (cal v))).idxOf u : Nat)
  ar : ∀ u v, cal u = some v → A u = st u + dl es v u
def aF (es : List E3) (cal : Int → Option Int) (w : Int → Int → Int) : Nat → Int → Int
  | 0, _ => 0
  | f + 1, v => match cal v with
    | none => 0
    | some u => aF es cal w f u + w u v
theorem aF_fuel {es : List E3} {cal : Int → Option Int} {w : Int → Int → Int} {rk : Int → Nat} (hr : ∀ v u, cal v = some u → rk u < rk v) : ∀ (f f' : Nat) (v : Int), rk v < f → rk v < f' → aF es cal w f v = aF es cal w f' v
  | 0, _, _, h, _ => absurd h (Nat.not_lt_zero _)
  | _ + 1, 0, _, _, h => absurd h (Nat.not_lt_zero _)
  | f + 1, f' + 1, v, h, h' => by
    unfold aF
    cases e : cal v with
    | none => rfl
    | some u =>
      have := hr v u e
      simp only
      rw [aF_fuel hr f f' u (by omega) (by omega)]
theorem Bst.ex {n : Nat} {es : List E3} {s : Int} {cal : Int → Option Int} (R : Rt n es s cal) : ∃ A st, Bst n es s cal A st := by
  obtain ⟨rk, hr⟩ := R.rk
  have key : ∀ u v, cal u = some v → aF es cal (fun v u => ((ordL (ky n es v) (nbA es v (cal v))).idxOf u : Nat) + dl es v u) (rk u + 1) u = aF es cal (fun v u => ((ordL (ky n es v) (nbA es v (cal v))).idxOf u : Nat) + dl es v u) (rk v + 1) v + (((ordL (ky n es v) (nbA es v (cal v))).idxOf u : Nat) + dl es v u) := fun u v h => by
    rw [aF, h]
    simp only
    rw [aF_fuel hr (rk u) (rk v + 1) v (hr u v h) (by omega)]
  refine ⟨fun v => aF es cal (fun v u => ((ordL (ky n es v) (nbA es v (cal v))).idxOf u : Nat) + dl es v u) (rk v + 1) v, fun u => match cal u with
    | none => 0
    | some v => aF es cal (fun v u => ((ordL (ky n es v) (nbA es v (cal v))).idxOf u : Nat) + dl es v u) (rk v + 1) v + ((ordL (ky n es v) (nbA es v (cal v))).idxOf u : Nat), ?_, fun u v h => ?_, fun u v h => ?_⟩
  · show aF _ _ _ _ _ = _
    rw [aF, R.cs]
  · simp only [h]
  · simp only [h]
    rw [key u v h]
    omega
variable {tf : List Fn} {fu k i : Nat}
section
variable {iN iD iL iK iB iF iC : Nat} {n : Nat} {es : List E3} {S : Option DS} {s : Int} {cal : Int → Option Int} {A st : Int → Int}
def stf (cal : Int → Option Int) (sch : Int → Int) (v : Int) : D := match cal v with
  | none => .none
  | some _ => .int (sch v)
theorem schD_stf {sch : Int → Int} : schD cal sch n = .tuple ((rngI n).map (stf cal sch)) := rfl
end
end Tl

namespace Tl
open PySem
def rn (σ : Int → Int) (e : E3) : E3 := (σ e.1, σ e.2.1, e.2.2)
theorem nrm_rn (σ : Int → Int) (e : E3) : nrm (rn σ (nrm e)) = nrm (rn σ e) := by
  obtain ⟨a, b, d⟩ := e
  by_cases h : b < a
  · have e1 : nrm (a, b, d) = (b, a, d) := by unfold nrm; simp only; rw [if_pos h, if_neg (by omega)]
    rw [e1]
    exact nrm_swap _ _ _
  · by_cases q : a < b
    · have e1 : nrm (a, b, d) = (a, b, d) := by unfold nrm; simp only; rw [if_neg h, if_pos q]
      rw [e1]
    · have e2 : a = b := by omega
      subst e2
      have e1 : nrm (a, a, d) = (a, a, d) := by unfold nrm; simp
      rw [e1]
theorem Gr.map {σ : Int → Int} {vs : List Int} {es : List E3} (g : Gr vs es) : (∀ a ∈ vs, ∀ b ∈ vs, σ a = σ b → a = b) → Gr (vs.map σ) (es.map fun e => nrm (rn σ e)) := by
  induction g with
  | one v => intro _; exact .one _
  | @leaf vs es u w d g hu hw h1 h2 ih =>
    intro hi
    have g2 := ih fun a ha b hb => hi a (List.mem_append_left _ ha) b (List.mem_append_left _ hb)
    rw [List.map_append, List.map_append, List.map_cons, List.map_nil, List.map_cons, List.map_nil, nrm_rn]
    refine Gr.leaf g2 (List.mem_map.mpr ⟨u, hu, rfl⟩) (fun z => ?_) h1 h2
    obtain ⟨a, ha, e⟩ := List.mem_map.mp z
    have := hi a (List.mem_append_left _ ha) w (List.mem_append_right _ (List.mem_singleton.mpr rfl)) e
    exact hw (this ▸ ha)
theorem Gr.join {vs : List Int} {es : List E3} (g : Gr vs es) {ws : List Int} {fs : List E3} (g2 : Gr ws fs) : ∀ {r : Int} {ws' : List Int} {u d : Int}, ws = r :: ws' → u ∈ vs → (∀ x ∈ ws, x ∉ vs) → 1 ≤ d → d ≤ 1000000000 → ∃ es', Gr (vs ++ ws) es' ∧ es'.Perm (es ++ nrm (u, r, d) :: fs) := by
  induction g2 with
  | one v =>
    intro r ws' u d e hu hx h1 h2
    cases e
    refine ⟨_, Gr.leaf g hu (hx _ (List.mem_singleton.mpr rfl)) h1 h2, ?_⟩
    rw [nrm_swap]
  | @leaf ws fs x w dd g2 hx2 hw k1 k2 ih =>
    intro r ws' u d e hu hx h1 h2
    have hne : ws ≠ [] := fun z => by rw [z] at hx2; cases hx2
    obtain ⟨a, q, rfl⟩ := List.exists_cons_of_ne_nil hne
    have ea : a = r := by simpa using congrArg List.head? e
    subst ea
    obtain ⟨es', g3, p⟩ := ih rfl hu (fun x hx' => hx x (List.mem_append_left _ hx')) h1 h2
    have := Gr.leaf (d := dd) g3 (List.mem_append_right _ hx2) (w := w) (fun z => by
      rcases List.mem_append.mp z with z | z
      · exact hx w (List.mem_append_right _ (List.mem_singleton.mpr rfl)) z
      · exact hw z) k1 k2
    refine ⟨_, by rw [← List.append_assoc]; exact this, ?_⟩
    have := p.append_right [nrm (w, x, dd)]
    simpa using this
theorem IsTr.reroot {n : Nat} {es : List E3} (t : IsTr n es) {s : Int} (h0 : 0 ≤ s) (h1 : s < n) : ∃ vs' es', Gr (s :: vs') es' ∧ (s :: vs').Perm (rngI n) ∧ es'.Perm es := by
  obtain ⟨vs, es', g, p, rfl⟩ := t
  obtain ⟨vs', es2, g', p1, p2⟩ := g.reroot s (p.mem_iff.mpr (rngI_mem.mpr ⟨h0, h1⟩))
  exact ⟨vs', es2, g', p1.trans p, p2.trans (sortE_perm es').symm⟩
theorem rngI_add (c n : Nat) : rngI (c + n) = rngI c ++ (rngI n).map (· + (c : Int)) := by
  unfold rngI
  rw [List.range_add, List.map_append, List.map_map, List.map_map]
  congr 1
  refine List.map_congr_left fun x _ => ?_
  simp only [Function.comp]
  omega
structure TG (c : Nat) (ts : List E3) : Prop where
  gr : ∃ vs fs, Gr vs fs ∧ vs.Perm (rngI c) ∧ fs.Perm (ts.map nrm)
  bd : ∀ e ∈ ts, (0 ≤ e.1 ∧ e.1 < c) ∧ (0 ≤ e.2.1 ∧ e.2.1 < c) ∧ 1 ≤ e.2.2 ∧ e.2.2 ≤ 1000000000
theorem TG.one : TG 1 [] := ⟨⟨[0], [], .one 0, List.Perm.refl _, List.Perm.refl _⟩, fun e h => nomatch h⟩
theorem TG.tr {c : Nat} {ts : List E3} (h : TG c ts) : IsTr c (sortE (ts.map nrm)) := by
  obtain ⟨vs, fs, g, p, q⟩ := h.gr
  exact ⟨vs, fs, g, p, sortE_congr q.symm⟩
theorem TG.len {c : Nat} {ts : List E3} (h : TG c ts) : c = ts.length + 1 := by
  have := h.tr.bounds.1
  rw [(sortE_perm _).length_eq, List.length_map] at this
  exact this
theorem IsTr.tg {n : Nat} {es : List E3} (t : IsTr n es) : TG n es := by
  have tb := t.bounds
  refine ⟨?_, fun e he => ?_⟩
  · obtain ⟨vs, es', g, p, rfl⟩ := t
    refine ⟨vs, es', g, p, ?_⟩
    rw [nrm_map fun e he => (by have := tb.2 e he; omega)]
    exact (sortE_perm es').symm
  · have := tb.2 e he
    omega
theorem TG.branch {c n : Nat} {ts es : List E3} (h : TG c ts) (t : IsTr n es) (hn : 1 ≤ n) {u d : Int} (u0 : 0 ≤ u) (u1 : u < c) (d0 : 1 ≤ d) (d1 : d ≤ 1000000000) : TG (c + n) (ts ++ (u, (c : Int), d) :: es.map (rn (· + (c : Int)))) := by
  obtain ⟨vs, fs, g, p, q⟩ := h.gr
  obtain ⟨vs', es2, g2, p2, q2⟩ := t.reroot (s := 0) (Int.le_refl _) (by omega)
  have tb := t.bounds
  have g3 := g2.map (σ := (· + (c : Int))) fun a _ b _ e => by have e : a + (c : Int) = b + c := e; omega
  obtain ⟨es', g4, p4⟩ := g.join g3 (r := 0 + (c : Int)) (ws' := vs'.map (· + (c : Int))) (u := u) (d := d) rfl (p.mem_iff.mpr (rngI_mem.mpr ⟨u0, u1⟩)) (fun x hx z => by
    obtain ⟨a, ha, rfl⟩ := List.mem_map.mp hx
    have := rngI_mem.mp (p2.mem_iff.mp ha)
    have := rngI_mem.mp (p.mem_iff.mp z)
    omega) d0 d1
  refine ⟨⟨_, es', g4, ?_, p4.trans ?_⟩, fun e he => ?_⟩
  · rw [rngI_add]
    exact p.append (p2.map _)
  · rw [List.map_append, List.map_cons, List.map_map, Int.zero_add]
    exact q.append ((q2.map _).cons _)
  · rcases List.mem_append.mp he with z | z
    · have := h.bd e z
      omega
    · rcases List.mem_cons.mp z with rfl | z
      · simp only
        omega
      · obtain ⟨a, ha, rfl⟩ := List.mem_map.mp z
        have := tb.2 a ha
        unfold rn
        simp only
        omega
theorem IsTr.single : IsTr 1 [] := ⟨[0], [], .one 0, List.Perm.refl _, rfl⟩
theorem TG.leaf {c : Nat} {ts : List E3} (h : TG c ts) {u d : Int} (u0 : 0 ≤ u) (u1 : u < c) (d0 : 1 ≤ d) (d1 : d ≤ 1000000000) : TG (c + 1) (ts ++ [(u, (c : Int), d)]) := h.branch IsTr.single (Nat.le_refl _) u0 u1 d0 d1
def sg (vs : List Int) (v : Int) : Int := (vs[v.toNat]?).getD 0
theorem sg_at {vs : List Int} {v : Int} (h0 : 0 ≤ v) (h1 : v < vs.length) : atD (vs.map PyData.int) v = some (.int (sg vs v)) := by
  obtain ⟨x, e1, _, e2⟩ := atD_in (xs := vs.map PyData.int) h0 (by rw [List.length_map]; exact h1)
  rw [e1, ← e2, List.getElem?_map]
  unfold sg
  rw [List.getElem?_eq_getElem (by omega)]
  rfl
theorem sg_map {vs : List Int} : (rngI vs.length).map (sg vs) = vs := by
  apply List.ext_getElem?
  intro j
  rw [List.getElem?_map]
  by_cases hj : j < vs.length
  · have e : (rngI vs.length)[j]? = some (j : Int) := by
      unfold rngI
      rw [List.getElem?_map, List.getElem?_range hj]
      rfl
    rw [e]
    unfold sg
    rw [Option.map_some, Int.toNat_natCast, List.getElem?_eq_getElem hj]
    rfl
  · rw [List.getElem?_eq_none (by rw [rngI_len]; omega), List.getElem?_eq_none (by omega)]
    rfl
theorem sg_inj {vs : List Int} (hn : vs.Nodup) {a b : Int} (a0 : 0 ≤ a) (a1 : a < vs.length) (b0 : 0 ≤ b) (b1 : b < vs.length) (h : sg vs a = sg vs b) : a = b := by
  unfold sg at h
  rw [List.getElem?_eq_getElem (by omega), List.getElem?_eq_getElem (by omega)] at h
  have := (List.getElem_inj hn).mp h
  omega
theorem TG.name {c : Nat} {ts : List E3} (h : TG c ts) {vs : List Int} (p : vs.Perm (rngI c)) : TG c (ts.map (rn (sg vs))) := by
  obtain ⟨ws, fs, g, p2, q⟩ := h.gr
  have vl : vs.length = c := by rw [p.length_eq, rngI_len]
  have vn : vs.Nodup := perm_nodup p (rngI_nodup _)
  have sb : ∀ v : Int, 0 ≤ v → v < c → 0 ≤ sg vs v ∧ sg vs v < c := fun v h0 h1 => by
    have : sg vs v ∈ vs := by
      unfold sg
      rw [List.getElem?_eq_getElem (by omega)]
      exact List.getElem_mem ..
    exact rngI_mem.mp (p.mem_iff.mp this)
  refine ⟨⟨_, _, g.map (σ := sg vs) fun a ha b hb e => ?_, ?_, ?_⟩, fun e he => ?_⟩
  · have h1 := rngI_mem.mp (p2.mem_iff.mp ha)
    have h2 := rngI_mem.mp (p2.mem_iff.mp hb)
    exact sg_inj vn h1.1 (by omega) h2.1 (by omega) e
  · refine (p2.map _).trans ?_
    rw [← vl, sg_map, vl]
    exact p
  · refine (q.map _).trans ?_
    rw [List.map_map, List.map_map]
    have : ((fun e => nrm (rn (sg vs) e)) ∘ nrm : E3 → E3) = nrm ∘ rn (sg vs) := by
      funext e
      exact nrm_rn _ _
    rw [this]
  · obtain ⟨a, ha, rfl⟩ := List.mem_map.mp he
    have := h.bd a ha
    exact ⟨sb _ this.1.1 this.1.2, sb _ this.2.1.1 this.2.1.2, this.2.2⟩
theorem TG.ok {c : Nat} {ts : List E3} (h : TG c ts) (hc : c ≤ 60) : ts.length < 64 ∧ ∀ e ∈ ts, (0 ≤ e.1 ∧ e.1 < 2 ^ 62) ∧ (0 ≤ e.2.1 ∧ e.2.1 < 2 ^ 62) ∧ 0 ≤ e.2.2 ∧ e.2.2 < 2 ^ 62 := by
  have := h.len
  refine ⟨by omega, fun e he => ?_⟩
  have := h.bd e he
  omega
variable {tf : List Fn} {fu k i : Nat}
end Tl

namespace Tl
open PySem
structure Fc (es : List E3) (s : Int) (cal : Int → Option Int) (L : List Int) (sch A : Int → Int) (B : Int) : Prop where
  src : A s = 0
  nn : 0 ≤ B
  ar : ∀ v ∈ L, ∀ w, cal v = some w → A v = sch v + dl es w v
  lo : ∀ v ∈ L, ∀ w, cal v = some w → A w ≤ sch v
  up : ∀ v ∈ L, ∀ w, cal v = some w → 0 ≤ sch v ∧ A v ≤ B
  ne : ∀ v ∈ L, ∀ v' ∈ L, ∀ w, cal v = some w → cal v' = some w → v ≠ v' → sch v ≠ sch v'
def upd (f : Int → Int) (u z : Int) (v : Int) : Int := if v = u then z else f v
theorem upd_same {f : Int → Int} {u z : Int} : upd f u z u = z := if_pos rfl
theorem upd_ne {f : Int → Int} {u z v : Int} (h : v ≠ u) : upd f u z v = f v := if_neg h
theorem Fc.add {es : List E3} {s : Int} {cal : Int → Option Int} {L : List Int} {sch A : Int → Int} {B : Int} (h : Fc es s cal L sch A B) {u x T z M : Int} (hcs : cal s = none) (hu : cal u = some x) (hL : u ∉ L) (hc : ∀ v ∈ L, cal v ≠ some u) (hxu : x ≠ u) (hd : 1 ≤ dl es x u ∧ dl es x u ≤ 1000000000)
    (T0 : 0 ≤ T) (T1 : A x ≤ T) (T2 : T ≤ B) (T3 : ∀ v ∈ L, cal v = some x → sch v < T) (z0 : 0 ≤ z) (z1 : z ≤ M) :
    Fc es s cal (L ++ [u]) (upd sch u (T + z)) (upd A u (T + z + dl es x u)) (B + (M + 1000000001)) ∧ (0 ≤ T + z + 1 ∧ upd A u (T + z + dl es x u) x ≤ T + z + 1 ∧ T + z + 1 ≤ B + (M + 1000000001) ∧ ∀ v ∈ L ++ [u], cal v = some x → upd sch u (T + z) v < T + z + 1) := by
  have us : s ≠ u := fun e => by rw [e, hu] at hcs; cases hcs
  have nn := h.nn
  have lu : ∀ v ∈ L, v ≠ u := fun v hv e => hL (e ▸ hv)
  have sp : ∀ v ∈ L ++ [u], v ∈ L ∨ v = u := fun v hv => by
    rcases List.mem_append.mp hv with q | q
    · exact .inl q
    · exact .inr (List.mem_singleton.mp q)
  refine ⟨⟨by rw [upd_ne us]; exact h.src, by omega, fun v hv w hw => ?_, fun v hv w hw => ?_, fun v hv w hw => ?_, fun v hv v' hv' w hw hw' hne => ?_⟩, by omega, by rw [upd_ne hxu]; omega, by omega, fun v hv hw => ?_⟩
  · rcases sp v hv with q | rfl
    · rw [upd_ne (lu v q), upd_ne (lu v q)]
      exact h.ar v q w hw
    · rw [hu] at hw
      cases hw
      rw [upd_same, upd_same]
  · rcases sp v hv with q | rfl
    · have wu : w ≠ u := fun e => hc v q (by rw [hw, e])
      rw [upd_ne (lu v q), upd_ne wu]
      exact h.lo v q w hw
    · rw [hu] at hw
      cases hw
      rw [upd_same, upd_ne hxu]
      omega
  · rcases sp v hv with q | rfl
    · rw [upd_ne (lu v q), upd_ne (lu v q)]
      have := h.up v q w hw
      omega
    · rw [upd_same, upd_same]
      omega
  · rcases sp v hv with q | rfl
    · rcases sp v' hv' with q' | rfl
      · rw [upd_ne (lu v q), upd_ne (lu v' q')]
        exact h.ne v q v' q' w hw hw' hne
      · rw [hu] at hw'
        cases hw'
        have := T3 v q hw
        rw [upd_ne (lu v q), upd_same]
        omega
    · rcases sp v' hv' with q' | rfl
      · rw [hu] at hw
        cases hw
        have := T3 v' q' hw'
        rw [upd_same, upd_ne (lu v' q')]
        omega
      · exact absurd rfl hne
  · rcases sp v hv with q | rfl
    · have := T3 v q hw
      rw [upd_ne (lu v q)]
      omega
    · rw [upd_same]
      omega
structure Scd (es : List E3) (cal : Int → Option Int) (sch : Int → Int) (B : Int) : Prop where
  nn : ∀ v u, cal v = some u → 0 ≤ sch v ∧ sch v ≤ B
  lo : ∀ v u, cal v = some u → arr es cal sch u ≤ sch v
  ne : ∀ v w u, cal v = some u → cal w = some u → v ≠ w → sch v ≠ sch w
theorem Shw.sch {n : Nat} {es : List E3} {cal : Int → Option Int} {sch : Int → Int} {B : Int} (h : Scd es cal sch B) (hB : B < 10 ^ 50) (hn : n ≤ 100) : Shw 100 1 (schD cal sch n) := by
  rw [schD_stf]
  refine Shw.le (ShwA.tup (ShwA.all (b := 0) (d := 0) fun x hx => ?_)) ?_ (Nat.le_refl _)
  · obtain ⟨v, _, rfl⟩ := List.mem_map.mp hx
    unfold stf
    split
    · exact .none
    · rename_i u hu
      have := h.nn v u hu
      exact .int (by omega)
  · rw [List.length_map, rngI_len]; omega
variable {tf : List Fn} {fu k i : Nat}
section
variable {iN iD iL iK iB iF iC : Nat} {n : Nat} {es : List E3} {s : Int} {cal : Int → Option Int}
end
end Tl

namespace Tl
open PySem
theorem KV.nil (f : Int → D) : KV [] [] f := ⟨fun v => by simp [getK], Nat.le_refl _⟩
variable {tf : List Fn} {fu k i : Nat}
section
variable {iN iD iM iP : Nat} {n : Nat} {es : List E3} {S : Option DS} {ws : List Int}
end
end Tl

namespace Tl
open PySem
def bOne (xNext : Nat) : ISs := .cons (.ret (.subv 1 (.call xNext (.cons (.var 0) (.cons (.lenv 1) .nil))))) .nil
section
variable {n : Nat} {es : List E3} {s : Int} {cal : Int → Option Int}
theorem isE_comm {a b : Int} : isE a b = isE b a := by
  funext e
  unfold isE
  congr 1
  · congr 1
    split <;> split <;> first | rfl | (apply propext; constructor <;> intro h <;> omega) | (simp; omega)
  · congr 1
    split <;> split <;> first | rfl | (apply propext; constructor <;> intro h <;> omega) | (simp; omega)
theorem dl_comm (a b : Int) : dl es a b = dl es b a := by unfold dl dlO; rw [isE_comm]
theorem nd_none {v : Int} : nd n es v = bo n es v none := rfl
structure Dst (es : List E3) (s : Int) (cal : Int → Option Int) (d : Int → Int) : Prop where
  src : d s = 0
  st : ∀ u v, cal u = some v → d u = d v + dl es v u
theorem Dst.ex (R : Rt n es s cal) : ∃ d, Dst es s cal d := by
  obtain ⟨rk, hr⟩ := R.rk
  refine ⟨fun v => aF es cal (fun v u => dl es v u) (rk v + 1) v, ?_, fun u v h => ?_⟩
  · show aF _ _ _ _ _ = _
    rw [aF, R.cs]
  · show aF _ _ _ _ _ = aF _ _ _ _ _ + _
    rw [aF, h]
    simp only
    rw [aF_fuel hr (rk u) (rk v + 1) v (hr u v h) (by omega)]
theorem Rt.ind (R : Rt n es s cal) {p : Int → Prop} (h0 : p s) (hs : ∀ u v, cal u = some v → p v → p u) : ∀ v : Int, 0 ≤ v → v < n → p v := by
  obtain ⟨rk, hr⟩ := R.rk
  have key : ∀ (m : Nat) (v : Int), rk v < m → 0 ≤ v → v < n → p v := fun m => by
    induction m with
    | zero => exact fun v h => absurd h (Nat.not_lt_zero _)
    | succ m ih =>
      intro v h v0 v1
      by_cases e : v = s
      · rw [e]; exact h0
      · obtain ⟨u, hu⟩ := R.co v v0 v1 e
        have hin := R.inn v u (R.ca v u hu)
        exact hs v u hu (ih u (by have := hr v u hu; omega) hin.2.1 hin.2.2)
  exact fun v v0 v1 => key _ v (Nat.lt_succ_self _) v0 v1
end
variable {tf : List Fn} {fu k i : Nat}
section
variable {iN iE : Nat} {n : Nat} {es : List E3} {S : Option DS} {s : Int} {cal : Int → Option Int} {d : Int → Int}
end
theorem one_W {S : DS} {b xn : Nat} {l : List Int} (hn : tf[xn]? = some ⟨2, 9, bNext⟩) (hf : tf[i]? = some ⟨2, 2, bOne xn⟩) (hk : 1 < k) (hS : Gd b S) (hb : b ≤ 2 ^ 24) (h0 : l ≠ []) (h1 : l.length < 1000) :
    W (callF tf fu k i [.dr, .v (.list (l.map .int))] (some S)) fun p => ∃ (x : Int) (S' : DS), p = (.v (.int x), some S') ∧ x ∈ l ∧ Gd (b + 1) S' := by
  obtain ⟨k, rfl⟩ : ∃ j, k = j + 1 := ⟨k - 1, by omega⟩
  have hl : 0 < l.length := List.length_pos_iff.mpr h0
  refine W_call hf rfl ?_
  unfold bOne
  (try simp only [W_cons, W_nil, kS_nx, kS_rt, kS_bk, oQ_nx, oQ_rt, W_some, W_bind, W_map, W_guard, W_guardB, evE_comp, evS_for, evS_while, evS_mkdr, evE_var, evE_con, evE_bin, evE_neg, evE_not_, evE_cmp, evE_chain, evE_and_, evE_or_, evE_ite, evE_tup, evE_lst, evE_sub, evE_subv, evE_slice, evE_rev, evE_lenv, evE_nilv, evE_inv, evE_call, evE_bi, evE_rngl, evE_isi, evE_pop0, evE_pop1, evS_set, evS_unp, evS_par, evS_stsub, evS_app, evS_drop, evS_if_, evS_ret, evS_retN, evS_brk, evS_pass, evS_undr, evEs, evPs, evO, evI, evT, startG, List.map_cons, List.map_nil, List.set_cons_zero, List.set_cons_succ, List.getElem?_cons_zero, List.getElem?_cons_succ, List.length_cons, List.length_nil, List.cons_append, List.nil_append, List.replicate_succ, List.replicate_zero, Nat.reduceAdd, Nat.reduceSub, cmpD_ii_eq, cmpD_ii_ne, cmpD_ii_lt, cmpD_ii_le, cmpD_ii_gt, cmpD_ii_ge, cmpD_bb_eq, cmpD_bb_ne, List.all_cons, List.all_nil, List.any_cons, List.any_nil, Bool.or_false, Bool.or_true, Bool.true_or, Bool.false_or, Bool.and_true, Bool.true_and, Bool.and_self, isTy, wipeG, backG, Option.bind_some, Option.map_some, Bool.not_true, Bool.not_false, ite_true, ite_false, if_true, if_false, true_and, and_true, Bool.false_eq_true, evI_seq, List.isEmpty_nil, List.isEmpty_cons, List.length_map, decide_eq_true_eq, Bool.and_eq_true, b_add, b_sub, b_mul, b_div, b_mod, b_pow, b_addL, b_addT, b_mulL, sl_v, sl_f, sl_dr, sl_scr, ar_v, ar_f, ar_dr, ar_scr, rv_v, rv_f, as_i, as_b, da_nil, da_cons, sa_nil, sa_cons, bi_len, bi_max2, bi_min2, bi_maxL, bi_minL, bi_sumL, bi_allL, bi_anyL, bi_sorted, bi_sortedR, bi_listL, bi_listT, bi_tupL, bi_tupT, bi_int1, bi_int1b, bi_abs1, bi_repr, ag_n, ag_nil, ag_cons, up_l, up_t, sq_l, sq_t, ln_l, ln_t, rg_1, rg_2, en_l, zp_l, zp_t, sb_l, sb_t, ra_eq, rd_mk, st_mk, wp_mk, bk_mk, ls_mk, nl_mk, bn_mk, bl_mk, no_mk, ss_mk, is_mk, sS_mk, pS_mk, aS_mk, sv_scr, sv_v, sv_f, sr_l, sr_t, rr_l, evE_lstx, evE_dsp, evE_idx, evE_dcomp, evS_ext, ex_l, evS_augI, evXs_nil, evXs_cons, evXs_star, eS_mk, gI_mk, ke_i, ke_s, sl_fd, b_shl, b_shr, b_and, bi_min3, sortR_ints, sortRR_ints, ai_nil, ai_cons, allInts_map, evE_imax, evE_slb, evE_sla, rr_t, slb_t, sla_l, im_mk, bi_sortedT, bi_lenSet, bi_sortSet, Int.reduceLE, Int.reduceLT, Int.reduceToNat, Int.reducePow, Nat.reduceLT, Nat.reduceLeDiff, Nat.reducePow, Int.reduceNeg, Int.reduceAbs, small_lit, at_0, at_1, at_2, decide_true, decide_false, gt_iff_lt, ge_iff_le, eq_self, Bool.not_eq_true])
  refine (next_W hn (by omega) hS hb (by omega) (by omega)).mono ?_
  rintro _ ⟨r, S1, rfl, r0, r1, g1⟩
  obtain ⟨x, e1, hm, _⟩ := atD_in (xs := l.map PyData.int) r0 (by rw [List.length_map]; exact r1)
  obtain ⟨z, hz, rfl⟩ := List.mem_map.mp hm
  (try simp only [W_cons, W_nil, kS_nx, kS_rt, kS_bk, oQ_nx, oQ_rt, W_some, W_bind, W_map, W_guard, W_guardB, evE_comp, evS_for, evS_while, evS_mkdr, evE_var, evE_con, evE_bin, evE_neg, evE_not_, evE_cmp, evE_chain, evE_and_, evE_or_, evE_ite, evE_tup, evE_lst, evE_sub, evE_subv, evE_slice, evE_rev, evE_lenv, evE_nilv, evE_inv, evE_call, evE_bi, evE_rngl, evE_isi, evE_pop0, evE_pop1, evS_set, evS_unp, evS_par, evS_stsub, evS_app, evS_drop, evS_if_, evS_ret, evS_retN, evS_brk, evS_pass, evS_undr, evEs, evPs, evO, evI, evT, startG, List.map_cons, List.map_nil, List.set_cons_zero, List.set_cons_succ, List.getElem?_cons_zero, List.getElem?_cons_succ, List.length_cons, List.length_nil, List.cons_append, List.nil_append, List.replicate_succ, List.replicate_zero, Nat.reduceAdd, Nat.reduceSub, cmpD_ii_eq, cmpD_ii_ne, cmpD_ii_lt, cmpD_ii_le, cmpD_ii_gt, cmpD_ii_ge, cmpD_bb_eq, cmpD_bb_ne, List.all_cons, List.all_nil, List.any_cons, List.any_nil, Bool.or_false, Bool.or_true, Bool.true_or, Bool.false_or, Bool.and_true, Bool.true_and, Bool.and_self, isTy, wipeG, backG, Option.bind_some, Option.map_some, Bool.not_true, Bool.not_false, ite_true, ite_false, if_true, if_false, true_and, and_true, Bool.false_eq_true, evI_seq, List.isEmpty_nil, List.isEmpty_cons, List.length_map, decide_eq_true_eq, Bool.and_eq_true, b_add, b_sub, b_mul, b_div, b_mod, b_pow, b_addL, b_addT, b_mulL, sl_v, sl_f, sl_dr, sl_scr, ar_v, ar_f, ar_dr, ar_scr, rv_v, rv_f, as_i, as_b, da_nil, da_cons, sa_nil, sa_cons, bi_len, bi_max2, bi_min2, bi_maxL, bi_minL, bi_sumL, bi_allL, bi_anyL, bi_sorted, bi_sortedR, bi_listL, bi_listT, bi_tupL, bi_tupT, bi_int1, bi_int1b, bi_abs1, bi_repr, ag_n, ag_nil, ag_cons, up_l, up_t, sq_l, sq_t, ln_l, ln_t, rg_1, rg_2, en_l, zp_l, zp_t, sb_l, sb_t, ra_eq, rd_mk, st_mk, wp_mk, bk_mk, ls_mk, nl_mk, bn_mk, bl_mk, no_mk, ss_mk, is_mk, sS_mk, pS_mk, aS_mk, sv_scr, sv_v, sv_f, sr_l, sr_t, rr_l, evE_lstx, evE_dsp, evE_idx, evE_dcomp, evS_ext, ex_l, evS_augI, evXs_nil, evXs_cons, evXs_star, eS_mk, gI_mk, ke_i, ke_s, sl_fd, b_shl, b_shr, b_and, bi_min3, sortR_ints, sortRR_ints, ai_nil, ai_cons, allInts_map, evE_imax, evE_slb, evE_sla, rr_t, slb_t, sla_l, im_mk, bi_sortedT, bi_lenSet, bi_sortSet, Int.reduceLE, Int.reduceLT, Int.reduceToNat, Int.reducePow, Nat.reduceLT, Nat.reduceLeDiff, Nat.reducePow, Int.reduceNeg, Int.reduceAbs, small_lit, at_0, at_1, at_2, decide_true, decide_false, gt_iff_lt, ge_iff_le, eq_self, Bool.not_eq_true, e1])
  exact ⟨z, S1, rfl, hz, g1⟩
end Tl

namespace Tl
open PySem
def pr (e : E3) : Int × Int := (e.1, e.2.1)
def rd (φ : E3 → Int) (e : E3) : E3 := (e.1, e.2.1, φ e)
theorem Gr.pairs {vs : List Int} {es : List E3} (g : Gr vs es) : (es.map pr).Nodup := by
  induction g with
  | one v => exact List.nodup_nil
  | @leaf vs es u w d g hu hw h1 h2 ih =>
    rw [List.map_append, List.nodup_append]
    refine ⟨ih, by simp, fun a ha b hb e => ?_⟩
    subst e
    obtain ⟨x, hx, rfl⟩ := List.mem_map.mp ha
    rw [List.map_cons, List.map_nil, List.mem_singleton] at hb
    obtain ⟨b1, b2, _⟩ := g.bounds.2 x hx
    have : w = x.1 ∨ w = x.2.1 := by
      have e1 := congrArg Prod.fst hb
      have e2 := congrArg Prod.snd hb
      unfold pr nrm at e1 e2
      simp only at e1 e2
      by_cases q : u < w
      · right
        rw [if_neg (by omega)] at e2
        exact e2.symm
      · left
        rw [if_neg q] at e1
        exact e1.symm
    rcases this with z | z
    · exact hw (z ▸ b1)
    · exact hw (z ▸ b2)
theorem IsTr.pairs {n : Nat} {es : List E3} (t : IsTr n es) : (es.map pr).Nodup := by
  obtain ⟨vs, es', g, p, rfl⟩ := t
  exact ((sortE_perm es').map pr).nodup_iff.mpr g.pairs
theorem pr_inj {es : List E3} (h : (es.map pr).Nodup) {a b : E3} (ha : a ∈ es) (hb : b ∈ es) (e : pr a = pr b) : a = b := by
  induction es with
  | nil => cases ha
  | cons x r ih =>
    rw [List.map_cons] at h
    obtain ⟨h1, h2⟩ := List.nodup_cons.mp h
    rcases List.mem_cons.mp ha with rfl | ha'
    · rcases List.mem_cons.mp hb with rfl | hb'
      · rfl
      · exact absurd (e ▸ List.mem_map.mpr ⟨b, hb', rfl⟩) h1
    · rcases List.mem_cons.mp hb with rfl | hb'
      · exact absurd (e ▸ List.mem_map.mpr ⟨a, ha', rfl⟩) h1
      · exact ih h2 ha' hb'
section
variable {n : Nat} {es : List E3} {φ : E3 → Int} {s : Int} {cal : Int → Option Int}
theorem dlO_rd (a b : Int) : dlO (es.map (rd φ)) a b = (es.find? (isE a b)).map φ := by
  unfold dlO
  rw [List.find?_map, Option.map_map]
  rfl
theorem find_adj (t : IsTr n es) {a b : Int} (h : Adj es a b) : ∃ e ∈ es, es.find? (isE a b) = some e ∧ ((e.1 = a ∧ e.2.1 = b) ∨ (e.1 = b ∧ e.2.1 = a)) ∧ dl es a b = e.2.2 ∧ dl (es.map (rd φ)) a b = φ e := by
  obtain ⟨d, hd, _⟩ := dlO_adj t.ord h
  unfold dlO at hd
  cases hf : es.find? (isE a b) with
  | none => rw [hf] at hd; cases hd
  | some e =>
    have hm := List.mem_of_find?_eq_some hf
    have hp := List.find?_some hf
    unfold isE at hp
    rw [Bool.and_eq_true, decide_eq_true_eq, decide_eq_true_eq] at hp
    have := t.ord e hm
    refine ⟨e, hm, rfl, ?_, ?_, ?_⟩
    · by_cases q : a < b
      · rw [if_neg (by omega)] at hp
        rw [if_pos q] at hp
        exact .inl hp
      · by_cases r : b < a
        · rw [if_pos r, if_neg q] at hp
          exact .inr hp
        · rw [if_neg q, if_neg r] at hp
          omega
    · unfold dl dlO
      rw [hf]
      rfl
    · unfold dl
      rw [dlO_rd, hf]
      rfl
end
section
variable {n : Nat} {es : List E3} {e0 : E3} {m : Int}
end
end Tl

namespace Tl
open PySem
structure Pth (s : Int) (cal : Int → Option Int) (pth : Int → List Int) : Prop where
  src : pth s = [s]
  st : ∀ u v, cal u = some v → pth u = pth v ++ [u]
def pF (cal : Int → Option Int) : Nat → Int → List Int
  | 0, v => [v]
  | f + 1, v => match cal v with
    | none => [v]
    | some u => pF cal f u ++ [v]
theorem pF_fuel {cal : Int → Option Int} {rk : Int → Nat} (hr : ∀ v u, cal v = some u → rk u < rk v) : ∀ (f f' : Nat) (v : Int), rk v < f → rk v < f' → pF cal f v = pF cal f' v
  | 0, _, _, h, _ => absurd h (Nat.not_lt_zero _)
  | _ + 1, 0, _, _, h => absurd h (Nat.not_lt_zero _)
  | f + 1, f' + 1, v, h, h' => by
    unfold pF
    cases e : cal v with
    | none => rfl
    | some u =>
      have := hr v u e
      simp only
      rw [pF_fuel hr f f' u (by omega) (by omega)]
section
variable {n : Nat} {es : List E3} {s : Int} {cal : Int → Option Int} {pth : Int → List Int}
theorem Pth.ex (R : Rt n es s cal) : ∃ pth, Pth s cal pth := by
  obtain ⟨rk, hr⟩ := R.rk
  refine ⟨fun v => pF cal (rk v + 1) v, ?_, fun u v h => ?_⟩
  · show pF _ _ _ = _
    rw [pF, R.cs]
  · show pF _ _ _ = pF _ _ _ ++ _
    rw [pF, h]
    simp only
    rw [pF_fuel hr (rk u) (rk v + 1) v (hr u v h) (by omega)]
def Lk (es : List E3) : List Int → Prop
  | [] => True
  | [_] => True
  | x :: y :: r => Adj es x y ∧ Lk es (y :: r)
theorem Lk.snoc : ∀ {l : List Int} {x y : Int}, Lk es (l ++ [x]) → Adj es x y → Lk es (l ++ [x] ++ [y])
  | [], x, y, _, h => ⟨h, trivial⟩
  | [a], x, y, h, h' => ⟨h.1, h', trivial⟩
  | a :: b :: r, x, y, h, h' => ⟨h.1, Lk.snoc (l := b :: r) h.2 h'⟩
structure Pf (n : Nat) (es : List E3) (s : Int) (cal : Int → Option Int) (v : Int) (l : List Int) : Prop where
  hd : ∃ r, l = s :: r
  ls : ∃ r, l = r ++ [v]
  lk : Lk es l
  nd : l.Nodup
  inn : ∀ x ∈ l, 0 ≤ x ∧ x < n
theorem Pth.rank (P : Pth s cal pth) (R : Rt n es s cal) {rk : Int → Nat} (hr : ∀ v u, cal v = some u → rk u < rk v) : ∀ v : Int, 0 ≤ v → v < n → ∀ x ∈ pth v, rk x ≤ rk v := by
  refine R.ind ?_ fun u v h p => ?_
  · rw [P.src]
    intro x hx
    rw [List.mem_singleton] at hx
    rw [hx]
    exact Nat.le_refl _
  · rw [P.st u v h]
    intro x hx
    rcases List.mem_append.mp hx with z | z
    · have := p x z
      have := hr u v h
      omega
    · rw [List.mem_singleton] at z
      rw [z]
      exact Nat.le_refl _
theorem Pth.pf (P : Pth s cal pth) (R : Rt n es s cal) : ∀ v : Int, 0 ≤ v → v < n → Pf n es s cal v (pth v) := by
  obtain ⟨rk, hr⟩ := R.rk
  intro v v0 v1
  have key := R.ind (p := fun v => (0 ≤ v ∧ v < n) ∧ Pf n es s cal v (pth v)) ?_ (fun u v h p => ?_) v v0 v1
  · exact key.2
  · rw [P.src]
    refine ⟨R.src, ⟨[], rfl⟩, ⟨[], rfl⟩, trivial, by simp, fun x hx => ?_⟩
    rw [List.mem_singleton] at hx
    rw [hx]
    exact R.src
  · obtain ⟨vb, p⟩ := p
    have ha := R.ca u v h
    have ub := (R.inn u v ha).1
    obtain ⟨r, hr'⟩ := p.hd
    obtain ⟨q, hq⟩ := p.ls
    refine ⟨ub, ?_⟩
    rw [P.st u v h]
    refine ⟨⟨r ++ [u], by rw [hr']; rfl⟩, ⟨pth v, rfl⟩, ?_, ?_, fun x hx => ?_⟩
    · have := p.lk
      rw [hq] at this ⊢
      exact this.snoc ha.symm
    · rw [List.nodup_append]
      refine ⟨p.nd, by simp, fun a hx b hb e => ?_⟩
      rw [List.mem_singleton] at hb
      subst e
      subst hb
      have := P.rank R hr v vb.1 vb.2 a hx
      have := hr a v h
      omega
    · rcases List.mem_append.mp hx with z | z
      · exact p.inn x z
      · rw [List.mem_singleton] at z
        rw [z]
        exact ub
theorem Pth.uniq (P : Pth s cal pth) (R : Rt n es s cal) {r : List Int} (lk : Lk es (s :: r)) (nd : (s :: r).Nodup) : ∀ {q : List Int} {v : Int}, s :: r = q ++ [v] → s :: r = pth v := by
  -- each prefix is the path of its end
  have key : ∀ (m : List Int) (x : Int) (rest : List Int), s :: r = m ++ x :: rest → m ++ [x] = pth x ∧ (∀ y, rest.head? = some y → cal y = some x) := by
    intro m
    induction hm : m.length generalizing m with
    | zero =>
      intro x rest e
      have : m = [] := List.eq_nil_of_length_eq_zero hm
      subst this
      simp only [List.nil_append, List.cons.injEq] at e
      obtain ⟨rfl, rfl⟩ := e
      refine ⟨by rw [P.src]; rfl, fun y hy => ?_⟩
      cases r with
      | nil => cases hy
      | cons a r' =>
        have hy : a = y := Option.some.inj hy
        subst hy
        rcases R.ad s a lk.1 with z | z
        · rw [R.cs] at z; cases z
        · exact z
    | succ k ih =>
      intro x rest e
      rcases nil_or_snoc m with rfl | ⟨m', w, rfl⟩
      · cases hm
      · rw [List.length_append] at hm
        obtain ⟨i1, i2⟩ := ih m' (by simpa using hm) w (x :: rest) (by rw [e]; simp)
        have hx : cal x = some w := i2 x rfl
        refine ⟨by rw [i1, P.st x w hx], fun y hy => ?_⟩
        cases rest with
        | nil => cases hy
        | cons a r' =>
          have hy : a = y := Option.some.inj hy
          subst hy
          have ha : Adj es x a := by
            have : ∀ (p : List Int) {x a : Int} {r' : List Int}, Lk es (p ++ x :: a :: r') → Adj es x a := fun p => by
              induction p with
              | nil => intro x a r' h; exact h.1
              | cons b p ih2 =>
                intro x a r' h
                cases p with
                | nil => exact ih2 h.2
                | cons c p => exact ih2 h.2
            exact this _ (e ▸ lk)
          rcases R.ad x a ha with z | z
          · rw [hx] at z
            have z : w = a := Option.some.inj z
            rw [e] at nd
            exfalso
            have := (List.nodup_append.mp nd).2.2 w (by simp) a (by simp)
            exact this z
          · exact z
  intro q v e
  rw [e]
  exact (key q v [] e).1
end
variable {tf : List Fn} {fu k i : Nat}
section
variable {iN iE iP : Nat} {n : Nat} {es : List E3} {S : Option DS} {s : Int} {cal : Int → Option Int} {pth : Int → List Int}
def brL (n : Nat) (pth : Int → List Int) (c : Int) : List Int := (rngI n).filter fun x => decide (c ∈ pth x)
end
end Tl

namespace Tl
open PySem
def plen (es : List E3) : List Int → Int
  | [] => 0
  | [_] => 0
  | x :: y :: r => dl es x y + plen es (y :: r)
theorem plen_snoc {es : List E3} : ∀ (l : List Int) (x y : Int), plen es (l ++ [x] ++ [y]) = plen es (l ++ [x]) + dl es x y
  | [], x, y => by simp [plen]
  | [a], x, y => by simp [plen]
  | a :: b :: r, x, y => by
    have := plen_snoc (es := es) (b :: r) x y
    simp only [List.cons_append, plen] at this ⊢
    rw [this]
    omega
structure Met (V : Int → Prop) (es : List E3) (D : Int → Int → Int) (PT : Int → Int → List Int) : Prop where
  hd : ∀ a b, V a → V b → ∃ r, PT a b = a :: r
  ls : ∀ a b, V a → V b → ∃ r, PT a b = r ++ [b]
  lk : ∀ a b, V a → V b → Lk es (PT a b)
  nd : ∀ a b, V a → V b → (PT a b).Nodup
  inn : ∀ a b, V a → V b → ∀ x ∈ PT a b, V x
  len : ∀ a b, V a → V b → plen es (PT a b) = D a b
  sym : ∀ a b, V a → V b → D a b = D b a
  rev : ∀ a b, V a → V b → PT b a = (PT a b).reverse
  zero : ∀ a, V a → D a a = 0
  pos : ∀ a b, V a → V b → a ≠ b → 1 ≤ D a b
  tri : ∀ a b c, V a → V b → V c → D a b ≤ D a c + D c b
  on : ∀ a b c, V a → V b → V c → (D a b = D a c + D c b ↔ c ∈ PT a b)
  four : ∀ a b c e, V a → V b → V c → V e → (D a b + D c e ≤ D a c + D b e ∧ D a c + D b e = D a e + D b c) ∨ (D a c + D b e ≤ D a b + D c e ∧ D a b + D c e = D a e + D b c) ∨ (D a e + D b c ≤ D a b + D c e ∧ D a b + D c e = D a c + D b e)
  shr : ∀ a b c e, V a → V b → V c → V e → D a b + D c e = D a c + D b e → D a c + D b e = D a e + D b c → ∃ x, x ∈ PT a b ∧ x ∈ PT c e
theorem Lk.mono {es : List E3} (g : E3) : ∀ {l : List Int}, Lk es l → Lk (es ++ [g]) l
  | [], _ => trivial
  | [_], _ => trivial
  | x :: y :: r, h => ⟨by
    obtain ⟨e, he, q⟩ := h.1
    exact ⟨e, List.mem_append_left _ he, q⟩, Lk.mono g h.2⟩
theorem Lk.app {es : List E3} : ∀ {l : List Int} {x y : Int}, Lk es (l ++ [x]) → Adj es x y → Lk es (l ++ [x] ++ [y]) := Lk.snoc
theorem Met.leaf {vs : List Int} {es : List E3} {D : Int → Int → Int} {PT : Int → Int → List Int} (M : Met (· ∈ vs) es D PT) {u w d : Int} (hu : u ∈ vs) (hw : w ∉ vs) (hd : 1 ≤ d) (hp : ((es ++ [nrm (w, u, d)]).map pr).Nodup) (ho : ∀ e ∈ es, e.1 ∈ vs ∧ e.2.1 ∈ vs) (hlt : ∀ e ∈ es ++ [nrm (w, u, d)], e.1 < e.2.1) :
    ∃ D' PT', Met (· ∈ vs ++ [w]) (es ++ [nrm (w, u, d)]) D' PT' := by
  have wu : w ≠ u := fun z => hw (z ▸ hu)
  have nw : ∀ {x}, x ∈ vs → x ≠ w := fun hx z => hw (z ▸ hx)
  have sp : ∀ {x}, x ∈ vs ++ [w] → x = w ∨ x ∈ vs := fun hx => by
    rcases List.mem_append.mp hx with z | z
    · exact .inr z
    · exact .inl (List.mem_singleton.mp z)
  have aw : Adj (es ++ [nrm (w, u, d)]) w u := by rw [adj_app wu]; exact .inr (.inl ⟨rfl, rfl⟩)
  have dold : ∀ x y, x ∈ vs → y ∈ vs → Adj es x y → dl (es ++ [nrm (w, u, d)]) x y = dl es x y := fun x y hx hy ha => by
    obtain ⟨d0, hd0, _⟩ := dlO_adj (fun e he => hlt e (List.mem_append_left _ he)) ha
    unfold dlO at hd0
    unfold dl dlO
    rw [List.find?_append]
    cases hf : es.find? (isE x y) with
    | none => rw [hf] at hd0; cases hd0
    | some e => rfl
  have dnew : dl (es ++ [nrm (w, u, d)]) w u = d := by
    obtain ⟨d0, hd0, e, he, h1, h2⟩ := dlO_adj hlt aw
    have : e = nrm (w, u, d) := by
      rcases List.mem_append.mp he with z | z
      · have := ho e z
        rcases h2 with q | q
        · exact absurd (q.1 ▸ this.1) hw
        · exact absurd (q.2 ▸ this.2) hw
      · exact List.mem_singleton.mp z
    unfold dl
    rw [hd0]
    subst this
    exact h1.symm
  have lkold : ∀ {l : List Int}, Lk es l → Lk (es ++ [nrm (w, u, d)]) l := fun h => Lk.mono _ h
  have plold : ∀ l : List Int, (∀ x ∈ l, x ∈ vs) → Lk es l → plen (es ++ [nrm (w, u, d)]) l = plen es l := fun l => by
    induction l with
    | nil => intros; rfl
    | cons x r ih =>
      cases r with
      | nil => intros; rfl
      | cons y r =>
        intro h lk
        rw [plen, plen, dold x y (h x (by simp)) (h y (by simp)) lk.1, ih (fun z hz => h z (List.mem_cons_of_mem _ hz)) lk.2]
  refine ⟨fun x y => if x = w then (if y = w then 0 else d + D u y) else if y = w then D x u + d else D x y, fun x y => if x = w then (if y = w then [w] else w :: PT u y) else if y = w then PT x u ++ [w] else PT x y, ?_, ?_, ?_, ?_, ?_, ?_, ?_, ?_, ?_, ?_, ?_, ?_, ?_, ?_⟩
  · intro a b ha hb
    replace ha := sp ha
    replace hb := sp hb
    rcases ha with rfl | ha
    · rcases hb with rfl | hb
      · exact ⟨[], by simp⟩
      · exact ⟨PT u b, by simp [nw hb]⟩
    · rcases hb with rfl | hb
      · obtain ⟨r, hr⟩ := M.hd a u ha hu
        exact ⟨r ++ [b], by simp [nw ha, hr]⟩
      · obtain ⟨r, hr⟩ := M.hd a b ha hb
        exact ⟨r, by simp [nw ha, nw hb, hr]⟩
  · intro a b ha hb
    replace ha := sp ha
    replace hb := sp hb
    rcases ha with rfl | ha
    · rcases hb with rfl | hb
      · exact ⟨[], by simp⟩
      · obtain ⟨r, hr⟩ := M.ls u b hu hb
        exact ⟨a :: r, by simp [nw hb, hr]⟩
    · rcases hb with rfl | hb
      · exact ⟨PT a u, by simp [nw ha]⟩
      · obtain ⟨r, hr⟩ := M.ls a b ha hb
        exact ⟨r, by simp [nw ha, nw hb, hr]⟩
  · intro a b ha hb
    replace ha := sp ha
    replace hb := sp hb
    rcases ha with rfl | ha
    · rcases hb with rfl | hb
      · simp [Lk]
      · obtain ⟨r, hr⟩ := M.hd u b hu hb
        have := lkold (M.lk u b hu hb)
        simp only [if_true, if_neg (nw hb)]
        rw [hr] at this ⊢
        exact ⟨aw, this⟩
    · rcases hb with rfl | hb
      · obtain ⟨r, hr⟩ := M.ls a u ha hu
        have := lkold (M.lk a u ha hu)
        simp only [if_neg (nw ha), if_true]
        rw [hr] at this ⊢
        exact this.snoc aw.symm
      · simp only [if_neg (nw ha), if_neg (nw hb)]
        exact lkold (M.lk a b ha hb)
  · intro a b ha hb
    replace ha := sp ha
    replace hb := sp hb
    rcases ha with rfl | ha
    · rcases hb with rfl | hb
      · simp
      · simp only [if_true, if_neg (nw hb)]
        exact List.nodup_cons.mpr ⟨fun z => hw (M.inn u b hu hb _ z), M.nd u b hu hb⟩
    · rcases hb with rfl | hb
      · simp only [if_neg (nw ha), if_true]
        rw [List.nodup_append]
        refine ⟨M.nd a u ha hu, by simp, fun x hx y hy e => ?_⟩
        rw [List.mem_singleton] at hy
        exact hw (hy ▸ e ▸ M.inn a u ha hu x hx)
      · simp only [if_neg (nw ha), if_neg (nw hb)]
        exact M.nd a b ha hb
  · intro a b ha hb x hx
    replace ha := sp ha
    replace hb := sp hb
    rcases ha with rfl | ha
    · rcases hb with rfl | hb
      · simp at hx; simp [hx]
      · simp only [if_true, if_neg (nw hb), List.mem_cons] at hx
        rcases hx with rfl | hx
        · simp
        · exact List.mem_append_left _ (M.inn u b hu hb x hx)
    · rcases hb with rfl | hb
      · simp only [if_neg (nw ha), if_true, List.mem_append, List.mem_singleton] at hx
        rcases hx with hx | rfl
        · exact List.mem_append_left _ (M.inn a u ha hu x hx)
        · simp
      · simp only [if_neg (nw ha), if_neg (nw hb)] at hx
        exact List.mem_append_left _ (M.inn a b ha hb x hx)
  · intro a b ha hb
    replace ha := sp ha
    replace hb := sp hb
    rcases ha with rfl | ha
    · rcases hb with rfl | hb
      · simp [plen]
      · obtain ⟨r, hr⟩ := M.hd u b hu hb
        have h1 := M.len u b hu hb
        have h2 := plold (PT u b) (M.inn u b hu hb) (M.lk u b hu hb)
        simp only [if_true, if_neg (nw hb)]
        rw [hr] at h1 h2 ⊢
        rw [plen, dnew, h2, h1]
    · rcases hb with rfl | hb
      · obtain ⟨r, hr⟩ := M.ls a u ha hu
        have h1 := M.len a u ha hu
        have h2 := plold (PT a u) (M.inn a u ha hu) (M.lk a u ha hu)
        simp only [if_neg (nw ha), if_true]
        rw [hr] at h1 h2 ⊢
        rw [plen_snoc, h2, h1, dl_comm, dnew]
      · simp only [if_neg (nw ha), if_neg (nw hb)]
        rw [plold _ (M.inn a b ha hb) (M.lk a b ha hb), M.len a b ha hb]
  · intro a b ha hb
    replace ha := sp ha
    replace hb := sp hb
    rcases ha with rfl | ha
    · rcases hb with rfl | hb
      · rfl
      · simp only [if_true, if_neg (nw hb)]
        rw [M.sym u b hu hb]
        omega
    · rcases hb with rfl | hb
      · simp only [if_neg (nw ha), if_true]
        rw [M.sym a u ha hu]
        omega
      · simp only [if_neg (nw ha), if_neg (nw hb)]
        exact M.sym a b ha hb
  · intro a b ha hb
    replace ha := sp ha
    replace hb := sp hb
    rcases ha with rfl | ha
    · rcases hb with rfl | hb
      · simp
      · simp only [if_true, if_neg (nw hb)]
        rw [M.rev u b hu hb]
        simp
    · rcases hb with rfl | hb
      · simp only [if_neg (nw ha), if_true]
        rw [M.rev a u ha hu]
        simp
      · simp only [if_neg (nw ha), if_neg (nw hb)]
        exact M.rev a b ha hb
  · intro a ha
    replace ha := sp ha
    rcases ha with rfl | ha
    · simp
    · simp only [if_neg (nw ha)]
      exact M.zero a ha
  · intro a b ha hb hne
    replace ha := sp ha
    replace hb := sp hb
    have nn : ∀ x y, x ∈ vs → y ∈ vs → 0 ≤ D x y := fun x y hx hy => by
      by_cases q : x = y
      · rw [q, M.zero y hy]; exact Int.le_refl _
      · have := M.pos x y hx hy q; omega
    rcases ha with rfl | ha
    · rcases hb with rfl | hb
      · exact absurd rfl hne
      · simp only [if_true, if_neg (nw hb)]
        have := nn u b hu hb
        omega
    · rcases hb with rfl | hb
      · simp only [if_neg (nw ha), if_true]
        have := nn a u ha hu
        omega
      · simp only [if_neg (nw ha), if_neg (nw hb)]
        exact M.pos a b ha hb hne
  · intro a b c ha hb hc
    replace ha := sp ha
    replace hb := sp hb
    replace hc := sp hc
    have nn : ∀ x y, x ∈ vs → y ∈ vs → 0 ≤ D x y := fun x y hx hy => by
      by_cases q : x = y
      · rw [q, M.zero y hy]; exact Int.le_refl _
      · have := M.pos x y hx hy q; omega
    have uu := M.zero u hu
    rcases ha with rfl | ha <;> rcases hb with rfl | hb <;> rcases hc with rfl | hc
    · simp
    · simp only [if_true, if_neg (nw hc)]
      have := nn u c hu hc
      have := nn c u hc hu
      omega
    · simp only [if_true, if_neg (nw hb)]
      omega
    · simp only [if_true, if_neg (nw hb), if_neg (nw hc)]
      have := M.tri u b c hu hb hc
      omega
    · simp only [if_true, if_neg (nw ha)]
      omega
    · simp only [if_true, if_neg (nw ha), if_neg (nw hc)]
      have := M.tri a u c ha hu hc
      omega
    · simp only [if_true, if_neg (nw ha), if_neg (nw hb)]
      have := M.tri a b u ha hb hu
      omega
    · simp only [if_neg (nw ha), if_neg (nw hb), if_neg (nw hc)]
      exact M.tri a b c ha hb hc
  · intro a b c ha hb hc
    replace ha := sp ha
    replace hb := sp hb
    replace hc := sp hc
    have nn : ∀ x y, x ∈ vs → y ∈ vs → 0 ≤ D x y := fun x y hx hy => by
      by_cases q : x = y
      · rw [q, M.zero y hy]; exact Int.le_refl _
      · have := M.pos x y hx hy q; omega
    have uu := M.zero u hu
    rcases ha with rfl | ha <;> rcases hb with rfl | hb <;> rcases hc with rfl | hc
    · simp
    · simp only [if_true, if_neg (nw hc), List.mem_singleton]
      have := nn u c hu hc
      have := nn c u hc hu
      exact ⟨fun h => by omega, fun h => absurd h (nw hc)⟩
    · simp only [if_true, if_neg (nw hb)]
      exact ⟨fun _ => List.mem_cons_self .., fun _ => by omega⟩
    · simp only [if_true, if_neg (nw hb), if_neg (nw hc), List.mem_cons, show (c = a) = False from eq_false (nw hc), if_false, false_or]
      rw [← M.on u b c hu hb hc]
      constructor <;> intro h <;> omega
    · simp only [if_true, if_neg (nw ha)]
      exact ⟨fun _ => by simp, fun _ => by omega⟩
    · simp only [if_true, if_neg (nw ha), if_neg (nw hc), List.mem_append, List.mem_singleton, show (c = b) = False from eq_false (nw hc), if_false, or_false]
      rw [← M.on a u c ha hu hc]
      constructor <;> intro h <;> omega
    · simp only [if_true, if_neg (nw ha), if_neg (nw hb)]
      have := M.tri a b u ha hb hu
      exact ⟨fun h => by omega, fun h => absurd (M.inn a b ha hb _ h) hw⟩
    · simp only [if_neg (nw ha), if_neg (nw hb), if_neg (nw hc)]
      exact M.on a b c ha hb hc
  · intro a b c e ha hb hc he
    replace ha := sp ha
    replace hb := sp hb
    replace hc := sp hc
    replace he := sp he
    have uu := M.zero u hu
    have sy : ∀ x, x ∈ vs → D x u = D u x := fun x hx => M.sym x u hx hu
    rcases ha with rfl | ha <;> rcases hb with rfl | hb <;> rcases hc with rfl | hc <;> rcases he with rfl | he
    · simp
    · simp only [if_true, if_neg (nw he)]; omega
    · simp only [if_true, if_neg (nw hc)]
      have := sy c hc
      first | omega | (simp only [and_true]; omega)
    · simp only [if_true, if_neg (nw hc), if_neg (nw he)]
      have := M.tri c e u hc he hu
      have := sy c hc
      first | omega | (simp only [and_true]; omega)
    · simp only [if_true, if_neg (nw hb)]
      have := sy b hb
      first | omega | (simp only [and_true]; omega)
    · simp only [if_true, if_neg (nw hb), if_neg (nw he)]
      have := M.tri b e u hb he hu
      have := sy b hb
      first | omega | (simp only [and_true]; omega)
    · simp only [if_true, if_neg (nw hb), if_neg (nw hc)]
      have := M.tri b c u hb hc hu
      have := sy b hb
      have := sy c hc
      first | omega | (simp only [and_true]; omega)
    · simp only [if_true, if_neg (nw hb), if_neg (nw hc), if_neg (nw he)]
      have := M.four u b c e hu hb hc he
      first | omega | (simp only [and_true]; omega)
    · simp only [if_true, if_neg (nw ha)]
      have := sy a ha
      first | omega | (simp only [and_true]; omega)
    · simp only [if_true, if_neg (nw ha), if_neg (nw he)]
      have := M.tri a e u ha he hu
      have := sy a ha
      first | omega | (simp only [and_true]; omega)
    · simp only [if_true, if_neg (nw ha), if_neg (nw hc)]
      have := M.tri a c u ha hc hu
      have := sy a ha
      have := sy c hc
      first | omega | (simp only [and_true]; omega)
    · simp only [if_true, if_neg (nw ha), if_neg (nw hc), if_neg (nw he)]
      have := M.four a u c e ha hu hc he
      first | omega | (simp only [and_true]; omega)
    · simp only [if_true, if_neg (nw ha), if_neg (nw hb)]
      have := M.tri a b u ha hb hu
      have := sy a ha
      have := sy b hb
      first | omega | (simp only [and_true]; omega)
    · simp only [if_true, if_neg (nw ha), if_neg (nw hb), if_neg (nw he)]
      have := M.four a b u e ha hb hu he
      first | omega | (simp only [and_true]; omega)
    · simp only [if_true, if_neg (nw ha), if_neg (nw hb), if_neg (nw hc)]
      have := M.four a b c u ha hb hc hu
      first | omega | (simp only [and_true]; omega)
    · simp only [if_neg (nw ha), if_neg (nw hb), if_neg (nw hc), if_neg (nw he)]
      exact M.four a b c e ha hb hc he
  · intro a b c e ha hb hc he
    replace ha := sp ha
    replace hb := sp hb
    replace hc := sp hc
    replace he := sp he
    have uu := M.zero u hu
    have sy : ∀ x, x ∈ vs → D x u = D u x := fun x hx => M.sym x u hx hu
    rcases ha with rfl | ha <;> rcases hb with rfl | hb <;> rcases hc with rfl | hc <;> rcases he with rfl | he
    · simp
    · simp only [if_true, if_neg (nw he)]; exact fun _ _ => ⟨_, List.mem_singleton.mpr rfl, List.mem_cons_self ..⟩
    · simp only [if_true, if_neg (nw hc)]; exact fun _ _ => ⟨_, List.mem_singleton.mpr rfl, by simp⟩
    · simp only [if_true, if_neg (nw hc), if_neg (nw he)]
      have := M.tri c e u hc he hu
      have := sy c hc
      intro h1 h2
      first | omega | (simp only [and_true]; omega)
    · simp only [if_true, if_neg (nw hb)]; exact fun _ _ => ⟨_, List.mem_cons_self .., List.mem_singleton.mpr rfl⟩
    · simp only [if_true, if_neg (nw hb), if_neg (nw he)]; exact fun _ _ => ⟨_, List.mem_cons_self .., List.mem_cons_self ..⟩
    · simp only [if_true, if_neg (nw hb), if_neg (nw hc)]; exact fun _ _ => ⟨_, List.mem_cons_self .., by simp⟩
    · simp only [if_true, if_neg (nw hb), if_neg (nw hc), if_neg (nw he)]
      intro h1 h2
      obtain ⟨x, x1, x2⟩ := M.shr u b c e hu hb hc he (by omega) (by omega)
      exact ⟨x, List.mem_cons_of_mem _ x1, x2⟩
    · simp only [if_true, if_neg (nw ha)]; exact fun _ _ => ⟨_, List.mem_append_right _ (List.mem_singleton.mpr rfl), List.mem_singleton.mpr rfl⟩
    · simp only [if_true, if_neg (nw ha), if_neg (nw he)]; exact fun _ _ => ⟨_, List.mem_append_right _ (List.mem_singleton.mpr rfl), List.mem_cons_self ..⟩
    · simp only [if_true, if_neg (nw ha), if_neg (nw hc)]; exact fun _ _ => ⟨_, List.mem_append_right _ (List.mem_singleton.mpr rfl), List.mem_append_right _ (List.mem_singleton.mpr rfl)⟩
    · simp only [if_true, if_neg (nw ha), if_neg (nw hc), if_neg (nw he)]
      intro h1 h2
      obtain ⟨x, x1, x2⟩ := M.shr a u c e ha hu hc he (by omega) (by omega)
      exact ⟨x, List.mem_append_left _ x1, x2⟩
    · simp only [if_true, if_neg (nw ha), if_neg (nw hb)]
      have := M.tri a b u ha hb hu
      have := sy a ha
      have := sy b hb
      intro h1 h2
      first | omega | (simp only [and_true]; omega)
    · simp only [if_true, if_neg (nw ha), if_neg (nw hb), if_neg (nw he)]
      intro h1 h2
      obtain ⟨x, x1, x2⟩ := M.shr a b u e ha hb hu he (by omega) (by omega)
      exact ⟨x, x1, List.mem_cons_of_mem _ x2⟩
    · simp only [if_true, if_neg (nw ha), if_neg (nw hb), if_neg (nw hc)]
      intro h1 h2
      obtain ⟨x, x1, x2⟩ := M.shr a b c u ha hb hc hu (by omega) (by omega)
      exact ⟨x, x1, List.mem_append_left _ x2⟩
    · simp only [if_neg (nw ha), if_neg (nw hb), if_neg (nw hc), if_neg (nw he)]
      exact M.shr a b c e ha hb hc he
section
variable {n : Nat} {es : List E3} {D : Int → Int → Int} {PT : Int → Int → List Int}
theorem Met.pth (M : Met (fun x => 0 ≤ x ∧ x < (n : Int)) es D PT) {a : Int} {cal : Int → Option Int} {pth : Int → List Int} (R : Rt n es a cal) (Pp : Pth a cal pth) {b : Int} (hb : 0 ≤ b ∧ b < (n : Int)) : PT a b = pth b := by
  obtain ⟨r, hr⟩ := M.hd a b R.src hb
  obtain ⟨q, hq⟩ := M.ls a b R.src hb
  have lk := M.lk a b R.src hb
  have nd := M.nd a b R.src hb
  rw [hr] at lk nd hq
  rw [hr]
  exact Pp.uniq R lk nd hq
end
variable {tf : List Fn} {fu k i : Nat}
section
variable {iN iD iP : Nat} {n : Nat} {es : List E3} {S : Option DS} {D : Int → Int → Int} {PT : Int → Int → List Int} {a b : Int}
theorem Lk.zip : ∀ {l : List Int}, Lk es l → ∀ p ∈ l.zip l.tail, Adj es p.1 p.2
  | [], _, p, hp => by simp at hp
  | [_], _, p, hp => by simp at hp
  | x :: y :: r, h, p, hp => by
    rw [List.tail_cons, List.zip_cons_cons, List.mem_cons] at hp
    rcases hp with rfl | hp
    · exact h.1
    · exact Lk.zip h.2 p hp
end
end Tl

namespace Tl
open PySem
section
variable {n : Nat} {es : List E3} {D : Int → Int → Int} {PT : Int → Int → List Int}
end
section
variable {n : Nat} {es : List E3} {vs : List Int}
theorem nrm_ends (a b d : Int) : ((nrm (a, b, d)).1 = a ∧ (nrm (a, b, d)).2.1 = b) ∨ ((nrm (a, b, d)).1 = b ∧ (nrm (a, b, d)).2.1 = a) := by
  unfold nrm
  simp only
  split <;> split <;> omega
theorem sg_inj' (p : vs.Perm (rngI n)) {a b : Int} (ha : 0 ≤ a ∧ a < (n : Int)) (hb : 0 ≤ b ∧ b < (n : Int)) (h : sg vs a = sg vs b) : a = b := by
  have vl : vs.length = n := by rw [p.length_eq, rngI_len]
  exact sg_inj (perm_nodup p (rngI_nodup _)) ha.1 (by omega) hb.1 (by omega) h
theorem nodup_map_on {l : List Int} {f : Int → Int} (h : l.Nodup) (hi : ∀ a ∈ l, ∀ b ∈ l, f a = f b → a = b) : (l.map f).Nodup := by
  induction l with
  | nil => exact List.nodup_nil
  | cons a r ih =>
    obtain ⟨h1, h2⟩ := List.nodup_cons.mp h
    rw [List.map_cons, List.nodup_cons]
    refine ⟨fun z => ?_, ih h2 fun x hx y hy => hi x (List.mem_cons_of_mem _ hx) y (List.mem_cons_of_mem _ hy)⟩
    obtain ⟨b, hb, e⟩ := List.mem_map.mp z
    exact h1 (hi b (List.mem_cons_of_mem _ hb) a (List.mem_cons_self ..) e ▸ hb)
variable {D D' : Int → Int → Int} {PT PT' : Int → Int → List Int}
end
variable {tf : List Fn} {fu k i : Nat}
section
variable {iN iD iP iM : Nat} {n : Nat} {es : List E3} {S : Option DS} {D : Int → Int → Int} {PT : Int → Int → List Int} {vs : List Int}
end
end Tl

namespace Tl
open PySem
section
variable {n : Nat} {es : List E3} {w d s : Int} {cal : Int → Option Int}
end
end Tl

namespace Tl
open PySem
theorem sum_erase {α : Type} [DecidableEq α] {g : α → Int} : ∀ {m : List α} {a : α}, a ∈ m → (m.map g).sum = g a + ((m.erase a).map g).sum
  | [], _, h => by cases h
  | b :: m, a, h => by
    by_cases q : b = a
    · subst q
      rw [List.erase_cons_head, List.map_cons, List.sum_cons]
    · rw [List.erase_cons_tail (by simpa using q), List.map_cons, List.sum_cons, List.map_cons, List.sum_cons, sum_erase ((List.mem_cons.mp h).resolve_left fun z => q z.symm)]
      omega
theorem sum_nn {α : Type} {g : α → Int} : ∀ {m : List α}, (∀ x ∈ m, 0 ≤ g x) → 0 ≤ (m.map g).sum
  | [], _ => Int.le_refl _
  | a :: m, h => by
    rw [List.map_cons, List.sum_cons]
    have := h a (List.mem_cons_self ..)
    have := sum_nn fun x hx => h x (List.mem_cons_of_mem _ hx)
    omega
theorem sum_sub {α : Type} [DecidableEq α] {g : α → Int} : ∀ {l m : List α}, l.Nodup → (∀ x ∈ l, x ∈ m) → (∀ x ∈ m, 0 ≤ g x) → (l.map g).sum ≤ (m.map g).sum
  | [], m, _, _, h => sum_nn h
  | a :: l, m, hn, hs, hg => by
    obtain ⟨h1, h2⟩ := List.nodup_cons.mp hn
    have ha := hs a (List.mem_cons_self ..)
    have := sum_sub (l := l) (m := m.erase a) h2 (fun x hx => (List.mem_erase_of_ne (a := x) (b := a) (fun (e : x = a) => h1 (e ▸ hx))).mpr (hs x (List.mem_cons_of_mem _ hx))) (fun x hx => hg x (List.mem_of_mem_erase hx))
    rw [sum_erase ha, List.map_cons, List.sum_cons]
    omega
section
variable {n : Nat} {es : List E3} {s : Int} {cal : Int → Option Int} {pth : Int → List Int}
theorem Pth.self (P : Pth s cal pth) (R : Rt n es s cal) {v : Int} (h0 : 0 ≤ v) (h1 : v < n) : v ∈ pth v := by
  obtain ⟨r, hr⟩ := (P.pf R v h0 h1).ls
  rw [hr]
  simp
theorem Pth.up (P : Pth s cal pth) (R : Rt n es s cal) {c v : Int} (hc : cal c = some v) : ∀ x : Int, 0 ≤ x → x < n → c ∈ pth x → v ∈ pth x := by
  refine R.ind (fun h => ?_) fun u w h p hm => ?_
  · rw [P.src, List.mem_singleton] at h
    rw [h, R.cs] at hc
    cases hc
  · rw [P.st u w h] at hm ⊢
    rcases List.mem_append.mp hm with z | z
    · exact List.mem_append_left _ (p z)
    · rw [List.mem_singleton] at z
      subst z
      rw [h] at hc
      have hc : w = v := Option.some.inj hc
      subst hc
      have := (R.inn c w (R.ca c w h)).2
      exact List.mem_append_left _ (P.self R this.1 this.2)
theorem Pth.one (P : Pth s cal pth) (R : Rt n es s cal) {c c' v : Int} (hc : cal c = some v) (hc' : cal c' = some v) : ∀ x : Int, 0 ≤ x → x < n → c ∈ pth x → c' ∈ pth x → c = c' := by
  obtain ⟨rk, hr⟩ := R.rk
  refine R.ind (fun h h' => ?_) fun u w h p hm hm' => ?_
  · rw [P.src, List.mem_singleton] at h
    rw [h, R.cs] at hc
    cases hc
  · have wb := (R.inn u w (R.ca u w h)).2
    have no : ∀ d, d ∈ pth w → cal d = some w → False := fun d hd hw => by
      have := P.rank R hr w wb.1 wb.2 d hd
      have := hr d w hw
      omega
    rw [P.st u w h] at hm hm'
    rcases List.mem_append.mp hm with z | z <;> rcases List.mem_append.mp hm' with y | y
    · exact p z y
    · rw [List.mem_singleton] at y
      subst y
      rw [h] at hc'
      cases hc'
      exact (no c z hc).elim
    · rw [List.mem_singleton] at z
      subst z
      rw [h] at hc
      cases hc
      exact (no c' y hc').elim
    · rw [List.mem_singleton] at z y
      rw [z, y]
def bS (n : Nat) (pth : Int → List Int) (g : Int → Int) (v : Int) : Int := ((brL n pth v).map g).sum
theorem sum_flat {g : Int → Int} {F : Int → List Int} : ∀ l : List Int, ((l.flatMap F).map g).sum = (l.map fun c => ((F c).map g).sum).sum
  | [] => rfl
  | a :: r => by rw [List.flatMap_cons, List.map_append, List.sum_append, sum_flat r, List.map_cons, List.sum_cons]
theorem nodup_flat {F : Int → List Int} : ∀ {l : List Int}, l.Nodup → (∀ c ∈ l, (F c).Nodup) → (∀ c ∈ l, ∀ c' ∈ l, ∀ x, x ∈ F c → x ∈ F c' → c = c') → (l.flatMap F).Nodup
  | [], _, _, _ => by simp
  | a :: r, h1, h2, h3 => by
    obtain ⟨k1, k2⟩ := List.nodup_cons.mp h1
    rw [List.flatMap_cons, List.nodup_append]
    refine ⟨h2 a (List.mem_cons_self ..), nodup_flat k2 (fun c hc => h2 c (List.mem_cons_of_mem _ hc)) (fun c hc c' hc' => h3 c (List.mem_cons_of_mem _ hc) c' (List.mem_cons_of_mem _ hc')), fun x hx y hy e => ?_⟩
    subst e
    obtain ⟨c, hc, hxc⟩ := List.mem_flatMap.mp hy
    have := h3 a (List.mem_cons_self ..) c (List.mem_cons_of_mem _ hc) x hx hxc
    exact k1 (this ▸ hc)
theorem bS_step (P : Pth s cal pth) (R : Rt n es s cal) (t : IsTr n es) {g : Int → Int} (hg : ∀ x, 0 ≤ g x) {v : Int} (h0 : 0 ≤ v) (h1 : v < n) : g v + ((nbA es v (cal v)).map (bS n pth g)).sum ≤ bS n pth g v := by
  obtain ⟨rk, hr⟩ := R.rk
  have e : g v + ((nbA es v (cal v)).map (bS n pth g)).sum = ((v :: (nbA es v (cal v)).flatMap (brL n pth)).map g).sum := by
    rw [List.map_cons, List.sum_cons, sum_flat]
    rfl
  rw [e]
  refine sum_sub (List.nodup_cons.mpr ⟨fun z => ?_, nodup_flat (t.nodupA v _) (fun c _ => (rngI_nodup n).filter _) fun c hc c' hc' x hx hx' => ?_⟩) (fun x hx => ?_) fun x _ => hg x
  · obtain ⟨c, hc, hv⟩ := List.mem_flatMap.mp z
    have hm := of_decide_eq_true (List.mem_filter.mp hv).2
    have := P.rank R hr v h0 h1 c hm
    have := hr c v (R.chi.mp hc)
    omega
  · have hb := rngI_mem.mp (List.mem_filter.mp hx).1
    exact P.one R (R.chi.mp hc) (R.chi.mp hc') x hb.1 hb.2 (of_decide_eq_true (List.mem_filter.mp hx).2) (of_decide_eq_true (List.mem_filter.mp hx').2)
  · rcases List.mem_cons.mp hx with rfl | hx
    · exact List.mem_filter.mpr ⟨rngI_mem.mpr ⟨h0, h1⟩, decide_eq_true (P.self R h0 h1)⟩
    · obtain ⟨c, hc, hxc⟩ := List.mem_flatMap.mp hx
      obtain ⟨k1, k2⟩ := List.mem_filter.mp hxc
      have hb := rngI_mem.mp k1
      exact List.mem_filter.mpr ⟨k1, decide_eq_true (P.up R (R.chi.mp hc) x hb.1 hb.2 (of_decide_eq_true k2))⟩
theorem Pth.below (P : Pth s cal pth) (R : Rt n es s cal) {v : Int} : ∀ x : Int, 0 ≤ x → x < n → v ∈ pth x → x = v ∨ ∃ c, cal c = some v ∧ c ∈ pth x := by
  refine R.ind (fun h => ?_) fun u w h p hm => ?_
  · rw [P.src, List.mem_singleton] at h
    exact .inl h.symm
  · rw [P.st u w h] at hm ⊢
    rcases List.mem_append.mp hm with z | z
    · right
      rcases p z with q | ⟨c, c1, c2⟩
      · exact ⟨u, by rw [h, q], by simp⟩
      · exact ⟨c, c1, List.mem_append_left _ c2⟩
    · rw [List.mem_singleton] at z
      exact .inl z.symm
theorem Rt.down (R : Rt n es s cal) {p : Int → Prop} (hs : ∀ v : Int, 0 ≤ v → v < n → (∀ u, cal u = some v → p u) → p v) : ∀ v : Int, 0 ≤ v → v < n → p v := by
  obtain ⟨rk, hr⟩ := R.rk
  -- ranks are bounded on the vertices
  have bd : ∃ B, ∀ v ∈ rngI n, rk v ≤ B := by
    generalize rngI n = l
    induction l with
    | nil => exact ⟨0, fun v hv => nomatch hv⟩
    | cons a r ih =>
      obtain ⟨B, hB⟩ := ih
      refine ⟨max B (rk a), fun v hv => ?_⟩
      rcases List.mem_cons.mp hv with rfl | hv
      · omega
      · have := hB v hv
        omega
  obtain ⟨B, hB⟩ := bd
  have key : ∀ (m : Nat) (v : Int), B - rk v < m → 0 ≤ v → v < n → p v := fun m => by
    induction m with
    | zero => exact fun v h => absurd h (Nat.not_lt_zero _)
    | succ m ih =>
      intro v h v0 v1
      refine hs v v0 v1 fun u hu => ?_
      have hub := (R.inn u v (R.ca u v hu)).1
      have := hB u (rngI_mem.mpr hub)
      have := hr u v hu
      exact ih u (by omega) hub.1 hub.2
  exact fun v v0 v1 => key _ v (Nat.lt_succ_self _) v0 v1
theorem bo_step (t : IsTr n es) (R : Rt n es s cal) {v : Int} : bo n es v (cal v) = lst ((nbA es v (cal v)).map fun u => dl es v u + bo n es u (cal u)) := by
  rw [bo_lst t fun u h => R.ca v u h]
  congr 1
  refine List.map_congr_left fun u hu => ?_
  unfold ky
  rw [R.chi.mp hu]
end
end Tl

namespace Tl
open PySem
section
variable {n : Nat} {es : List E3} {s : Int} {cal : Int → Option Int} {pth : Int → List Int} {d : Int → Int}
end
section
variable {n : Nat} {es : List E3} {s : Int} {cal : Int → Option Int} {pth : Int → List Int}
end
end Tl

namespace Tl
open PySem
variable {tf : List Fn} {fu k i : Nat}
end Tl

namespace Tl
open PySem
def Ed (ts : List E3) (x y d : Int) : Prop := ∃ e ∈ ts, e.2.2 = d ∧ ((e.1 = x ∧ e.2.1 = y) ∨ (e.1 = y ∧ e.2.1 = x))
theorem Ed.symm {ts : List E3} {x y d : Int} (h : Ed ts x y d) : Ed ts y x d := by
  obtain ⟨e, he, h1, h2⟩ := h
  exact ⟨e, he, h1, h2.symm⟩
theorem Ed.adj {ts : List E3} {x y d : Int} (h : Ed ts x y d) : Adj ts x y := by
  obtain ⟨e, he, _, h2⟩ := h
  exact ⟨e, he, h2⟩
theorem Adj.ed {ts : List E3} {x y : Int} (h : Adj ts x y) : ∃ d, Ed ts x y d := by
  obtain ⟨e, he, h2⟩ := h
  exact ⟨_, e, he, rfl, h2⟩
theorem ed_perm {ts us : List E3} (p : ts.Perm us) {x y d : Int} : Ed ts x y d ↔ Ed us x y d :=
  ⟨fun ⟨e, he, h⟩ => ⟨e, p.mem_iff.mp he, h⟩, fun ⟨e, he, h⟩ => ⟨e, p.mem_iff.mpr he, h⟩⟩
theorem ed_nrm {ts : List E3} {x y d : Int} : Ed (ts.map nrm) x y d ↔ Ed ts x y d := by
  constructor
  · rintro ⟨e, he, h1, h2⟩
    obtain ⟨q, hq, rfl⟩ := List.mem_map.mp he
    refine ⟨q, hq, h1, ?_⟩
    rcases nrm_ends q.1 q.2.1 q.2.2 with z | z
    · have z1 : (nrm q).1 = q.1 := z.1
      have z2 : (nrm q).2.1 = q.2.1 := z.2
      rw [z1, z2] at h2
      exact h2
    · have z1 : (nrm q).1 = q.2.1 := z.1
      have z2 : (nrm q).2.1 = q.1 := z.2
      rw [z1, z2] at h2
      rcases h2 with w | w
      · exact .inr ⟨w.2, w.1⟩
      · exact .inl ⟨w.2, w.1⟩
  · rintro ⟨q, hq, h1, h2⟩
    refine ⟨nrm q, List.mem_map.mpr ⟨q, hq, rfl⟩, h1, ?_⟩
    rcases nrm_ends q.1 q.2.1 q.2.2 with z | z
    · have z1 : (nrm q).1 = q.1 := z.1
      have z2 : (nrm q).2.1 = q.2.1 := z.2
      rw [z1, z2]
      exact h2
    · have z1 : (nrm q).1 = q.2.1 := z.1
      have z2 : (nrm q).2.1 = q.1 := z.2
      rw [z1, z2]
      rcases h2 with w | w
      · exact .inr ⟨w.2, w.1⟩
      · exact .inl ⟨w.2, w.1⟩
theorem ed_made {ts : List E3} {x y d : Int} : Ed (sortE (ts.map nrm)) x y d ↔ Ed ts x y d := (ed_perm (sortE_perm _)).trans ed_nrm
theorem ed_rn {σ : Int → Int} {ts : List E3} {x y d : Int} : Ed (ts.map (rn σ)) x y d ↔ ∃ u w, Ed ts u w d ∧ σ u = x ∧ σ w = y := by
  constructor
  · rintro ⟨e, he, h1, h2⟩
    obtain ⟨q, hq, rfl⟩ := List.mem_map.mp he
    rcases h2 with z | z
    · exact ⟨q.1, q.2.1, ⟨q, hq, h1, .inl ⟨rfl, rfl⟩⟩, z.1, z.2⟩
    · exact ⟨q.2.1, q.1, ⟨q, hq, h1, .inr ⟨rfl, rfl⟩⟩, z.2, z.1⟩
  · rintro ⟨u, w, ⟨q, hq, h1, h2⟩, rfl, rfl⟩
    refine ⟨rn σ q, List.mem_map.mpr ⟨q, hq, rfl⟩, h1, ?_⟩
    unfold rn
    rcases h2 with z | z
    · rw [z.1, z.2]; exact .inl ⟨rfl, rfl⟩
    · rw [z.1, z.2]; exact .inr ⟨rfl, rfl⟩
section
variable {n m : Nat} {es es' : List E3}
theorem IsTr.ed (t : IsTr n es) {x y d : Int} (h : Ed es x y d) : dl es x y = d := by
  obtain ⟨e', he', _, q', d', _⟩ := find_adj (φ := fun e => e.2.2) t h.adj
  obtain ⟨e, he, h1, h2⟩ := h
  have b1 := t.bounds.2 e he
  have b2 := t.bounds.2 e' he'
  have : e = e' := pr_inj t.pairs he he' (by
    unfold pr
    rcases h2 with z | z <;> rcases q' with w | w
    · rw [z.1, z.2, w.1, w.2]
    · omega
    · omega
    · rw [z.1, z.2, w.1, w.2])
  rw [d', ← this, h1]
theorem mem_nbA {x u : Int} {aw : Option Int} : u ∈ nbA es x aw ↔ Adj es x u ∧ some u ≠ aw := by
  unfold nbA
  rw [List.mem_filter, nb_mem, decide_eq_true_eq]
theorem nb_iso (t : IsTr n es) (t' : IsTr m es') {x x' : Int} {aw aw' : Option Int} {τ : Int → Int} (h1 : ∀ u ∈ nbA es x aw, τ u ∈ nbA es' x' aw') (h2 : ∀ u' ∈ nbA es' x' aw', ∃ u ∈ nbA es x aw, τ u = u') (inj : ∀ u ∈ nbA es x aw, ∀ w ∈ nbA es x aw, τ u = τ w → u = w) : (nbA es' x' aw').Perm ((nbA es x aw).map τ) := by
  refine (List.perm_ext_iff_of_nodup (t'.nodupA _ _) (nodup_map_on (t.nodupA _ _) inj)).mpr fun y => ?_
  constructor
  · intro h
    obtain ⟨u, hu, rfl⟩ := h2 y h
    exact List.mem_map.mpr ⟨u, hu, rfl⟩
  · intro h
    obtain ⟨u, hu, rfl⟩ := List.mem_map.mp h
    exact h1 u hu
theorem bo_iso (t : IsTr n es) (t' : IsTr m es') {R : Int → Option Int → Int → Option Int → Prop}
    (hR : ∀ x aw x' aw', R x aw x' aw' → (∀ u, aw = some u → Adj es x u) ∧ (∀ u, aw' = some u → Adj es' x' u) ∧ ∃ τ : Int → Int, (nbA es' x' aw').Perm ((nbA es x aw).map τ) ∧ ∀ u ∈ nbA es x aw, ky n es x u = ky m es' x' (τ u) ∨ (dl es x u = dl es' x' (τ u) ∧ R u (some x) (τ u) (some x'))) :
    ∀ x aw x' aw', R x aw x' aw' → bo n es x aw = bo m es' x' aw' := by
  have key : ∀ (f : Nat) x aw x' aw', R x aw x' aw' → Ends es f x aw → bo n es x aw = bo m es' x' aw' := by
    intro f
    induction f with
    | zero => intro x aw x' aw' _ h; exact h.elim
    | succ f ih =>
      intro x aw x' aw' h hE
      obtain ⟨h1, h2, τ, p, h3⟩ := hR x aw x' aw' h
      rw [bo_lst t h1, bo_lst t' h2, lst_perm (p.map _), List.map_map]
      congr 1
      refine List.map_congr_left fun u hu => ?_
      show ky n es x u = ky m es' x' (τ u)
      rcases h3 u hu with z | ⟨z1, z2⟩
      · exact z
      · unfold ky
        rw [z1, ih u (some x) (τ u) (some x') z2 (hE u hu).2]
  intro x aw x' aw' h
  exact key _ x aw x' aw' h (t.ends x aw (hR x aw x' aw' h).1)
structure Sd (es : List E3) (P : Int → Bool) (v a : Int) : Prop where
  pv : P v = true
  pa : P a = false
  ad : Adj es v a
  ed : ∀ x y, Adj es x y → P x = P y ∨ (x = v ∧ y = a) ∨ (x = a ∧ y = v)
theorem Sd.symm {P : Int → Bool} {v a : Int} (h : Sd es P v a) : Sd es (fun x => !P x) a v where
  pv := by rw [h.pa]; rfl
  pa := by rw [h.pv]; rfl
  ad := h.ad.symm
  ed := fun x y q => by
    rcases h.ed x y q with z | z | z
    · exact .inl (by rw [z])
    · exact .inr (.inr z)
    · exact .inr (.inl z)
theorem Gr.cut {vs : List Int} {es : List E3} (g : Gr vs es) : ∀ {P : Int → Bool} {v a : Int} {r : List Int}, vs = v :: r → P v = true → (∀ e ∈ es, P e.1 = P e.2.1 ∨ (e.1 = v ∧ P e.2.1 = false) ∨ (e.2.1 = v ∧ P e.1 = false)) → Gr (vs.filter P) (es.filter fun e => P e.1 && P e.2.1) := by
  induction g with
  | one x =>
    intro P v a r hv pv _
    cases hv
    rw [List.filter_cons, if_pos pv]
    exact .one x
  | @leaf vs es u w d g hu hw d0 d1 ih =>
    intro P v a r hv pv he
    have hvs : ∃ r', vs = v :: r' := by
      cases vs with
      | nil => cases hu
      | cons z r' => exact ⟨r', by cases hv; rfl⟩
    obtain ⟨r', hr'⟩ := hvs
    have hwv : w ≠ v := fun e => hw (by rw [e, hr']; exact List.mem_cons_self ..)
    have g' := ih (a := a) hr' pv fun e h => he e (List.mem_append_left _ h)
    have hn := he (nrm (w, u, d)) (by simp)
    rw [List.filter_append, List.filter_append]
    rcases nrm_ends w u d with z | z <;> rw [z.1, z.2] at hn
    all_goals
      by_cases pw : P w = true
      · have pu : P u = true := by
          rcases hn with h | h | h
          · first | rw [← h]; exact pw | rw [h]; exact pw
          · first | exact absurd h.1 hwv | (rw [h.2] at pw; cases pw)
          · first | exact absurd h.1 hwv | (rw [h.2] at pw; cases pw)
        rw [show [w].filter P = [w] by rw [List.filter_cons, if_pos pw]; rfl, show [nrm (w, u, d)].filter (fun e => P e.1 && P e.2.1) = [nrm (w, u, d)] by rw [List.filter_cons, if_pos (by rw [z.1, z.2, pw, pu]; rfl)]; rfl]
        exact .leaf g' (List.mem_filter.mpr ⟨hu, pu⟩) (fun h => hw (List.mem_filter.mp h).1) d0 d1
      · rw [show [w].filter P = [] by rw [List.filter_cons, if_neg pw]; rfl, show [nrm (w, u, d)].filter (fun e => P e.1 && P e.2.1) = [] by rw [List.filter_cons, if_neg (by rw [z.1, z.2]; simp [pw])]; rfl, List.append_nil, List.append_nil]
        exact g'
def wsP (n : Nat) (P : Int → Bool) : List Int := (rngI n).filter P
section
variable {ws : List Int} (hw : ws.Nodup)
end
section
variable {P : Int → Bool} {v a : Int} (t : IsTr n es) (hS : Sd es P v a)
include t hS
end
end
end Tl

namespace Tl
open PySem
section
variable {n m : Nat} {es es' : List E3}
section
variable {P : Int → Bool} {v a u d : Int} (t : IsTr n es) (hS : Sd es P v a)
end
theorem Sd.eq {P : Int → Bool} {v a : Int} {cal : Int → Option Int} {pth : Int → List Int} (hS : Sd es P v a) (R : Rt n es a cal) (Pp : Pth a cal pth) (hc : cal v = some a) : ∀ x : Int, 0 ≤ x → x < n → P x = decide (v ∈ pth x) := by
  have hva : v ≠ a := fun e => by rw [e, R.cs] at hc; cases hc
  refine Rt.ind R ?_ ?_
  · rw [hS.pa, Pp.src]
    symm
    exact decide_eq_false (by simpa using hva)
  · intro u w h ih
    by_cases q : u = v
    · subst q
      rw [hS.pv, Pp.st _ _ h]
      symm
      exact decide_eq_true (by simp)
    · rcases hS.ed _ _ (R.ca u w h) with z | z | z
      · rw [z, ih, Pp.st _ _ h]
        congr 1
        rw [List.mem_append, List.mem_singleton]
        exact propext ⟨.inl, fun z => z.elim id (fun z => absurd z.symm q)⟩
      · exact absurd z.1 q
      · rw [z.1, R.cs] at h; cases h
theorem Sd.ws {P : Int → Bool} {v a : Int} {cal : Int → Option Int} {pth : Int → List Int} (hS : Sd es P v a) (R : Rt n es a cal) (Pp : Pth a cal pth) (hc : cal v = some a) : wsP n P = brL n pth v := by
  unfold wsP brL
  refine List.filter_congr fun x hx => ?_
  have := rngI_mem.mp hx
  exact hS.eq R Pp hc x this.1 this.2
end
section
variable {n1 n2 : Nat} {es1 es2 : List E3} {u1 u2 d : Int} (t1 : IsTr n1 es1) (t2 : IsTr n2 es2) (h1 : 0 ≤ u1 ∧ u1 < (n1 : Int)) (h2 : 0 ≤ u2 ∧ u2 < (n2 : Int)) (d0 : 1 ≤ d) (d1 : d ≤ 1000000000)
end
end Tl

namespace Tl
open PySem
variable {tf : List Fn} {fu k i : Nat}
section
variable {n : Nat} {es : List E3} {S : Option DS} {iN iM iP iB iO : Nat} {P : Int → Bool} {v a : Int}
end
end Tl

namespace Tl
open PySem
section
variable {n : Nat} {es : List E3} {s : Int} {cal : Int → Option Int} {φ : E3 → Int} {d : Int → Int}
end
variable {tf : List Fn} {fu k i : Nat}
section
variable {n : Nat} {es : List E3} {S : Option DS} {iI iW iD iM : Nat}
end
end Tl

namespace Tl
open PySem
section
variable {n : Nat} {es : List E3} {vs : List Int}
end
variable {tf : List Fn} {fu k i : Nat}
section
variable {n : Nat} {es : List E3} {S : Option DS} {iM : Nat} {ws : List Int}
end
section
variable {n : Nat} {es : List E3} {P : Int → Bool} {v a u : Int}
end
end Tl

namespace Tl
open PySem
section
variable {n m2 : Nat} {es es2 : List E3} {P : Int → Bool} {v a u2 d : Int}
end
end Tl

namespace Tl
open PySem
section
variable {n m : Nat} {es es' : List E3}
theorem bo_alike (t : IsTr n es) (t' : IsTr m es') {σ : Int → Int} (inj : ∀ x y, (0 ≤ x ∧ x < (n : Int)) → (0 ≤ y ∧ y < (n : Int)) → σ x = σ y → x = y)
    (h1 : ∀ x y c, Ed es x y c → Ed es' (σ x) (σ y) c) (h2 : ∀ x y' c, (0 ≤ x ∧ x < (n : Int)) → Ed es' (σ x) y' c → ∃ y, Ed es x y c ∧ σ y = y') {x : Int} {aw : Option Int} (hx : 0 ≤ x ∧ x < (n : Int)) (ha : ∀ u, aw = some u → Adj es x u) :
    bo n es x aw = bo m es' (σ x) (aw.map σ) := by
  refine bo_iso t t' (R := fun x aw x' aw' => (0 ≤ x ∧ x < (n : Int)) ∧ (∀ u, aw = some u → Adj es x u) ∧ x' = σ x ∧ aw' = aw.map σ) ?_ x aw (σ x) (aw.map σ) ⟨hx, ha, rfl, rfl⟩
  rintro x aw _ _ ⟨hx, ha, rfl, rfl⟩
  refine ⟨ha, fun u hu => ?_, σ, nb_iso t t' (fun u hu => ?_) (fun u' hu => ?_) fun u hu w hw e => ?_, fun u hu => .inr ?_⟩
  · obtain ⟨w, hw, rfl⟩ := Option.map_eq_some_iff.mp hu
    obtain ⟨c, hc⟩ := (ha w hw).ed
    exact (h1 _ _ _ hc).adj
  · obtain ⟨z1, z2⟩ := mem_nbA.mp hu
    obtain ⟨c, hc⟩ := z1.ed
    refine mem_nbA.mpr ⟨(h1 _ _ _ hc).adj, fun e => z2 ?_⟩
    obtain ⟨w, hw, e2⟩ := Option.map_eq_some_iff.mp e.symm
    have := inj w u (t.adj (ha w hw)).2.1 (t.adj z1).2.1 e2
    rw [hw, this]
  · obtain ⟨z1, z2⟩ := mem_nbA.mp hu
    obtain ⟨c, hc⟩ := z1.ed
    obtain ⟨y, hy, rfl⟩ := h2 x u' c hx hc
    refine ⟨y, mem_nbA.mpr ⟨hy.adj, fun e => z2 ?_⟩, rfl⟩
    rw [← e]; rfl
  · exact inj u w (t.adj (mem_nbA.mp hu).1).2.1 (t.adj (mem_nbA.mp hw).1).2.1 e
  · have z1 := (mem_nbA.mp hu).1
    obtain ⟨c, hc⟩ := z1.ed
    exact ⟨by rw [t.ed hc, t'.ed (h1 _ _ _ hc)], (t.adj z1).2.1, fun w hw => by cases hw; exact z1.symm, rfl, rfl⟩
theorem nd_alike (t : IsTr n es) (t' : IsTr m es') {σ : Int → Int} (inj : ∀ x y, (0 ≤ x ∧ x < (n : Int)) → (0 ≤ y ∧ y < (n : Int)) → σ x = σ y → x = y)
    (h1 : ∀ x y c, Ed es x y c → Ed es' (σ x) (σ y) c) (h2 : ∀ x y' c, (0 ≤ x ∧ x < (n : Int)) → Ed es' (σ x) y' c → ∃ y, Ed es x y c ∧ σ y = y') {x : Int} (hx : 0 ≤ x ∧ x < (n : Int)) : nd n es x = nd m es' (σ x) :=
  bo_alike t t' inj h1 h2 hx (fun u h => nomatch h)
end
section
variable {n1 n2 : Nat} {es1 es2 : List E3} {u1 u2 d : Int} (t1 : IsTr n1 es1) (t2 : IsTr n2 es2) (h1 : 0 ≤ u1 ∧ u1 < (n1 : Int)) (h2 : 0 ≤ u2 ∧ u2 < (n2 : Int)) (d0 : 1 ≤ d) (d1 : d ≤ 1000000000)
include t1 t2 h1 h2 d0 d1
end
end Tl

namespace Tl
open PySem
variable {tf : List Fn} {fu k i : Nat} {S : Option DS}
end Tl

namespace Tl
open PySem
theorem minI_le : ∀ {l : List Int} {a : Int}, minI a l ≤ a ∧ ∀ y ∈ l, minI a l ≤ y
  | [], a => ⟨Int.le_refl _, fun y h => nomatch h⟩
  | x :: r, a => by
    obtain ⟨h1, h2⟩ := minI_le (l := r) (a := if x < a then x else a)
    show minI (if x < a then x else a) r ≤ a ∧ ∀ y ∈ x :: r, minI (if x < a then x else a) r ≤ y
    refine ⟨?_, fun y hy => ?_⟩
    · split at h1 <;> split <;> omega
    · rcases List.mem_cons.mp hy with rfl | hy
      · split at h1 <;> split <;> omega
      · exact h2 y hy
theorem minI_mem : ∀ {l : List Int} {a : Int}, minI a l ∈ a :: l
  | [], a => List.mem_cons_self
  | x :: r, a => by
    show minI (if x < a then x else a) r ∈ a :: x :: r
    have := minI_mem (l := r) (a := if x < a then x else a)
    rcases List.mem_cons.mp this with h | h
    · rw [h]
      split <;> simp
    · exact List.mem_cons_of_mem _ (List.mem_cons_of_mem _ h)
section
variable {n : Nat} {es : List E3} {s : Int} {cal : Int → Option Int} {h : Int → Nat}
structure Hg (n : Nat) (es : List E3) (s : Int) (cal : Int → Option Int) (h : Int → Nat) : Prop where
  src : h s ≤ n
  st : ∀ v : Int, 0 ≤ v → v < n → 1 + ((nbA es v (cal v)).map h).sum ≤ h v
  all : ∀ v : Int, 0 ≤ v → v < n → h v ≤ n
theorem Hg.ex (t : IsTr n es) (R : Rt n es s cal) : ∃ h, Hg n es s cal h := by
  obtain ⟨pth, P⟩ := Pth.ex R
  have nn : ∀ v, 0 ≤ bS n pth (fun _ => 1) v := fun v => sum_nn fun x _ => by decide
  have len : ∀ v, bS n pth (fun _ => 1) v = ((brL n pth v).length : Int) := fun v => by
    unfold bS
    generalize brL n pth v = l
    induction l with
    | nil => rfl
    | cons a r ih => rw [List.map_cons, List.sum_cons, ih, List.length_cons]; omega
  have le : ∀ v, (brL n pth v).length ≤ n := fun v => by
    have := List.length_filter_le (fun x => decide (v ∈ pth x)) (rngI n)
    rw [rngI_len] at this
    exact this
  refine ⟨fun v => (bS n pth (fun _ => 1) v).toNat, ?_, fun v h0 h1 => ?_, fun v _ _ => ?_⟩
  · have := len s
    have := le s
    omega
  · have := bS_step P R t (g := fun _ => 1) (fun _ => by decide) h0 h1
    have e : ∀ l : List Int, (((l.map fun v => (bS n pth (fun _ => 1) v).toNat).sum : Nat) : Int) = (l.map (bS n pth fun _ => 1)).sum := fun l => by
      induction l with
      | nil => rfl
      | cons a r ih =>
        rw [List.map_cons, List.sum_cons, List.map_cons, List.sum_cons, ← ih]
        have := nn a
        omega
    have e := e (nbA es v (cal v))
    omega
  · have := len v
    have := le v
    omega
abbrev Wc := Int × D × Int
def wsum (es : List E3) (v : Int) (c : Wc) : Int := dl es v c.1 + c.2.2
def wval (es : List E3) (v : Int) (cs : List Wc) : Int := match cs.map (wsum es v) with
  | [] => 0
  | x :: r => (r.length : Int) + minI x r
def wD (v : Int) (cs : List Wc) : D := .tuple [.int v, .tuple (cs.map (·.2.1))]
def IsW (es : List E3) : Nat → Int → Option Int → D → Int → Prop
  | 0, _, _, _, _ => False
  | f + 1, v, aw, d, x => ∃ cs : List Wc, (cs.map (·.1)).Pairwise (· < ·) ∧ (∀ c ∈ cs, c.1 ∈ nbA es v aw ∧ IsW es f c.1 (some v) c.2.1 c.2.2) ∧ d = wD v cs ∧ x = wval es v cs
theorem IsW.mono : ∀ {f f' : Nat} {v : Int} {aw : Option Int} {d : D} {x : Int}, IsW es f v aw d x → f ≤ f' → IsW es f' v aw d x
  | 0, _, _, _, _, _, w, _ => w.elim
  | f + 1, 0, _, _, _, _, _, hl => absurd hl (by omega)
  | f + 1, f' + 1, v, aw, d, x, w, hl => by
    obtain ⟨cs, h1, h2, h3, h4⟩ := w
    exact ⟨cs, h1, fun c hc => ⟨(h2 c hc).1, IsW.mono (h2 c hc).2 (by omega)⟩, h3, h4⟩
theorem wval_cons {v : Int} {c : Wc} {cs : List Wc} : wval es v (c :: cs) = (cs.length : Int) + minI (wsum es v c) (cs.map (wsum es v)) := by
  show (((cs.map (wsum es v)).length : Nat) : Int) + _ = _
  rw [List.length_map]
theorem lt_nodup {l : List Int} (h : l.Pairwise (· < ·)) : l.Nodup := h.imp fun h => Int.ne_of_lt h
theorem IsW.bd (t : IsTr n es) : ∀ {f : Nat} {v : Int} {aw : Option Int} {d : D} {x : Int}, IsW es f v aw d x → (∀ u, aw = some u → Adj es v u) → 0 ≤ x ∧ x ≤ bo n es v aw
  | 0, _, _, _, _, w, _ => w.elim
  | f + 1, v, aw, d, x, w, ha => by
    obtain ⟨cs, h1, h2, _, rfl⟩ := w
    have sub : ∀ c ∈ cs, 1 ≤ wsum es v c ∧ wsum es v c ≤ ky n es v c.1 := fun c hc => by
      have ad := (mem_nbA.mp (h2 c hc).1).1
      have ih := IsW.bd t (h2 c hc).2 fun u hu => by cases hu; exact ad.symm
      have db := dl_bd t ad
      unfold wsum ky
      omega
    cases cs with
    | nil => exact ⟨Int.le_refl _, bn_nn (es := es) _ _ _⟩
    | cons c cs =>
      rw [wval_cons]
      have mm := minI_mem (l := cs.map (wsum es v)) (a := wsum es v c)
      rw [← List.map_cons (f := wsum es v)] at mm
      obtain ⟨c0, hc0, e0⟩ := List.mem_map.mp mm
      have lo : ∀ c' ∈ c :: cs, minI (wsum es v c) (cs.map (wsum es v)) ≤ wsum es v c' := fun c' hc' => by
        have := minI_le (l := cs.map (wsum es v)) (a := wsum es v c)
        rcases List.mem_cons.mp hc' with rfl | hc'
        · exact this.1
        · exact this.2 _ (List.mem_map.mpr ⟨c', hc', rfl⟩)
      generalize minI (wsum es v c) (cs.map (wsum es v)) = m at e0 lo ⊢
      have b0 := sub c0 hc0
      refine ⟨by omega, ?_⟩
      have hc : cs.length + 1 ≤ cnt m ((nbA es v aw).map (ky n es v)) := by
        have e : cnt m ((nbA es v aw).map (ky n es v)) = ((nbA es v aw).filter fun x => decide (m ≤ ky n es v x)).length := by
          unfold cnt
          rw [List.filter_map, List.length_map]
          rfl
        rw [e]
        have := nodup_sub (lt_nodup h1) (m := (nbA es v aw).filter fun x => decide (m ≤ ky n es v x)) fun x hx => by
          obtain ⟨c', hc', rfl⟩ := List.mem_map.mp hx
          have := sub c' hc'
          have := lo c' hc'
          exact List.mem_filter.mpr ⟨(h2 c' hc').1, decide_eq_true (by omega)⟩
        rw [List.length_map, List.length_cons] at this
        exact this
      have := lst_at (ks := (nbA es v aw).map (ky n es v)) (t := m) (by omega)
      rw [bo_lst t ha]
      omega
end
end Tl

namespace Tl
open PySem
variable {tf : List Fn} {fu k i : Nat} {n : Nat} {es : List E3} {S : Option DS}
end Tl

namespace Tl
open PySem
variable {tf : List Fn} {fu k i : Nat} {n : Nat} {es : List E3}
def Pl (x : Slot) : Prop := x = .no ∨ ∃ d, x = .v d
theorem Pl.ok {x : Slot} (h : Pl x) : (match (some x : Option Slot) with
    | some (.own _) => false
    | some (.dct _) => false
    | _ => true) = true := by rcases h with rfl | ⟨d, rfl⟩ <;> rfl
theorem Pl.no : Pl .no := .inl rfl
theorem Pl.v (d : D) : Pl (.v d) := .inr ⟨d, rfl⟩
section
variable {iN iD iL iK iB : Nat} {S : Option DS}
end
end Tl

namespace Tl
open PySem
theorem maxL_spec {l : List Int} (h : l ≠ []) : maxL l ∈ l ∧ ∀ x ∈ l, x ≤ maxL l := by
  cases l with
  | nil => exact absurd rfl h
  | cons x r =>
    have hb := maxI_le.mp (Int.le_refl (maxI x r))
    refine ⟨?_, fun y hy => ?_⟩
    · show maxI x r ∈ x :: r
      have key : ∀ (r : List Int) (x : Int), maxI x r ∈ x :: r := fun r => by
        induction r with
        | nil => intro x; exact List.mem_cons_self
        | cons a r ih =>
          intro x
          show maxI (if a > x then a else x) r ∈ x :: a :: r
          rcases List.mem_cons.mp (ih (if a > x then a else x)) with h | h
          · rw [h]
            split <;> simp
          · exact List.mem_cons_of_mem _ (List.mem_cons_of_mem _ h)
      exact key r x
    · rcases List.mem_cons.mp hy with rfl | hy
      · exact hb.1
      · exact hb.2 y hy
theorem max_ge {l : List Int} : ∀ {q : Nat} {a : Int}, l.Nodup → (∀ x ∈ l, a ≤ x) → l.length = q + 1 → ∃ x ∈ l, a + q ≤ x := by
  intro q a nd lo hl
  have hne : l ≠ [] := fun z => by rw [z] at hl; simp at hl
  obtain ⟨m1, m2⟩ := maxL_spec hne
  refine ⟨maxL l, m1, ?_⟩
  have h0 := lo _ m1
  have := nodup_sub nd (m := (rngI (maxL l - a + 1).toNat).map (a + ·)) fun x hx => by
    have h1 := lo x hx
    have h2 := m2 x hx
    exact List.mem_map.mpr ⟨x - a, rngI_mem.mpr (by omega), by omega⟩
  rw [List.length_map, rngI_len] at this
  omega
section
variable {n : Nat} {es : List E3} {s : Int} {cal : Int → Option Int} {sch : Int → Int} {B : Int}
theorem arr_some {v u : Int} (h : cal v = some u) : arr es cal sch v = sch v + dl es u v := by unfold arr; rw [h]
theorem arr_none {v : Int} (h : cal v = none) : arr es cal sch v = 0 := by unfold arr; rw [h]
theorem Scd.low (t : IsTr n es) (R : Rt n es s cal) (c : Scd es cal sch B) : ∀ v : Int, 0 ≤ v → v < n → ∃ x : Int, (0 ≤ x ∧ x < n) ∧ arr es cal sch v + bo n es v (cal v) ≤ arr es cal sch x := by
  refine R.down fun v h0 h1 ih => ?_
  rw [bo_step t R]
  -- the greatest arrival
  obtain ⟨F, hF⟩ : ∃ F, F = maxL ((rngI n).map (arr es cal sch)) := ⟨_, rfl⟩
  have hne : (rngI n).map (arr es cal sch) ≠ [] := fun z => by
    have := congrArg List.length z
    rw [List.length_map, rngI_len, List.length_nil] at this
    omega
  obtain ⟨m1, m2⟩ := maxL_spec hne
  rw [← hF] at m1 m2
  obtain ⟨x, hx, ex⟩ := List.mem_map.mp m1
  have le : ∀ y : Int, 0 ≤ y → y < n → arr es cal sch y ≤ F := fun y a b => m2 _ (List.mem_map.mpr ⟨y, rngI_mem.mpr ⟨a, b⟩, rfl⟩)
  refine ⟨x, rngI_mem.mp hx, ?_⟩
  rw [ex]
  have lv := le v h0 h1
  have key : lst ((nbA es v (cal v)).map fun u => dl es v u + bo n es u (cal u)) ≤ F - arr es cal sch v := by
    refine lst_le.mpr ⟨by omega, fun τ hτ => ?_⟩
    have e : cnt τ ((nbA es v (cal v)).map fun u => dl es v u + bo n es u (cal u)) = ((nbA es v (cal v)).filter fun u => decide (τ ≤ dl es v u + bo n es u (cal u))).length := by
      unfold cnt
      rw [List.filter_map, List.length_map]
      rfl
    rw [e] at hτ ⊢
    obtain ⟨L, hL⟩ : ∃ L, L = (nbA es v (cal v)).filter fun u => decide (τ ≤ dl es v u + bo n es u (cal u)) := ⟨_, rfl⟩
    rw [← hL] at hτ ⊢
    have mem : ∀ u ∈ L, cal u = some v ∧ τ ≤ dl es v u + bo n es u (cal u) := fun u hu => by
      rw [hL] at hu
      obtain ⟨z1, z2⟩ := List.mem_filter.mp hu
      exact ⟨R.chi.mp z1, of_decide_eq_true z2⟩
    have nd : L.Nodup := by rw [hL]; exact (t.nodupA _ _).filter _
    have nd2 : (L.map sch).Nodup := nodup_map_on nd fun a ha b hb e => by
      by_cases z : a = b
      · exact z
      · exact absurd e (c.ne a b v (mem a ha).1 (mem b hb).1 z)
    obtain ⟨y, hy, hge⟩ := max_ge (q := L.length - 1) (a := arr es cal sch v) nd2 (fun z hz => by
      obtain ⟨u, hu, rfl⟩ := List.mem_map.mp hz
      exact c.lo u v (mem u hu).1) (by rw [List.length_map]; omega)
    obtain ⟨u, hu, rfl⟩ := List.mem_map.mp hy
    obtain ⟨cu, tu⟩ := mem u hu
    obtain ⟨w, hw, hle⟩ := ih u cu
    have := le w hw.1 hw.2
    rw [arr_some cu] at hle
    omega
  omega
theorem Scd.fin (t : IsTr n es) (R : Rt n es s cal) (c : Scd es cal sch B) {v : Int} (h0 : 0 ≤ v) (h1 : v < n) : arr es cal sch v + bo n es v (cal v) ≤ maxL ((rngI n).map (arr es cal sch)) := by
  obtain ⟨x, hx, hle⟩ := c.low t R v h0 h1
  have hne : (rngI n).map (arr es cal sch) ≠ [] := fun z => by
    have := congrArg List.length z
    rw [List.length_map, rngI_len, List.length_nil] at this
    omega
  have := (maxL_spec hne).2 _ (List.mem_map.mpr ⟨x, rngI_mem.mpr hx, rfl⟩)
  omega
theorem Scd.need (t : IsTr n es) (R : Rt n es s cal) (c : Scd es cal sch B) : nd n es s ≤ maxL ((rngI n).map (arr es cal sch)) := by
  have := c.fin t R R.src.1 R.src.2
  rw [arr_none R.cs, R.cs, ← nd_none] at this
  omega
variable {A st : Int → Int}
end
variable {tf : List Fn} {fu k i : Nat} {n : Nat} {es : List E3} {s : Int} {cal : Int → Option Int} {sch : Int → Int} {B : Int} {S : Option DS}
end Tl

namespace Tl
open PySem
variable {tf : List Fn} {fu k i : Nat} {n m : Nat} {es es' : List E3}
end Tl

namespace Tl
open PySem
section
variable {n : Nat} {es : List E3} {L : Int}
variable {D : Int → Int → Int} {PT : Int → Int → List Int}
end
end Tl

namespace Law
open PySem Tl
def b0 : ISs := .cons (.set 2 (.comp (.var 4) (.cons (.n 3) (.cons (.n 4) (.cons (.n 5) .nil))) (.seq (.subv 0 (.con (.int 1)))) (.so (.cmp .Eq (.var 3) (.var 1))) [3, 4, 5])) (.cons (.ret (.bi .tuple (.cons (.bi .sorted (.cons (.bin .Add (.var 2) (.comp (.var 3) (.cons (.n 3) (.cons (.n 4) (.cons (.n 5) .nil))) (.seq (.subv 0 (.con (.int 1)))) (.so (.cmp .Eq (.var 4) (.var 1))) [3, 4, 5])) .nil)) .nil))) .nil)
def f0 : Fn := ⟨2, 6, b0⟩ -- neighbours_of
def b1 : ISs := .cons (.for_ (.cons (.n 3) (.cons (.n 4) (.cons (.n 5) .nil))) (.seq (.subv 0 (.con (.int 1)))) (.cons (.if_ (.cmp .Eq (.tup (.cons (.var 3) (.cons (.var 4) .nil))) (.tup (.cons (.bi .min2 (.cons (.var 1) (.cons (.var 2) .nil))) (.cons (.bi .max2 (.cons (.var 1) (.cons (.var 2) .nil))) .nil)))) (.cons (.ret (.var 5)) .nil) .nil) .nil)) (.cons (.ret (.con .none)) .nil)
def f1 : Fn := ⟨3, 6, b1⟩ -- delay_between
def b2 : ISs := .cons (.ret (.bi .maxL (.cons (.bin .Add (.lst (.cons (.con (.int 0)) .nil)) (.comp (.bin .Add (.var 2) (.var 1)) (.cons (.n 1) (.cons (.n 2) .nil)) (.enum (.cons (.bi .sortedR (.cons (.var 0) .nil)) .nil)) .no [1, 2])) .nil))) .nil
def f2 : Fn := ⟨1, 3, b2⟩ -- least_time
def b3 : ISs := .cons (.set 3 (.lst .nil)) (.cons (.for_ (.n 4) (.seq (.call 0 (.cons (.var 0) (.cons (.var 1) .nil)))) (.cons (.if_ (.cmp .NotEq (.var 4) (.var 2)) (.cons (.app 3 (.tup (.cons (.bin .Add (.call 1 (.cons (.var 0) (.cons (.var 1) (.cons (.var 4) .nil)))) (.call 4 (.cons (.var 0) (.cons (.var 4) (.cons (.var 1) .nil))))) (.cons (.var 4) .nil)))) .nil) .nil) .nil)) (.cons (.ret (.var 3)) .nil))
def f3 : Fn := ⟨3, 5, b3⟩ -- keys_away
def b4 : ISs := .cons (.ret (.call 2 (.cons (.comp (.var 3) (.cons (.n 3) (.cons (.n 4) .nil)) (.seq (.call 3 (.cons (.var 0) (.cons (.var 1) (.cons (.var 2) .nil))))) .no [3, 4]) .nil))) .nil
def f4 : Fn := ⟨3, 5, b4⟩ -- branch_need
def b5 : ISs := .cons (.ret (.call 4 (.cons (.var 0) (.cons (.var 1) (.cons (.con .none) .nil))))) .nil
def f5 : Fn := ⟨2, 2, b5⟩ -- need_from
def b6 : ISs := .cons (.set 1 (.bin .Add (.bi .list (.cons (.slice (.var 0) .no (.so (.con (.int 63)))) .nil)) (.bin .Mult (.lst (.cons (.con (.int 0)) .nil)) (.bi .int1 (.cons (.cmp .Eq (.lenv 0) (.con (.int 0))) .nil))))) (.cons (.mkdr 1 (.comp (.bin .Mult (.var 2) (.bi .int1 (.cons (.cmp .GtE (.var 2) (.bin .Pow (.con (.int 10)) (.con (.int 18)))) .nil))) (.n 2) (.seq (.var 1)) .no [2])) .nil)
def f6 : Fn := ⟨1, 3, b6⟩ -- _law_draws
def b7 : ISs := .cons (.undr 2 3 4 0) (.cons (.set 5 (.bin .Mod (.var 3) (.lenv 2))) (.cons (.stsub 0 (.con (.int 1)) (.bin .Add (.var 3) (.con (.int 1)))) (.cons (.if_ (.cmp .Gt (.subv 4 (.var 5)) (.con (.int 0))) (.cons (.set 6 (.bin .Mod (.subv 4 (.var 5)) (.var 1))) (.cons (.stsub 4 (.var 5) (.bin .FloorDiv (.subv 4 (.var 5)) (.var 1))) (.cons (.ret (.var 6)) .nil))) .nil) (.cons (.set 7 (.bin .Mod (.bin .Pow (.bin .Add (.bin .Add (.bin .Mod (.subv 2 (.var 5)) (.con (.int 2147483629))) (.bin .Mult (.con (.int 39119)) (.var 3))) (.con (.int 9901))) (.con (.int 3))) (.con (.int 2147483587)))) (.cons (.set 8 (.bin .Mod (.bin .Pow (.bin .Add (.bin .Add (.var 7) (.bin .Mult (.bin .Mult (.con (.int 7001)) (.var 3)) (.var 3))) (.con (.int 41))) (.con (.int 3))) (.con (.int 2147483563)))) (.cons (.ret (.bin .Mod (.bin .Mod (.bin .Add (.bin .Mult (.var 8) (.con (.int 2147483423))) (.var 7)) (.con (.int 4611686018427387847))) (.var 1))) .nil))))))
def f7 : Fn := ⟨2, 9, b7⟩ -- _law_next
def b8 : ISs := .cons (.ret (.subv 1 (.call 7 (.cons (.var 0) (.cons (.lenv 1) .nil))))) .nil
def f8 : Fn := ⟨2, 2, b8⟩ -- _law_one
def b9 : ISs := .cons (.if_ (.and_ (.isi (.var 0) [.tuple]) (.isi (.var 1) [.tuple])) (.cons (.ret (.and_ (.cmp .Eq (.lenv 0) (.lenv 1)) (.bi .allL (.cons (.comp (.call 9 (.cons (.var 2) (.cons (.var 3) .nil))) (.cons (.n 2) (.cons (.n 3) .nil)) (.zip (.cons (.var 0) (.cons (.var 1) .nil))) .no [2, 3]) .nil)))) .nil) .nil) (.cons (.if_ (.or_ (.isi (.var 0) [.bool]) (.isi (.var 1) [.bool])) (.cons (.ret (.and_ (.isi (.var 0) [.bool]) (.and_ (.isi (.var 1) [.bool]) (.cmp .Eq (.var 0) (.var 1))))) .nil) .nil) (.cons (.if_ (.cmp .NotEq (.isi (.var 0) [.tuple]) (.isi (.var 1) [.tuple])) (.cons (.ret (.con (.bool false))) .nil) .nil) (.cons (.if_ (.cmp .NotEq (.isi (.var 0) [.int]) (.isi (.var 1) [.int])) (.cons (.ret (.con (.bool false))) .nil) .nil) (.cons (.ret (.and_ (.cmp .Eq (.isi (.var 0) [.str]) (.isi (.var 1) [.str])) (.cmp .Eq (.var 0) (.var 1)))) .nil))))
def f9 : Fn := ⟨2, 4, b9⟩ -- _law_equal
def b10 : ISs := .cons (.set 2 (.call 7 (.cons (.var 0) (.cons (.bin .Add (.bi .min2 (.cons (.var 1) (.cons (.con (.int 3)) .nil))) (.con (.int 1))) .nil)))) (.cons (.ret (.sub (.lst (.cons (.var 2) (.cons (.bin .Sub (.var 1) (.var 2)) (.cons (.call 7 (.cons (.var 0) (.cons (.bin .Add (.var 1) (.con (.int 1))) .nil))) .nil)))) (.call 7 (.cons (.var 0) (.cons (.con (.int 3)) .nil))))) .nil)
def f10 : Fn := ⟨2, 3, b10⟩ -- _law_size
def b11 : ISs := .cons (.set 2 (.rngl (.con (.int 0)) (.var 1))) (.cons (.ret (.comp (.pop1 2 (.call 7 (.cons (.var 0) (.cons (.lenv 2) .nil)))) (.n 3) (.rng (.cons (.var 1) .nil)) .no [3])) .nil)
def f11 : Fn := ⟨2, 4, b11⟩ -- _law_shuffled
def b12 : ISs := .cons (.ret (.tup (.cons (.var 0) (.cons (.bi .tuple (.cons (.bi .sorted (.cons (.comp (.tup (.cons (.bi .min2 (.cons (.var 2) (.cons (.var 3) .nil))) (.cons (.bi .max2 (.cons (.var 2) (.cons (.var 3) .nil))) (.cons (.var 4) .nil)))) (.cons (.n 2) (.cons (.n 3) (.cons (.n 4) .nil))) (.seq (.var 1)) .no [2, 3, 4]) .nil)) .nil)) .nil)))) .nil
def f12 : Fn := ⟨2, 5, b12⟩ -- _law_made
def b13 : ISs := .cons (.par [3, 4] (.cons (.call 7 (.cons (.var 0) (.cons (.var 2) .nil))) (.cons (.lst .nil) .nil))) (.cons (.for_ (.n 5) (.rng (.cons (.var 2) .nil)) (.cons (.set 6 (.ite (.cmp .Lt (.var 5) (.var 3)) (.bin .Sub (.var 1) (.var 3)) (.con (.int 1)))) (.cons (.set 7 (.bin .Add (.var 6) (.call 10 (.cons (.var 0) (.cons (.bin .Sub (.bin .Sub (.var 1) (.var 5)) (.var 6)) .nil))))) (.cons (.app 4 (.ite (.cmp .Eq (.var 5) (.var 3)) (.bin .Sub (.var 1) (.var 3)) (.var 7))) .nil)))) (.cons (.ret (.var 4)) .nil))
def f13 : Fn := ⟨3, 8, b13⟩ -- _law_keys
def b14 : ISs := .cons (.par [4, 5] (.cons (.lst .nil) (.cons (.bin .Add (.var 2) (.con (.int 1))) .nil))) (.cons (.set 6 (.ite (.cmp .Gt (.var 1) (.con (.int 0))) (.bin .Add (.con (.int 1)) (.call 7 (.cons (.var 0) (.cons (.bi .min3 (.cons (.con (.int 4)) (.cons (.bin .Sub (.var 3) (.con (.int 1))) (.cons (.var 1) .nil)))) .nil)))) (.con (.int 0)))) (.cons (.set 7 (.bin .Sub (.bin .Sub (.var 3) (.con (.int 1))) (.var 6))) (.cons (.for_ (.n 8) (.seq (.ite (.cmp .Gt (.var 6) (.con (.int 0))) (.call 13 (.cons (.var 0) (.cons (.var 1) (.cons (.var 6) .nil)))) (.lst .nil))) (.cons (.set 9 (.call 7 (.cons (.var 0) (.cons (.bin .Add (.var 7) (.con (.int 1))) .nil)))) (.cons (.set 7 (.bin .Sub (.var 7) (.var 9))) (.cons (.set 10 (.bin .Mult (.call 10 (.cons (.var 0) (.cons (.bin .Sub (.var 8) (.con (.int 1))) .nil))) (.bi .int1 (.cons (.cmp .Gt (.var 9) (.con (.int 0))) .nil)))) (.cons (.app 4 (.tup (.cons (.var 2) (.cons (.var 5) (.cons (.bin .Sub (.var 8) (.var 10)) (.cons (.var 10) .nil)))))) (.cons (.unp (.cons (.n 11) (.cons (.n 5) .nil)) (.call 14 (.cons (.var 0) (.cons (.var 10) (.cons (.var 5) (.cons (.bin .Add (.con (.int 1)) (.var 9)) .nil)))))) (.cons (.set 4 (.bin .Add (.var 4) (.var 11))) .nil))))))) (.cons (.ret (.lst (.cons (.var 4) (.cons (.var 5) .nil)))) .nil))))
def f14 : Fn := ⟨4, 12, b14⟩ -- _law_grown
def b15 : ISs := .cons (.set 1 (.call 6 (.cons (.var 0) .nil))) (.cons (.for_ (.n 2) (.rng (.cons (.con (.int 8)) .nil)) (.cons (.set 3 (.call 8 (.cons (.var 1) (.cons (.lst (.cons (.con (.int 0)) (.cons (.con (.int 1)) (.cons (.con (.int 2)) (.cons (.con (.int 3)) (.cons (.con (.int 5)) (.cons (.con (.int 9)) (.cons (.con (.int 100)) (.cons (.bin .Sub (.bin .Pow (.con (.int 10)) (.con (.int 9))) (.call 7 (.cons (.var 1) (.cons (.con (.int 9)) .nil)))) .nil))))))))) .nil)))) (.cons (.unp (.cons (.n 4) (.cons (.n 5) .nil)) (.call 14 (.cons (.var 1) (.cons (.var 3) (.cons (.con (.int 0)) (.cons (.bin .Add (.con (.int 2)) (.call 7 (.cons (.var 1) (.cons (.con (.int 15)) .nil)))) .nil)))))) (.cons (.set 6 (.call 11 (.cons (.var 1) (.cons (.var 5) .nil)))) (.cons (.set 7 (.call 12 (.cons (.var 5) (.cons (.comp (.tup (.cons (.subv 6 (.var 8)) (.cons (.subv 6 (.var 9)) (.cons (.var 10) .nil)))) (.cons (.n 8) (.cons (.n 9) (.cons (.n 10) (.cons (.n 11) .nil)))) (.seq (.var 4)) .no [8, 9, 10, 11]) .nil)))) (.cons (.if_ (.not_ (.call 9 (.cons (.call 5 (.cons (.var 7) (.cons (.subv 6 (.con (.int 0))) .nil))) (.cons (.var 3) .nil)))) (.cons (.ret (.con (.bool false))) .nil) .nil) (.cons (.for_ (.cons (.n 8) (.cons (.n 9) (.cons (.n 10) (.cons (.n 11) .nil)))) (.seq (.var 4)) (.cons (.if_ (.not_ (.call 9 (.cons (.call 4 (.cons (.var 7) (.cons (.subv 6 (.var 9)) (.cons (.subv 6 (.var 8)) .nil)))) (.cons (.var 11) .nil)))) (.cons (.ret (.con (.bool false))) .nil) .nil) .nil)) .nil))))))) (.cons (.ret (.con (.bool true))) .nil))
def f15 : Fn := ⟨1, 12, b15⟩ -- law
def tf : List Fn := [f0, f1, f2, f3, f4, f5, f6, f7, f8, f9, f10, f11, f12, f13, f14, f15]
end Law

namespace Law
open PySem Tl
variable {fu k : Nat}
theorem hNbrs : tf[0]? = some ⟨2, 6, bNbrs⟩ := rfl -- neighbours_of
theorem hBetween : tf[1]? = some ⟨3, 6, bBetween⟩ := rfl -- delay_between
theorem hLeastT : tf[2]? = some ⟨1, 3, bLeastT⟩ := rfl -- least_time
theorem hKeysAway : tf[3]? = some ⟨3, 5, bKeysAway 0 1 4⟩ := rfl -- keys_away
theorem hBranchNeed : tf[4]? = some ⟨3, 5, bBranchNeed 2 3⟩ := rfl -- branch_need
theorem hNeedFrom : tf[5]? = some ⟨2, 2, bNeedFrom 4⟩ := rfl -- need_from
theorem hDraws : tf[6]? = some ⟨1, 3, bDraws⟩ := rfl -- _law_draws
theorem hNext : tf[7]? = some ⟨2, 9, bNext⟩ := rfl -- _law_next
theorem hOne : tf[8]? = some ⟨2, 2, bOne 7⟩ := rfl -- _law_one
theorem hEqual : tf[9]? = some ⟨2, 4, bEqual 9⟩ := rfl -- _law_equal
theorem hSize : tf[10]? = some ⟨2, 3, bSize 7⟩ := rfl -- _law_size
theorem hShuffled : tf[11]? = some ⟨2, 4, bShuffled 7⟩ := rfl -- _law_shuffled
theorem hMade : tf[12]? = some ⟨2, 5, bMade⟩ := rfl -- _law_made
theorem pn : PN tf 0 1 2 3 4 5 := ⟨hNbrs, hBetween, hLeastT, hKeysAway, hBranchNeed, hNeedFrom⟩
def KB (N e : Int) (ks : List Int) : Prop := ∀ (p : Nat) (x : Int), ks[p]? = some x → 1 ≤ x ∧ x ≤ N - p ∧ ((p : Int) < e → N - e ≤ x) ∧ ((p : Int) = e → x = N - e)
theorem cnt_hi {N t : Int} : ∀ {ks : List Int} {o : Int}, (∀ (p : Nat) (x : Int), ks[p]? = some x → x ≤ N - o - p) → cnt t ks = 0 ∨ t + cnt t ks ≤ N - o + 1
  | [], o, _ => Or.inl rfl
  | a :: r, o, h => by
    have ih := cnt_hi (N := N) (t := t) (ks := r) (o := o + 1) fun p x hx => by
      have := h (p + 1) x (by simpa using hx)
      omega
    have h0 := h 0 a rfl
    have e : cnt t (a :: r) = cnt t [a] + cnt t r := by rw [← cnt_app]; rfl
    rw [e, cnt_one]
    split <;> omega
theorem cnt_lo {t : Int} : ∀ {ks : List Int} {e : Nat}, e < ks.length → (∀ (p : Nat) (x : Int), p ≤ e → ks[p]? = some x → t ≤ x) → e + 1 ≤ cnt t ks
  | [], e, h, _ => absurd h (Nat.not_lt_zero _)
  | a :: r, e, hl, h => by
    have h0 := h 0 a (Nat.zero_le _) rfl
    have q : cnt t (a :: r) = cnt t [a] + cnt t r := by rw [← cnt_app]; rfl
    rw [q, cnt_one, if_pos h0]
    cases e with
    | zero => omega
    | succ e =>
      have := cnt_lo (t := t) (ks := r) (e := e) (by rw [List.length_cons] at hl; omega) fun p x hp hx => h (p + 1) x (by omega) (by simpa using hx)
      omega
theorem KB.lst {N e : Int} {ks : List Int} (h : KB N e ks) (e0 : 0 ≤ e) (e1 : e < ks.length) (hN : 0 ≤ N) : lst ks = N := by
  refine Int.le_antisymm (lst_le.mpr ⟨hN, fun t z => ?_⟩) ?_
  · have := cnt_hi (N := N) (t := t) (ks := ks) (o := 0) fun p x hx => by have := (h p x hx).2.1; omega
    omega
  · have lo := cnt_lo (t := N - e) (ks := ks) (e := e.toNat) (by omega) fun p x hp hx => by
      have := (h p x hx).2.2
      by_cases q : (p : Int) = e
      · have := this.2 q; omega
      · exact this.1 (by omega)
    have := lst_at (ks := ks) (t := N - e) (by omega)
    omega
abbrev Rw := Int × Int × Int × Int
def rwD (r : Rw) : PyData := .tuple [.int r.1, .int r.2.1, .int r.2.2.1, .int r.2.2.2]
def ck (r : Rw) : Int := r.2.2.1 + r.2.2.2
def toE (r : Rw) : E3 := (r.1, r.2.1, r.2.2.1)
def kd (rows : List Rw) (v : Int) : List Rw := rows.filter fun r => decide (r.1 = v)
def rI (a : Int) (m : Nat) : List Int := (List.range m).map fun (i : Nat) => a + (i : Int)
theorem rI_app (a : Int) (m p : Nat) : rI a (m + p) = rI a m ++ rI (a + m) p := by
  unfold rI
  rw [List.range_add, List.map_append, List.map_map]
  congr 1
  refine List.map_congr_left fun i _ => ?_
  show a + ((m + i : Nat) : Int) = _
  omega
theorem mem_rI {a x : Int} {m : Nat} : x ∈ rI a m ↔ a ≤ x ∧ x < a + m := by
  unfold rI
  rw [List.mem_map]
  constructor
  · rintro ⟨i, hi, rfl⟩
    have := List.mem_range.mp hi
    omega
  · intro h
    exact ⟨(x - a).toNat, List.mem_range.mpr (by omega), by omega⟩
theorem rI_lt (a : Int) (m : Nat) : (rI a m).Pairwise (· < ·) := by
  unfold rI
  rw [List.pairwise_map]
  exact List.pairwise_lt_range.imp fun h => by omega
structure Bu (first : Int) (rows : List Rw) : Prop where
  ch : rows.map (fun r => r.2.1) = rI (first + 1) rows.length
  pa : ∀ r ∈ rows, first ≤ r.1 ∧ r.1 < r.2.1
  de : ∀ r ∈ rows, 1 ≤ r.2.2.1 ∧ r.2.2.1 ≤ 1000000000 ∧ 0 ≤ r.2.2.2
  ow : ∀ r ∈ rows, lst ((kd rows r.2.1).map ck) = r.2.2.2
theorem Bu.nil (f : Int) : Bu f [] := ⟨rfl, (fun _ h => nomatch h), (fun _ h => nomatch h), (fun _ h => nomatch h)⟩
theorem Bu.rng {f : Int} {rows : List Rw} (B : Bu f rows) {r : Rw} (h : r ∈ rows) : f < r.2.1 ∧ r.2.1 < f + 1 + rows.length := by
  have : r.2.1 ∈ rows.map (fun r => r.2.1) := List.mem_map.mpr ⟨r, h, rfl⟩
  rw [B.ch] at this
  have := mem_rI.mp this
  omega
theorem kd_app {r s : List Rw} {v : Int} : kd (r ++ s) v = kd r v ++ kd s v := List.filter_append ..
theorem kd_nil {r : List Rw} {v : Int} (h : ∀ x ∈ r, x.1 ≠ v) : kd r v = [] := List.filter_eq_nil_iff.mpr fun x hx => by simpa using h x hx
theorem Bu.add {f : Int} {rows below : List Rw} {c d o : Int} (B : Bu f rows) (hc : c = f + 1 + rows.length) (C : Bu c below) (hd : 1 ≤ d ∧ d ≤ 1000000000) (ho : 0 ≤ o) (hl : lst ((kd below c).map ck) = o) :
    Bu f (rows ++ (f, c, d, o) :: below) ∧ kd (rows ++ (f, c, d, o) :: below) f = kd rows f ++ [(f, c, d, o)] := by
  have cut : ∀ v, kd (rows ++ (f, c, d, o) :: below) v = kd rows v ++ (kd [(f, c, d, o)] v ++ kd below v) := fun v => by
    rw [kd_app, show (f, c, d, o) :: below = [(f, c, d, o)] ++ below from rfl, kd_app]
  have k1 : ∀ v, v ≠ f → kd [(f, c, d, o)] v = [] := fun v hv => kd_nil fun x hx => by rw [List.mem_singleton.mp hx]; exact Ne.symm hv
  have k2 : ∀ v, v < c → kd below v = [] := fun v hv => kd_nil fun x hx => by have := (C.pa x hx).1; omega
  have k3 : ∀ v, c ≤ v → kd rows v = [] := fun v hv => kd_nil fun x hx => by
    have := B.rng hx
    have := (B.pa x hx).2
    omega
  refine ⟨⟨?_, ?_, ?_, ?_⟩, ?_⟩
  · rw [List.map_append, List.map_cons, B.ch, C.ch, List.length_append, List.length_cons, rI_app]
    congr 1
    rw [show below.length + 1 = 1 + below.length by omega, rI_app]
    show [c] ++ _ = _ ++ _
    congr 1
    · show [c] = [f + 1 + (rows.length : Int) + ((0 : Nat) : Int)]
      rw [hc]
      simp
    · rw [hc]; rfl
  · intro r hr
    rcases List.mem_append.mp hr with hr | hr
    · exact B.pa r hr
    · rcases List.mem_cons.mp hr with rfl | hr
      · exact ⟨Int.le_refl _, by show f < c; omega⟩
      · have := C.pa r hr
        omega
  · intro r hr
    rcases List.mem_append.mp hr with hr | hr
    · exact B.de r hr
    · rcases List.mem_cons.mp hr with rfl | hr
      · exact ⟨hd.1, hd.2, ho⟩
      · exact C.de r hr
  · intro r hr
    rw [cut]
    rcases List.mem_append.mp hr with hr | hr
    · have := B.rng hr
      rw [k1 _ (by omega), k2 _ (by omega), List.append_nil, List.append_nil]
      exact B.ow r hr
    · rcases List.mem_cons.mp hr with rfl | hr
      · rw [k3 _ (Int.le_refl _), k1 _ (by show c ≠ f; omega)]
        exact hl
      · have := C.rng hr
        rw [k3 _ (by omega), k1 _ (by omega)]
        exact C.ow r hr
  · rw [cut, k2 f (by omega), List.append_nil]
    congr 1
    show List.filter _ _ = _
    simp
theorem Bu.tg {rows : List Rw} (B : Bu 0 rows) : ∀ m, m ≤ rows.length → TG (m + 1) ((rows.take m).map toE)
  | 0, _ => TG.one
  | m + 1, h => by
    have ih := B.tg m (by omega)
    have hm : m < rows.length := by omega
    have e1 : rows.take (m + 1) = rows.take m ++ [rows[m]] := by rw [List.take_add_one, List.getElem?_eq_getElem hm]; rfl
    have hr : rows[m] ∈ rows := List.getElem_mem hm
    have c1 : rows[m].2.1 = (m : Int) + 1 := by
      have h1 : (rows.map (fun r => r.2.1))[m]? = some rows[m].2.1 := by rw [List.getElem?_map, List.getElem?_eq_getElem hm]; rfl
      rw [B.ch] at h1
      unfold rI at h1
      rw [List.getElem?_map, List.getElem?_range hm] at h1
      have h1 := Option.some.inj h1
      have h1 : (0 : Int) + 1 + (m : Int) = _ := h1
      omega
    have p1 := B.pa _ hr
    have d1 := B.de _ hr
    have q := ih.leaf (u := rows[m].1) (d := rows[m].2.2.1) p1.1 (by omega) d1.1 d1.2.1
    rw [e1, List.map_append]
    have e2 : toE rows[m] = (rows[m].1, ((m + 1 : Nat) : Int), rows[m].2.2.1) := by
      unfold toE
      rw [c1]
      rfl
    rw [List.map_singleton, e2]
    exact q
theorem Bu.child_inj {f : Int} {rows : List Rw} (B : Bu f rows) : ∀ r ∈ rows, ∀ s ∈ rows, r.2.1 = s.2.1 → r = s := by
  have nd : (rows.map fun r => r.2.1).Nodup := by rw [B.ch]; exact (rI_lt _ _).imp fun h => by omega
  intro r hr s hs e
  have key : ∀ l : List Rw, (l.map fun r => r.2.1).Nodup → ∀ r ∈ l, ∀ s ∈ l, r.2.1 = s.2.1 → r = s := fun l => by
    induction l with
    | nil => exact fun _ r hr => nomatch hr
    | cons a l ih =>
      intro hn r hr s hs e
      rw [List.map_cons, List.nodup_cons] at hn
      rcases List.mem_cons.mp hr with h1 | h1
      · rcases List.mem_cons.mp hs with h2 | h2
        · rw [h1, h2]
        · exact absurd (List.mem_map (f := fun r : Rw => r.2.1) (l := l) |>.mpr ⟨s, h2, by rw [← e, h1]⟩) hn.1
      · rcases List.mem_cons.mp hs with h2 | h2
        · exact absurd (List.mem_map (f := fun r : Rw => r.2.1) (l := l) |>.mpr ⟨r, h1, by rw [e, h2]⟩) hn.1
        · exact ih hn.2 r h1 s h2 e
  exact key rows nd r hr s hs e
theorem Bu.need {rows : List Rw} (B : Bu 0 rows) {n : Nat} {es : List E3} (t : IsTr n es) (hn : n = rows.length + 1) (he : ∀ x y d, Ed es x y d ↔ Ed (rows.map toE) x y d) :
    (∀ r ∈ rows, Adj es r.2.1 r.1) ∧ (∀ r ∈ rows, bo n es r.2.1 (some r.1) = r.2.2.2) ∧ nd n es 0 = lst ((kd rows 0).map ck) := by
  have edr : ∀ r ∈ rows, Ed es r.1 r.2.1 r.2.2.1 := fun r hr => (he _ _ _).mpr ⟨toE r, List.mem_map.mpr ⟨r, hr, rfl⟩, rfl, Or.inl ⟨rfl, rfl⟩⟩
  have adr : ∀ r ∈ rows, Adj es r.2.1 r.1 := fun r hr => (edr r hr).adj.symm
  have adj : ∀ x y, Adj es x y → ∃ r ∈ rows, (r.1 = x ∧ r.2.1 = y) ∨ (r.1 = y ∧ r.2.1 = x) := fun x y h => by
    obtain ⟨d, h⟩ := h.ed
    obtain ⟨e, he', _, h2⟩ := (he x y d).mp h
    obtain ⟨r, hr, rfl⟩ := List.mem_map.mp he'
    exact ⟨r, hr, h2⟩
  have asc : ∀ v, ((kd rows v).map fun r => r.2.1).Pairwise (· < ·) := fun v => by
    have h : (rows.map fun r => r.2.1).Pairwise (· < ·) := by rw [B.ch]; exact rI_lt _ _
    rw [List.pairwise_map] at h ⊢
    exact h.filter _
  have nbs : ∀ (v : Int) (aw : Option Int), (∀ u, (Adj es v u ∧ some u ≠ aw) ↔ ∃ r ∈ rows, r.1 = v ∧ r.2.1 = u) → nbA es v aw = (kd rows v).map fun r => r.2.1 := fun v aw h => by
    refine sorted_eq (nbA_lt t v aw) (asc v) fun u => ?_
    rw [mem_nbA, h, List.mem_map]
    constructor
    · rintro ⟨r, hr, h1, h2⟩
      exact ⟨r, List.mem_filter.mpr ⟨hr, decide_eq_true h1⟩, h2⟩
    · rintro ⟨r, hr, h2⟩
      have := List.mem_filter.mp hr
      exact ⟨r, this.1, of_decide_eq_true this.2, h2⟩
  have main : ∀ (m : Nat) r, r ∈ rows → (n : Int) - r.2.1 ≤ m → bo n es r.2.1 (some r.1) = r.2.2.2 := fun m => by
    induction m with
    | zero => intro r hr h; have := B.rng hr; omega
    | succ m ih =>
      intro r hr h
      have rb := B.pa r hr
      rw [bo_lst t (a := some r.1) (fun u e => by cases e; exact adr r hr), nbs r.2.1 (some r.1) (fun u => ?_), List.map_map, ← B.ow r hr]
      · congr 1
        refine List.map_congr_left fun s hs => ?_
        have hs := List.mem_filter.mp hs
        have s1 : s.1 = r.2.1 := of_decide_eq_true hs.2
        have sb := B.pa s hs.1
        show dl es r.2.1 s.2.1 + bo n es s.2.1 (some r.2.1) = _
        rw [← s1, t.ed (edr s hs.1), ih s hs.1 (by omega)]
        rfl
      · constructor
        · rintro ⟨h1, h2⟩
          obtain ⟨s, hs, q⟩ := adj _ _ h1
          rcases q with q | q
          · exact ⟨s, hs, q⟩
          · have := B.child_inj s hs r hr q.2
            rw [this] at q
            exact absurd (by rw [q.1]) h2
        · rintro ⟨s, hs, q1, q2⟩
          have := B.pa s hs
          refine ⟨by rw [← q1, ← q2]; exact (adr s hs).symm, fun z => ?_⟩
          have := Option.some.inj z
          omega
  refine ⟨adr, fun r hr => main n r hr (by have := B.rng hr; omega), ?_⟩
  rw [nd_none, bo_lst t (fun u e => by cases e), nbs 0 none (fun u => ?_), List.map_map]
  · congr 1
    refine List.map_congr_left fun s hs => ?_
    have hs := List.mem_filter.mp hs
    have s1 : s.1 = 0 := of_decide_eq_true hs.2
    show dl es 0 s.2.1 + bo n es s.2.1 (some 0) = _
    rw [← s1, t.ed (edr s hs.1), main n s hs.1 (by have := B.rng hs.1; omega)]
    rfl
  · constructor
    · rintro ⟨h1, _⟩
      obtain ⟨s, hs, q⟩ := adj _ _ h1
      rcases q with q | q
      · exact ⟨s, hs, q⟩
      · have := B.rng hs
        omega
    · rintro ⟨s, hs, q1, q2⟩
      exact ⟨by rw [← q1, ← q2]; exact (adr s hs).symm, fun z => nomatch z⟩
theorem kbs {N e x : Int} {ks : List Int} {j : Nat} (kl : ks.length = j) (kb : KB N e ks) (h : 1 ≤ x ∧ x ≤ N - j ∧ ((j : Int) < e → N - e ≤ x) ∧ ((j : Int) = e → x = N - e)) : KB N e (ks ++ [x]) := by
  intro p y hp
  by_cases q : p < ks.length
  · rw [List.getElem?_append_left q] at hp
    exact kb p y hp
  · rw [List.getElem?_append_right (by omega)] at hp
    have e0 : p - ks.length = 0 := by
      rcases Nat.eq_zero_or_pos (p - ks.length) with z | z
      · exact z
      · rw [List.getElem?_eq_none (by rw [List.length_singleton]; omega)] at hp
        exact nomatch hp
    rw [e0] at hp
    have hp := Option.some.inj hp
    have hp : x = y := hp
    have : p = j := by omega
    subst hp this
    exact h
theorem keys_W {S : DS} {b many : Nat} {N : Int} (hk : 5 < k) (hS : Gd b S) (hb : b + 100 ≤ 2 ^ 24) (h1 : 1 ≤ many) (h4 : many ≤ 4) (hN : (many : Int) ≤ N) (hM : N ≤ 1000000000) :
    W (callF tf fu k 13 [.dr, .v (.int N), .v (.int (many : Nat))] (some S)) fun p => ∃ (ks : List Int) (S' : DS), p = (.v (.list (ks.map .int)), some S') ∧ ks.length = many ∧ lst ks = N ∧ (∀ x ∈ ks, 1 ≤ x ∧ x ≤ N) ∧ Gd (b + 13) S' := by
  obtain ⟨k, rfl⟩ : ∃ j, k = j + 1 := ⟨k - 1, by omega⟩
  refine W_call rfl rfl ?_
  unfold b13
  (try simp only [W_cons, W_nil, kS_nx, kS_rt, kS_bk, oQ_nx, oQ_rt, W_some, W_bind, W_map, W_guard, W_guardB, evE_comp, evS_for, evS_while, evS_mkdr, evE_var, evE_con, evE_bin, evE_neg, evE_not_, evE_cmp, evE_chain, evE_and_, evE_or_, evE_ite, evE_tup, evE_lst, evE_sub, evE_subv, evE_slice, evE_rev, evE_lenv, evE_nilv, evE_inv, evE_call, evE_bi, evE_rngl, evE_isi, evE_pop0, evE_pop1, evS_set, evS_unp, evS_par, evS_stsub, evS_app, evS_drop, evS_if_, evS_ret, evS_retN, evS_brk, evS_pass, evS_undr, evEs, evPs, evO, evI, evT, startG, List.map_cons, List.map_nil, List.set_cons_zero, List.set_cons_succ, List.getElem?_cons_zero, List.getElem?_cons_succ, List.length_cons, List.length_nil, List.cons_append, List.nil_append, List.replicate_succ, List.replicate_zero, Nat.reduceAdd, Nat.reduceSub, cmpD_ii_eq, cmpD_ii_ne, cmpD_ii_lt, cmpD_ii_le, cmpD_ii_gt, cmpD_ii_ge, cmpD_bb_eq, cmpD_bb_ne, List.all_cons, List.all_nil, List.any_cons, List.any_nil, Bool.or_false, Bool.or_true, Bool.true_or, Bool.false_or, Bool.and_true, Bool.true_and, Bool.and_self, isTy, wipeG, backG, Option.bind_some, Option.map_some, Bool.not_true, Bool.not_false, ite_true, ite_false, if_true, if_false, true_and, and_true, Bool.false_eq_true, evI_seq, List.isEmpty_nil, List.isEmpty_cons, List.length_map, decide_eq_true_eq, Bool.and_eq_true, b_add, b_sub, b_mul, b_div, b_mod, b_pow, b_addL, b_addT, b_mulL, sl_v, sl_f, sl_dr, sl_scr, ar_v, ar_f, ar_dr, ar_scr, rv_v, rv_f, as_i, as_b, da_nil, da_cons, sa_nil, sa_cons, bi_len, bi_max2, bi_min2, bi_maxL, bi_minL, bi_sumL, bi_allL, bi_anyL, bi_sorted, bi_sortedR, bi_listL, bi_listT, bi_tupL, bi_tupT, bi_int1, bi_int1b, bi_abs1, bi_repr, ag_n, ag_nil, ag_cons, up_l, up_t, sq_l, sq_t, ln_l, ln_t, rg_1, rg_2, en_l, zp_l, zp_t, sb_l, sb_t, ra_eq, rd_mk, st_mk, wp_mk, bk_mk, ls_mk, nl_mk, bn_mk, bl_mk, no_mk, ss_mk, is_mk, sS_mk, pS_mk, aS_mk, sv_scr, sv_v, sv_f, sr_l, sr_t, rr_l, evE_lstx, evE_dsp, evE_idx, evE_dcomp, evS_ext, ex_l, evS_augI, evXs_nil, evXs_cons, evXs_star, eS_mk, gI_mk, ke_i, ke_s, sl_fd, b_shl, b_shr, b_and, bi_min3, sortR_ints, sortRR_ints, ai_nil, ai_cons, allInts_map, evE_imax, evE_slb, evE_sla, rr_t, slb_t, sla_l, im_mk, bi_sortedT, bi_lenSet, bi_sortSet, Int.reduceLE, Int.reduceLT, Int.reduceToNat, Int.reducePow, Nat.reduceLT, Nat.reduceLeDiff, Nat.reducePow, Int.reduceNeg, Int.reduceAbs, small_lit, at_0, at_1, at_2, decide_true, decide_false, gt_iff_lt, ge_iff_le, eq_self, Bool.not_eq_true])
  refine (next_W hNext (by omega) hS (by omega) (by omega) (by omega)).mono ?_
  rintro _ ⟨e, S1, rfl, e0, e1, g1⟩
  (try simp only [W_cons, W_nil, kS_nx, kS_rt, kS_bk, oQ_nx, oQ_rt, W_some, W_bind, W_map, W_guard, W_guardB, evE_comp, evS_for, evS_while, evS_mkdr, evE_var, evE_con, evE_bin, evE_neg, evE_not_, evE_cmp, evE_chain, evE_and_, evE_or_, evE_ite, evE_tup, evE_lst, evE_sub, evE_subv, evE_slice, evE_rev, evE_lenv, evE_nilv, evE_inv, evE_call, evE_bi, evE_rngl, evE_isi, evE_pop0, evE_pop1, evS_set, evS_unp, evS_par, evS_stsub, evS_app, evS_drop, evS_if_, evS_ret, evS_retN, evS_brk, evS_pass, evS_undr, evEs, evPs, evO, evI, evT, startG, List.map_cons, List.map_nil, List.set_cons_zero, List.set_cons_succ, List.getElem?_cons_zero, List.getElem?_cons_succ, List.length_cons, List.length_nil, List.cons_append, List.nil_append, List.replicate_succ, List.replicate_zero, Nat.reduceAdd, Nat.reduceSub, cmpD_ii_eq, cmpD_ii_ne, cmpD_ii_lt, cmpD_ii_le, cmpD_ii_gt, cmpD_ii_ge, cmpD_bb_eq, cmpD_bb_ne, List.all_cons, List.all_nil, List.any_cons, List.any_nil, Bool.or_false, Bool.or_true, Bool.true_or, Bool.false_or, Bool.and_true, Bool.true_and, Bool.and_self, isTy, wipeG, backG, Option.bind_some, Option.map_some, Bool.not_true, Bool.not_false, ite_true, ite_false, if_true, if_false, true_and, and_true, Bool.false_eq_true, evI_seq, List.isEmpty_nil, List.isEmpty_cons, List.length_map, decide_eq_true_eq, Bool.and_eq_true, b_add, b_sub, b_mul, b_div, b_mod, b_pow, b_addL, b_addT, b_mulL, sl_v, sl_f, sl_dr, sl_scr, ar_v, ar_f, ar_dr, ar_scr, rv_v, rv_f, as_i, as_b, da_nil, da_cons, sa_nil, sa_cons, bi_len, bi_max2, bi_min2, bi_maxL, bi_minL, bi_sumL, bi_allL, bi_anyL, bi_sorted, bi_sortedR, bi_listL, bi_listT, bi_tupL, bi_tupT, bi_int1, bi_int1b, bi_abs1, bi_repr, ag_n, ag_nil, ag_cons, up_l, up_t, sq_l, sq_t, ln_l, ln_t, rg_1, rg_2, en_l, zp_l, zp_t, sb_l, sb_t, ra_eq, rd_mk, st_mk, wp_mk, bk_mk, ls_mk, nl_mk, bn_mk, bl_mk, no_mk, ss_mk, is_mk, sS_mk, pS_mk, aS_mk, sv_scr, sv_v, sv_f, sr_l, sr_t, rr_l, evE_lstx, evE_dsp, evE_idx, evE_dcomp, evS_ext, ex_l, evS_augI, evXs_nil, evXs_cons, evXs_star, eS_mk, gI_mk, ke_i, ke_s, sl_fd, b_shl, b_shr, b_and, bi_min3, sortR_ints, sortRR_ints, ai_nil, ai_cons, allInts_map, evE_imax, evE_slb, evE_sla, rr_t, slb_t, sla_l, im_mk, bi_sortedT, bi_lenSet, bi_sortSet, Int.reduceLE, Int.reduceLT, Int.reduceToNat, Int.reducePow, Nat.reduceLT, Nat.reduceLeDiff, Nat.reducePow, Int.reduceNeg, Int.reduceAbs, small_lit, at_0, at_1, at_2, decide_true, decide_false, gt_iff_lt, ge_iff_le, eq_self, Bool.not_eq_true])
  refine ⟨small_of (by omega), ?_⟩
  refine W_rng (fun j st => ∃ (ks : List Int) (x5 x6 x7 : Slot) (S' : DS), ks.length = j ∧ KB N e ks ∧ Gd (b + 1 + 3 * j) S' ∧ st = ⟨[.dr, .v (.int N), .v (.int (many : Nat)), .v (.int e), .own (ks.map .int), x5, x6, x7], some S'⟩) ?_ ?_ ⟨[], _, _, _, S1, rfl, (fun p x h => nomatch h), g1, rfl⟩
  · rintro j st hj ⟨ks, x5, x6, x7, S2, kl, kb, g2, rfl⟩
    unfold fStep
    rcases Int.lt_trichotomy (j : Int) e with h | h | h
    · have h2 : ¬ ((j : Int) = e) := by omega
      (try simp only [W_cons, W_nil, kS_nx, kS_rt, kS_bk, oQ_nx, oQ_rt, W_some, W_bind, W_map, W_guard, W_guardB, evE_comp, evS_for, evS_while, evS_mkdr, evE_var, evE_con, evE_bin, evE_neg, evE_not_, evE_cmp, evE_chain, evE_and_, evE_or_, evE_ite, evE_tup, evE_lst, evE_sub, evE_subv, evE_slice, evE_rev, evE_lenv, evE_nilv, evE_inv, evE_call, evE_bi, evE_rngl, evE_isi, evE_pop0, evE_pop1, evS_set, evS_unp, evS_par, evS_stsub, evS_app, evS_drop, evS_if_, evS_ret, evS_retN, evS_brk, evS_pass, evS_undr, evEs, evPs, evO, evI, evT, startG, List.map_cons, List.map_nil, List.set_cons_zero, List.set_cons_succ, List.getElem?_cons_zero, List.getElem?_cons_succ, List.length_cons, List.length_nil, List.cons_append, List.nil_append, List.replicate_succ, List.replicate_zero, Nat.reduceAdd, Nat.reduceSub, cmpD_ii_eq, cmpD_ii_ne, cmpD_ii_lt, cmpD_ii_le, cmpD_ii_gt, cmpD_ii_ge, cmpD_bb_eq, cmpD_bb_ne, List.all_cons, List.all_nil, List.any_cons, List.any_nil, Bool.or_false, Bool.or_true, Bool.true_or, Bool.false_or, Bool.and_true, Bool.true_and, Bool.and_self, isTy, wipeG, backG, Option.bind_some, Option.map_some, Bool.not_true, Bool.not_false, ite_true, ite_false, if_true, if_false, true_and, and_true, Bool.false_eq_true, evI_seq, List.isEmpty_nil, List.isEmpty_cons, List.length_map, decide_eq_true_eq, Bool.and_eq_true, b_add, b_sub, b_mul, b_div, b_mod, b_pow, b_addL, b_addT, b_mulL, sl_v, sl_f, sl_dr, sl_scr, ar_v, ar_f, ar_dr, ar_scr, rv_v, rv_f, as_i, as_b, da_nil, da_cons, sa_nil, sa_cons, bi_len, bi_max2, bi_min2, bi_maxL, bi_minL, bi_sumL, bi_allL, bi_anyL, bi_sorted, bi_sortedR, bi_listL, bi_listT, bi_tupL, bi_tupT, bi_int1, bi_int1b, bi_abs1, bi_repr, ag_n, ag_nil, ag_cons, up_l, up_t, sq_l, sq_t, ln_l, ln_t, rg_1, rg_2, en_l, zp_l, zp_t, sb_l, sb_t, ra_eq, rd_mk, st_mk, wp_mk, bk_mk, ls_mk, nl_mk, bn_mk, bl_mk, no_mk, ss_mk, is_mk, sS_mk, pS_mk, aS_mk, sv_scr, sv_v, sv_f, sr_l, sr_t, rr_l, evE_lstx, evE_dsp, evE_idx, evE_dcomp, evS_ext, ex_l, evS_augI, evXs_nil, evXs_cons, evXs_star, eS_mk, gI_mk, ke_i, ke_s, sl_fd, b_shl, b_shr, b_and, bi_min3, sortR_ints, sortRR_ints, ai_nil, ai_cons, allInts_map, evE_imax, evE_slb, evE_sla, rr_t, slb_t, sla_l, im_mk, bi_sortedT, bi_lenSet, bi_sortSet, Int.reduceLE, Int.reduceLT, Int.reduceToNat, Int.reducePow, Nat.reduceLT, Nat.reduceLeDiff, Nat.reducePow, Int.reduceNeg, Int.reduceAbs, small_lit, at_0, at_1, at_2, decide_true, decide_false, gt_iff_lt, ge_iff_le, eq_self, Bool.not_eq_true, h, h2])
      refine (size_W hNext hSize (by omega) g2 (by omega) (by omega) (by omega)).mono ?_
      rintro _ ⟨r, S3, rfl, r0, r1, g3⟩
      (try simp only [W_cons, W_nil, kS_nx, kS_rt, kS_bk, oQ_nx, oQ_rt, W_some, W_bind, W_map, W_guard, W_guardB, evE_comp, evS_for, evS_while, evS_mkdr, evE_var, evE_con, evE_bin, evE_neg, evE_not_, evE_cmp, evE_chain, evE_and_, evE_or_, evE_ite, evE_tup, evE_lst, evE_sub, evE_subv, evE_slice, evE_rev, evE_lenv, evE_nilv, evE_inv, evE_call, evE_bi, evE_rngl, evE_isi, evE_pop0, evE_pop1, evS_set, evS_unp, evS_par, evS_stsub, evS_app, evS_drop, evS_if_, evS_ret, evS_retN, evS_brk, evS_pass, evS_undr, evEs, evPs, evO, evI, evT, startG, List.map_cons, List.map_nil, List.set_cons_zero, List.set_cons_succ, List.getElem?_cons_zero, List.getElem?_cons_succ, List.length_cons, List.length_nil, List.cons_append, List.nil_append, List.replicate_succ, List.replicate_zero, Nat.reduceAdd, Nat.reduceSub, cmpD_ii_eq, cmpD_ii_ne, cmpD_ii_lt, cmpD_ii_le, cmpD_ii_gt, cmpD_ii_ge, cmpD_bb_eq, cmpD_bb_ne, List.all_cons, List.all_nil, List.any_cons, List.any_nil, Bool.or_false, Bool.or_true, Bool.true_or, Bool.false_or, Bool.and_true, Bool.true_and, Bool.and_self, isTy, wipeG, backG, Option.bind_some, Option.map_some, Bool.not_true, Bool.not_false, ite_true, ite_false, if_true, if_false, true_and, and_true, Bool.false_eq_true, evI_seq, List.isEmpty_nil, List.isEmpty_cons, List.length_map, decide_eq_true_eq, Bool.and_eq_true, b_add, b_sub, b_mul, b_div, b_mod, b_pow, b_addL, b_addT, b_mulL, sl_v, sl_f, sl_dr, sl_scr, ar_v, ar_f, ar_dr, ar_scr, rv_v, rv_f, as_i, as_b, da_nil, da_cons, sa_nil, sa_cons, bi_len, bi_max2, bi_min2, bi_maxL, bi_minL, bi_sumL, bi_allL, bi_anyL, bi_sorted, bi_sortedR, bi_listL, bi_listT, bi_tupL, bi_tupT, bi_int1, bi_int1b, bi_abs1, bi_repr, ag_n, ag_nil, ag_cons, up_l, up_t, sq_l, sq_t, ln_l, ln_t, rg_1, rg_2, en_l, zp_l, zp_t, sb_l, sb_t, ra_eq, rd_mk, st_mk, wp_mk, bk_mk, ls_mk, nl_mk, bn_mk, bl_mk, no_mk, ss_mk, is_mk, sS_mk, pS_mk, aS_mk, sv_scr, sv_v, sv_f, sr_l, sr_t, rr_l, evE_lstx, evE_dsp, evE_idx, evE_dcomp, evS_ext, ex_l, evS_augI, evXs_nil, evXs_cons, evXs_star, eS_mk, gI_mk, ke_i, ke_s, sl_fd, b_shl, b_shr, b_and, bi_min3, sortR_ints, sortRR_ints, ai_nil, ai_cons, allInts_map, evE_imax, evE_slb, evE_sla, rr_t, slb_t, sla_l, im_mk, bi_sortedT, bi_lenSet, bi_sortSet, Int.reduceLE, Int.reduceLT, Int.reduceToNat, Int.reducePow, Nat.reduceLT, Nat.reduceLeDiff, Nat.reducePow, Int.reduceNeg, Int.reduceAbs, small_lit, at_0, at_1, at_2, decide_true, decide_false, gt_iff_lt, ge_iff_le, eq_self, Bool.not_eq_true, h, h2])
      refine ⟨decide_eq_true (by unfold LIM; omega), ks ++ [N - e + r], _, _, _, S3, by rw [List.length_append, kl]; rfl, kbs kl kb (by first | omega | (have := of_eq_true h; omega)), g3.le (by omega), by rw [List.map_append]; rfl⟩
    · have h2 : ¬ ((j : Int) < e) := by omega
      have h : ((j : Int) = e) = True := eq_true h
      (try simp only [W_cons, W_nil, kS_nx, kS_rt, kS_bk, oQ_nx, oQ_rt, W_some, W_bind, W_map, W_guard, W_guardB, evE_comp, evS_for, evS_while, evS_mkdr, evE_var, evE_con, evE_bin, evE_neg, evE_not_, evE_cmp, evE_chain, evE_and_, evE_or_, evE_ite, evE_tup, evE_lst, evE_sub, evE_subv, evE_slice, evE_rev, evE_lenv, evE_nilv, evE_inv, evE_call, evE_bi, evE_rngl, evE_isi, evE_pop0, evE_pop1, evS_set, evS_unp, evS_par, evS_stsub, evS_app, evS_drop, evS_if_, evS_ret, evS_retN, evS_brk, evS_pass, evS_undr, evEs, evPs, evO, evI, evT, startG, List.map_cons, List.map_nil, List.set_cons_zero, List.set_cons_succ, List.getElem?_cons_zero, List.getElem?_cons_succ, List.length_cons, List.length_nil, List.cons_append, List.nil_append, List.replicate_succ, List.replicate_zero, Nat.reduceAdd, Nat.reduceSub, cmpD_ii_eq, cmpD_ii_ne, cmpD_ii_lt, cmpD_ii_le, cmpD_ii_gt, cmpD_ii_ge, cmpD_bb_eq, cmpD_bb_ne, List.all_cons, List.all_nil, List.any_cons, List.any_nil, Bool.or_false, Bool.or_true, Bool.true_or, Bool.false_or, Bool.and_true, Bool.true_and, Bool.and_self, isTy, wipeG, backG, Option.bind_some, Option.map_some, Bool.not_true, Bool.not_false, ite_true, ite_false, if_true, if_false, true_and, and_true, Bool.false_eq_true, evI_seq, List.isEmpty_nil, List.isEmpty_cons, List.length_map, decide_eq_true_eq, Bool.and_eq_true, b_add, b_sub, b_mul, b_div, b_mod, b_pow, b_addL, b_addT, b_mulL, sl_v, sl_f, sl_dr, sl_scr, ar_v, ar_f, ar_dr, ar_scr, rv_v, rv_f, as_i, as_b, da_nil, da_cons, sa_nil, sa_cons, bi_len, bi_max2, bi_min2, bi_maxL, bi_minL, bi_sumL, bi_allL, bi_anyL, bi_sorted, bi_sortedR, bi_listL, bi_listT, bi_tupL, bi_tupT, bi_int1, bi_int1b, bi_abs1, bi_repr, ag_n, ag_nil, ag_cons, up_l, up_t, sq_l, sq_t, ln_l, ln_t, rg_1, rg_2, en_l, zp_l, zp_t, sb_l, sb_t, ra_eq, rd_mk, st_mk, wp_mk, bk_mk, ls_mk, nl_mk, bn_mk, bl_mk, no_mk, ss_mk, is_mk, sS_mk, pS_mk, aS_mk, sv_scr, sv_v, sv_f, sr_l, sr_t, rr_l, evE_lstx, evE_dsp, evE_idx, evE_dcomp, evS_ext, ex_l, evS_augI, evXs_nil, evXs_cons, evXs_star, eS_mk, gI_mk, ke_i, ke_s, sl_fd, b_shl, b_shr, b_and, bi_min3, sortR_ints, sortRR_ints, ai_nil, ai_cons, allInts_map, evE_imax, evE_slb, evE_sla, rr_t, slb_t, sla_l, im_mk, bi_sortedT, bi_lenSet, bi_sortSet, Int.reduceLE, Int.reduceLT, Int.reduceToNat, Int.reducePow, Nat.reduceLT, Nat.reduceLeDiff, Nat.reducePow, Int.reduceNeg, Int.reduceAbs, small_lit, at_0, at_1, at_2, decide_true, decide_false, gt_iff_lt, ge_iff_le, eq_self, Bool.not_eq_true, h2, h])
      refine (size_W hNext hSize (by omega) g2 (by omega) (by omega) (by omega)).mono ?_
      rintro _ ⟨r, S3, rfl, r0, r1, g3⟩
      (try simp only [W_cons, W_nil, kS_nx, kS_rt, kS_bk, oQ_nx, oQ_rt, W_some, W_bind, W_map, W_guard, W_guardB, evE_comp, evS_for, evS_while, evS_mkdr, evE_var, evE_con, evE_bin, evE_neg, evE_not_, evE_cmp, evE_chain, evE_and_, evE_or_, evE_ite, evE_tup, evE_lst, evE_sub, evE_subv, evE_slice, evE_rev, evE_lenv, evE_nilv, evE_inv, evE_call, evE_bi, evE_rngl, evE_isi, evE_pop0, evE_pop1, evS_set, evS_unp, evS_par, evS_stsub, evS_app, evS_drop, evS_if_, evS_ret, evS_retN, evS_brk, evS_pass, evS_undr, evEs, evPs, evO, evI, evT, startG, List.map_cons, List.map_nil, List.set_cons_zero, List.set_cons_succ, List.getElem?_cons_zero, List.getElem?_cons_succ, List.length_cons, List.length_nil, List.cons_append, List.nil_append, List.replicate_succ, List.replicate_zero, Nat.reduceAdd, Nat.reduceSub, cmpD_ii_eq, cmpD_ii_ne, cmpD_ii_lt, cmpD_ii_le, cmpD_ii_gt, cmpD_ii_ge, cmpD_bb_eq, cmpD_bb_ne, List.all_cons, List.all_nil, List.any_cons, List.any_nil, Bool.or_false, Bool.or_true, Bool.true_or, Bool.false_or, Bool.and_true, Bool.true_and, Bool.and_self, isTy, wipeG, backG, Option.bind_some, Option.map_some, Bool.not_true, Bool.not_false, ite_true, ite_false, if_true, if_false, true_and, and_true, Bool.false_eq_true, evI_seq, List.isEmpty_nil, List.isEmpty_cons, List.length_map, decide_eq_true_eq, Bool.and_eq_true, b_add, b_sub, b_mul, b_div, b_mod, b_pow, b_addL, b_addT, b_mulL, sl_v, sl_f, sl_dr, sl_scr, ar_v, ar_f, ar_dr, ar_scr, rv_v, rv_f, as_i, as_b, da_nil, da_cons, sa_nil, sa_cons, bi_len, bi_max2, bi_min2, bi_maxL, bi_minL, bi_sumL, bi_allL, bi_anyL, bi_sorted, bi_sortedR, bi_listL, bi_listT, bi_tupL, bi_tupT, bi_int1, bi_int1b, bi_abs1, bi_repr, ag_n, ag_nil, ag_cons, up_l, up_t, sq_l, sq_t, ln_l, ln_t, rg_1, rg_2, en_l, zp_l, zp_t, sb_l, sb_t, ra_eq, rd_mk, st_mk, wp_mk, bk_mk, ls_mk, nl_mk, bn_mk, bl_mk, no_mk, ss_mk, is_mk, sS_mk, pS_mk, aS_mk, sv_scr, sv_v, sv_f, sr_l, sr_t, rr_l, evE_lstx, evE_dsp, evE_idx, evE_dcomp, evS_ext, ex_l, evS_augI, evXs_nil, evXs_cons, evXs_star, eS_mk, gI_mk, ke_i, ke_s, sl_fd, b_shl, b_shr, b_and, bi_min3, sortR_ints, sortRR_ints, ai_nil, ai_cons, allInts_map, evE_imax, evE_slb, evE_sla, rr_t, slb_t, sla_l, im_mk, bi_sortedT, bi_lenSet, bi_sortSet, Int.reduceLE, Int.reduceLT, Int.reduceToNat, Int.reducePow, Nat.reduceLT, Nat.reduceLeDiff, Nat.reducePow, Int.reduceNeg, Int.reduceAbs, small_lit, at_0, at_1, at_2, decide_true, decide_false, gt_iff_lt, ge_iff_le, eq_self, Bool.not_eq_true, h2, h])
      refine ⟨decide_eq_true (by unfold LIM; omega), ks ++ [N - e], _, _, _, S3, by rw [List.length_append, kl]; rfl, kbs kl kb (by first | omega | (have := of_eq_true h; omega)), g3.le (by omega), by rw [List.map_append]; rfl⟩
    · have h2 : ¬ ((j : Int) < e) := by omega
      have h3 : ¬ ((j : Int) = e) := by omega
      (try simp only [W_cons, W_nil, kS_nx, kS_rt, kS_bk, oQ_nx, oQ_rt, W_some, W_bind, W_map, W_guard, W_guardB, evE_comp, evS_for, evS_while, evS_mkdr, evE_var, evE_con, evE_bin, evE_neg, evE_not_, evE_cmp, evE_chain, evE_and_, evE_or_, evE_ite, evE_tup, evE_lst, evE_sub, evE_subv, evE_slice, evE_rev, evE_lenv, evE_nilv, evE_inv, evE_call, evE_bi, evE_rngl, evE_isi, evE_pop0, evE_pop1, evS_set, evS_unp, evS_par, evS_stsub, evS_app, evS_drop, evS_if_, evS_ret, evS_retN, evS_brk, evS_pass, evS_undr, evEs, evPs, evO, evI, evT, startG, List.map_cons, List.map_nil, List.set_cons_zero, List.set_cons_succ, List.getElem?_cons_zero, List.getElem?_cons_succ, List.length_cons, List.length_nil, List.cons_append, List.nil_append, List.replicate_succ, List.replicate_zero, Nat.reduceAdd, Nat.reduceSub, cmpD_ii_eq, cmpD_ii_ne, cmpD_ii_lt, cmpD_ii_le, cmpD_ii_gt, cmpD_ii_ge, cmpD_bb_eq, cmpD_bb_ne, List.all_cons, List.all_nil, List.any_cons, List.any_nil, Bool.or_false, Bool.or_true, Bool.true_or, Bool.false_or, Bool.and_true, Bool.true_and, Bool.and_self, isTy, wipeG, backG, Option.bind_some, Option.map_some, Bool.not_true, Bool.not_false, ite_true, ite_false, if_true, if_false, true_and, and_true, Bool.false_eq_true, evI_seq, List.isEmpty_nil, List.isEmpty_cons, List.length_map, decide_eq_true_eq, Bool.and_eq_true, b_add, b_sub, b_mul, b_div, b_mod, b_pow, b_addL, b_addT, b_mulL, sl_v, sl_f, sl_dr, sl_scr, ar_v, ar_f, ar_dr, ar_scr, rv_v, rv_f, as_i, as_b, da_nil, da_cons, sa_nil, sa_cons, bi_len, bi_max2, bi_min2, bi_maxL, bi_minL, bi_sumL, bi_allL, bi_anyL, bi_sorted, bi_sortedR, bi_listL, bi_listT, bi_tupL, bi_tupT, bi_int1, bi_int1b, bi_abs1, bi_repr, ag_n, ag_nil, ag_cons, up_l, up_t, sq_l, sq_t, ln_l, ln_t, rg_1, rg_2, en_l, zp_l, zp_t, sb_l, sb_t, ra_eq, rd_mk, st_mk, wp_mk, bk_mk, ls_mk, nl_mk, bn_mk, bl_mk, no_mk, ss_mk, is_mk, sS_mk, pS_mk, aS_mk, sv_scr, sv_v, sv_f, sr_l, sr_t, rr_l, evE_lstx, evE_dsp, evE_idx, evE_dcomp, evS_ext, ex_l, evS_augI, evXs_nil, evXs_cons, evXs_star, eS_mk, gI_mk, ke_i, ke_s, sl_fd, b_shl, b_shr, b_and, bi_min3, sortR_ints, sortRR_ints, ai_nil, ai_cons, allInts_map, evE_imax, evE_slb, evE_sla, rr_t, slb_t, sla_l, im_mk, bi_sortedT, bi_lenSet, bi_sortSet, Int.reduceLE, Int.reduceLT, Int.reduceToNat, Int.reducePow, Nat.reduceLT, Nat.reduceLeDiff, Nat.reducePow, Int.reduceNeg, Int.reduceAbs, small_lit, at_0, at_1, at_2, decide_true, decide_false, gt_iff_lt, ge_iff_le, eq_self, Bool.not_eq_true, h2, h3])
      refine (size_W hNext hSize (by omega) g2 (by omega) (by omega) (by omega)).mono ?_
      rintro _ ⟨r, S3, rfl, r0, r1, g3⟩
      (try simp only [W_cons, W_nil, kS_nx, kS_rt, kS_bk, oQ_nx, oQ_rt, W_some, W_bind, W_map, W_guard, W_guardB, evE_comp, evS_for, evS_while, evS_mkdr, evE_var, evE_con, evE_bin, evE_neg, evE_not_, evE_cmp, evE_chain, evE_and_, evE_or_, evE_ite, evE_tup, evE_lst, evE_sub, evE_subv, evE_slice, evE_rev, evE_lenv, evE_nilv, evE_inv, evE_call, evE_bi, evE_rngl, evE_isi, evE_pop0, evE_pop1, evS_set, evS_unp, evS_par, evS_stsub, evS_app, evS_drop, evS_if_, evS_ret, evS_retN, evS_brk, evS_pass, evS_undr, evEs, evPs, evO, evI, evT, startG, List.map_cons, List.map_nil, List.set_cons_zero, List.set_cons_succ, List.getElem?_cons_zero, List.getElem?_cons_succ, List.length_cons, List.length_nil, List.cons_append, List.nil_append, List.replicate_succ, List.replicate_zero, Nat.reduceAdd, Nat.reduceSub, cmpD_ii_eq, cmpD_ii_ne, cmpD_ii_lt, cmpD_ii_le, cmpD_ii_gt, cmpD_ii_ge, cmpD_bb_eq, cmpD_bb_ne, List.all_cons, List.all_nil, List.any_cons, List.any_nil, Bool.or_false, Bool.or_true, Bool.true_or, Bool.false_or, Bool.and_true, Bool.true_and, Bool.and_self, isTy, wipeG, backG, Option.bind_some, Option.map_some, Bool.not_true, Bool.not_false, ite_true, ite_false, if_true, if_false, true_and, and_true, Bool.false_eq_true, evI_seq, List.isEmpty_nil, List.isEmpty_cons, List.length_map, decide_eq_true_eq, Bool.and_eq_true, b_add, b_sub, b_mul, b_div, b_mod, b_pow, b_addL, b_addT, b_mulL, sl_v, sl_f, sl_dr, sl_scr, ar_v, ar_f, ar_dr, ar_scr, rv_v, rv_f, as_i, as_b, da_nil, da_cons, sa_nil, sa_cons, bi_len, bi_max2, bi_min2, bi_maxL, bi_minL, bi_sumL, bi_allL, bi_anyL, bi_sorted, bi_sortedR, bi_listL, bi_listT, bi_tupL, bi_tupT, bi_int1, bi_int1b, bi_abs1, bi_repr, ag_n, ag_nil, ag_cons, up_l, up_t, sq_l, sq_t, ln_l, ln_t, rg_1, rg_2, en_l, zp_l, zp_t, sb_l, sb_t, ra_eq, rd_mk, st_mk, wp_mk, bk_mk, ls_mk, nl_mk, bn_mk, bl_mk, no_mk, ss_mk, is_mk, sS_mk, pS_mk, aS_mk, sv_scr, sv_v, sv_f, sr_l, sr_t, rr_l, evE_lstx, evE_dsp, evE_idx, evE_dcomp, evS_ext, ex_l, evS_augI, evXs_nil, evXs_cons, evXs_star, eS_mk, gI_mk, ke_i, ke_s, sl_fd, b_shl, b_shr, b_and, bi_min3, sortR_ints, sortRR_ints, ai_nil, ai_cons, allInts_map, evE_imax, evE_slb, evE_sla, rr_t, slb_t, sla_l, im_mk, bi_sortedT, bi_lenSet, bi_sortSet, Int.reduceLE, Int.reduceLT, Int.reduceToNat, Int.reducePow, Nat.reduceLT, Nat.reduceLeDiff, Nat.reducePow, Int.reduceNeg, Int.reduceAbs, small_lit, at_0, at_1, at_2, decide_true, decide_false, gt_iff_lt, ge_iff_le, eq_self, Bool.not_eq_true, h2, h3])
      refine ⟨decide_eq_true (by unfold LIM; omega), ks ++ [1 + r], _, _, _, S3, by rw [List.length_append, kl]; rfl, kbs kl kb (by first | omega | (have := of_eq_true h; omega)), g3.le (by omega), by rw [List.map_append]; rfl⟩
  · rintro st ⟨ks, x5, x6, x7, S2, kl, kb, g2, rfl⟩
    (try simp only [W_cons, W_nil, kS_nx, kS_rt, kS_bk, oQ_nx, oQ_rt, W_some, W_bind, W_map, W_guard, W_guardB, evE_comp, evS_for, evS_while, evS_mkdr, evE_var, evE_con, evE_bin, evE_neg, evE_not_, evE_cmp, evE_chain, evE_and_, evE_or_, evE_ite, evE_tup, evE_lst, evE_sub, evE_subv, evE_slice, evE_rev, evE_lenv, evE_nilv, evE_inv, evE_call, evE_bi, evE_rngl, evE_isi, evE_pop0, evE_pop1, evS_set, evS_unp, evS_par, evS_stsub, evS_app, evS_drop, evS_if_, evS_ret, evS_retN, evS_brk, evS_pass, evS_undr, evEs, evPs, evO, evI, evT, startG, List.map_cons, List.map_nil, List.set_cons_zero, List.set_cons_succ, List.getElem?_cons_zero, List.getElem?_cons_succ, List.length_cons, List.length_nil, List.cons_append, List.nil_append, List.replicate_succ, List.replicate_zero, Nat.reduceAdd, Nat.reduceSub, cmpD_ii_eq, cmpD_ii_ne, cmpD_ii_lt, cmpD_ii_le, cmpD_ii_gt, cmpD_ii_ge, cmpD_bb_eq, cmpD_bb_ne, List.all_cons, List.all_nil, List.any_cons, List.any_nil, Bool.or_false, Bool.or_true, Bool.true_or, Bool.false_or, Bool.and_true, Bool.true_and, Bool.and_self, isTy, wipeG, backG, Option.bind_some, Option.map_some, Bool.not_true, Bool.not_false, ite_true, ite_false, if_true, if_false, true_and, and_true, Bool.false_eq_true, evI_seq, List.isEmpty_nil, List.isEmpty_cons, List.length_map, decide_eq_true_eq, Bool.and_eq_true, b_add, b_sub, b_mul, b_div, b_mod, b_pow, b_addL, b_addT, b_mulL, sl_v, sl_f, sl_dr, sl_scr, ar_v, ar_f, ar_dr, ar_scr, rv_v, rv_f, as_i, as_b, da_nil, da_cons, sa_nil, sa_cons, bi_len, bi_max2, bi_min2, bi_maxL, bi_minL, bi_sumL, bi_allL, bi_anyL, bi_sorted, bi_sortedR, bi_listL, bi_listT, bi_tupL, bi_tupT, bi_int1, bi_int1b, bi_abs1, bi_repr, ag_n, ag_nil, ag_cons, up_l, up_t, sq_l, sq_t, ln_l, ln_t, rg_1, rg_2, en_l, zp_l, zp_t, sb_l, sb_t, ra_eq, rd_mk, st_mk, wp_mk, bk_mk, ls_mk, nl_mk, bn_mk, bl_mk, no_mk, ss_mk, is_mk, sS_mk, pS_mk, aS_mk, sv_scr, sv_v, sv_f, sr_l, sr_t, rr_l, evE_lstx, evE_dsp, evE_idx, evE_dcomp, evS_ext, ex_l, evS_augI, evXs_nil, evXs_cons, evXs_star, eS_mk, gI_mk, ke_i, ke_s, sl_fd, b_shl, b_shr, b_and, bi_min3, sortR_ints, sortRR_ints, ai_nil, ai_cons, allInts_map, evE_imax, evE_slb, evE_sla, rr_t, slb_t, sla_l, im_mk, bi_sortedT, bi_lenSet, bi_sortSet, Int.reduceLE, Int.reduceLT, Int.reduceToNat, Int.reducePow, Nat.reduceLT, Nat.reduceLeDiff, Nat.reducePow, Int.reduceNeg, Int.reduceAbs, small_lit, at_0, at_1, at_2, decide_true, decide_false, gt_iff_lt, ge_iff_le, eq_self, Bool.not_eq_true])
    refine ⟨ks, S2, rfl, kl, kb.lst e0 (by omega) (by omega), fun x hx => ?_, g2.le (by omega)⟩
    obtain ⟨p, hp, e⟩ := List.getElem_of_mem hx
    have := kb p x (by rw [List.getElem?_eq_getElem hp, e])
    omega
theorem grown_W (hfu : 10000 < fu) : ∀ (m : Nat) {k b : Nat} {N f : Int} {S : DS}, m + 10 < k → m ≤ 16 → Gd b S → b + 100 * (m + 1) ≤ 2 ^ 24 → 0 ≤ N → N ≤ 1000000000 → (0 < N → 1 ≤ m) → 0 ≤ f →
    W (callF tf fu k 14 [.dr, .v (.int N), .v (.int f), .v (.int ((m + 1 : Nat) : Int))] (some S)) fun p => ∃ (rows : List Rw) (S' : DS), p = (.v (.list [.list (rows.map rwD), .int (f + 1 + (rows.length : Int))]), some S') ∧ Bu f rows ∧ lst ((kd rows f).map ck) = N ∧ rows.length ≤ m ∧ Gd (b + 16 + 20 * m) S' := by
  intro m
  induction m using Nat.strongRecOn with
  | ind m ih =>
    intro k b N f S hk hm hS hb N0 N1 hNm f0
    obtain ⟨k, rfl⟩ : ∃ j, k = j + 1 := ⟨k - 1, by omega⟩
    refine W_call rfl rfl ?_
    unfold b14
    by_cases hN : 0 < N
    · have m1 := hNm hN
      obtain ⟨mn, hmn, n1, n4, nm, nN⟩ : ∃ mn : Int, (if N < if ((m + 1 : Nat) : Int) - 1 < 4 then ((m + 1 : Nat) : Int) - 1 else 4 then N else if ((m + 1 : Nat) : Int) - 1 < 4 then ((m + 1 : Nat) : Int) - 1 else 4) = mn ∧ 1 ≤ mn ∧ mn ≤ 4 ∧ mn ≤ m ∧ mn ≤ N := by
        refine ⟨_, rfl, ?_⟩
        split <;> split at * <;> omega
      (try simp only [W_cons, W_nil, kS_nx, kS_rt, kS_bk, oQ_nx, oQ_rt, W_some, W_bind, W_map, W_guard, W_guardB, evE_comp, evS_for, evS_while, evS_mkdr, evE_var, evE_con, evE_bin, evE_neg, evE_not_, evE_cmp, evE_chain, evE_and_, evE_or_, evE_ite, evE_tup, evE_lst, evE_sub, evE_subv, evE_slice, evE_rev, evE_lenv, evE_nilv, evE_inv, evE_call, evE_bi, evE_rngl, evE_isi, evE_pop0, evE_pop1, evS_set, evS_unp, evS_par, evS_stsub, evS_app, evS_drop, evS_if_, evS_ret, evS_retN, evS_brk, evS_pass, evS_undr, evEs, evPs, evO, evI, evT, startG, List.map_cons, List.map_nil, List.set_cons_zero, List.set_cons_succ, List.getElem?_cons_zero, List.getElem?_cons_succ, List.length_cons, List.length_nil, List.cons_append, List.nil_append, List.replicate_succ, List.replicate_zero, Nat.reduceAdd, Nat.reduceSub, cmpD_ii_eq, cmpD_ii_ne, cmpD_ii_lt, cmpD_ii_le, cmpD_ii_gt, cmpD_ii_ge, cmpD_bb_eq, cmpD_bb_ne, List.all_cons, List.all_nil, List.any_cons, List.any_nil, Bool.or_false, Bool.or_true, Bool.true_or, Bool.false_or, Bool.and_true, Bool.true_and, Bool.and_self, isTy, wipeG, backG, Option.bind_some, Option.map_some, Bool.not_true, Bool.not_false, ite_true, ite_false, if_true, if_false, true_and, and_true, Bool.false_eq_true, evI_seq, List.isEmpty_nil, List.isEmpty_cons, List.length_map, decide_eq_true_eq, Bool.and_eq_true, b_add, b_sub, b_mul, b_div, b_mod, b_pow, b_addL, b_addT, b_mulL, sl_v, sl_f, sl_dr, sl_scr, ar_v, ar_f, ar_dr, ar_scr, rv_v, rv_f, as_i, as_b, da_nil, da_cons, sa_nil, sa_cons, bi_len, bi_max2, bi_min2, bi_maxL, bi_minL, bi_sumL, bi_allL, bi_anyL, bi_sorted, bi_sortedR, bi_listL, bi_listT, bi_tupL, bi_tupT, bi_int1, bi_int1b, bi_abs1, bi_repr, ag_n, ag_nil, ag_cons, up_l, up_t, sq_l, sq_t, ln_l, ln_t, rg_1, rg_2, en_l, zp_l, zp_t, sb_l, sb_t, ra_eq, rd_mk, st_mk, wp_mk, bk_mk, ls_mk, nl_mk, bn_mk, bl_mk, no_mk, ss_mk, is_mk, sS_mk, pS_mk, aS_mk, sv_scr, sv_v, sv_f, sr_l, sr_t, rr_l, evE_lstx, evE_dsp, evE_idx, evE_dcomp, evS_ext, ex_l, evS_augI, evXs_nil, evXs_cons, evXs_star, eS_mk, gI_mk, ke_i, ke_s, sl_fd, b_shl, b_shr, b_and, bi_min3, sortR_ints, sortRR_ints, ai_nil, ai_cons, allInts_map, evE_imax, evE_slb, evE_sla, rr_t, slb_t, sla_l, im_mk, bi_sortedT, bi_lenSet, bi_sortSet, Int.reduceLE, Int.reduceLT, Int.reduceToNat, Int.reducePow, Nat.reduceLT, Nat.reduceLeDiff, Nat.reducePow, Int.reduceNeg, Int.reduceAbs, small_lit, at_0, at_1, at_2, decide_true, decide_false, gt_iff_lt, ge_iff_le, eq_self, Bool.not_eq_true, hN, hmn])
      refine (next_W hNext (by omega) hS (by omega) (by omega) (by omega)).mono ?_
      rintro _ ⟨r, S1, rfl, r0, r1, g1⟩
      obtain ⟨many, hmany⟩ : ∃ many : Nat, 1 + r = ((many : Nat) : Int) := ⟨(1 + r).toNat, by omega⟩
      have many0 : (0 : Int) < (many : Int) := by omega
      (try simp only [W_cons, W_nil, kS_nx, kS_rt, kS_bk, oQ_nx, oQ_rt, W_some, W_bind, W_map, W_guard, W_guardB, evE_comp, evS_for, evS_while, evS_mkdr, evE_var, evE_con, evE_bin, evE_neg, evE_not_, evE_cmp, evE_chain, evE_and_, evE_or_, evE_ite, evE_tup, evE_lst, evE_sub, evE_subv, evE_slice, evE_rev, evE_lenv, evE_nilv, evE_inv, evE_call, evE_bi, evE_rngl, evE_isi, evE_pop0, evE_pop1, evS_set, evS_unp, evS_par, evS_stsub, evS_app, evS_drop, evS_if_, evS_ret, evS_retN, evS_brk, evS_pass, evS_undr, evEs, evPs, evO, evI, evT, startG, List.map_cons, List.map_nil, List.set_cons_zero, List.set_cons_succ, List.getElem?_cons_zero, List.getElem?_cons_succ, List.length_cons, List.length_nil, List.cons_append, List.nil_append, List.replicate_succ, List.replicate_zero, Nat.reduceAdd, Nat.reduceSub, cmpD_ii_eq, cmpD_ii_ne, cmpD_ii_lt, cmpD_ii_le, cmpD_ii_gt, cmpD_ii_ge, cmpD_bb_eq, cmpD_bb_ne, List.all_cons, List.all_nil, List.any_cons, List.any_nil, Bool.or_false, Bool.or_true, Bool.true_or, Bool.false_or, Bool.and_true, Bool.true_and, Bool.and_self, isTy, wipeG, backG, Option.bind_some, Option.map_some, Bool.not_true, Bool.not_false, ite_true, ite_false, if_true, if_false, true_and, and_true, Bool.false_eq_true, evI_seq, List.isEmpty_nil, List.isEmpty_cons, List.length_map, decide_eq_true_eq, Bool.and_eq_true, b_add, b_sub, b_mul, b_div, b_mod, b_pow, b_addL, b_addT, b_mulL, sl_v, sl_f, sl_dr, sl_scr, ar_v, ar_f, ar_dr, ar_scr, rv_v, rv_f, as_i, as_b, da_nil, da_cons, sa_nil, sa_cons, bi_len, bi_max2, bi_min2, bi_maxL, bi_minL, bi_sumL, bi_allL, bi_anyL, bi_sorted, bi_sortedR, bi_listL, bi_listT, bi_tupL, bi_tupT, bi_int1, bi_int1b, bi_abs1, bi_repr, ag_n, ag_nil, ag_cons, up_l, up_t, sq_l, sq_t, ln_l, ln_t, rg_1, rg_2, en_l, zp_l, zp_t, sb_l, sb_t, ra_eq, rd_mk, st_mk, wp_mk, bk_mk, ls_mk, nl_mk, bn_mk, bl_mk, no_mk, ss_mk, is_mk, sS_mk, pS_mk, aS_mk, sv_scr, sv_v, sv_f, sr_l, sr_t, rr_l, evE_lstx, evE_dsp, evE_idx, evE_dcomp, evS_ext, ex_l, evS_augI, evXs_nil, evXs_cons, evXs_star, eS_mk, gI_mk, ke_i, ke_s, sl_fd, b_shl, b_shr, b_and, bi_min3, sortR_ints, sortRR_ints, ai_nil, ai_cons, allInts_map, evE_imax, evE_slb, evE_sla, rr_t, slb_t, sla_l, im_mk, bi_sortedT, bi_lenSet, bi_sortSet, Int.reduceLE, Int.reduceLT, Int.reduceToNat, Int.reducePow, Nat.reduceLT, Nat.reduceLeDiff, Nat.reducePow, Int.reduceNeg, Int.reduceAbs, small_lit, at_0, at_1, at_2, decide_true, decide_false, gt_iff_lt, ge_iff_le, eq_self, Bool.not_eq_true, hmany, many0])
      refine (keys_W (by omega) g1 (by omega) (by omega) (by omega) (by omega) N1).mono ?_
      rintro _ ⟨ks, S2, rfl, kl, kN, kb, g2⟩
      (try simp only [W_cons, W_nil, kS_nx, kS_rt, kS_bk, oQ_nx, oQ_rt, W_some, W_bind, W_map, W_guard, W_guardB, evE_comp, evS_for, evS_while, evS_mkdr, evE_var, evE_con, evE_bin, evE_neg, evE_not_, evE_cmp, evE_chain, evE_and_, evE_or_, evE_ite, evE_tup, evE_lst, evE_sub, evE_subv, evE_slice, evE_rev, evE_lenv, evE_nilv, evE_inv, evE_call, evE_bi, evE_rngl, evE_isi, evE_pop0, evE_pop1, evS_set, evS_unp, evS_par, evS_stsub, evS_app, evS_drop, evS_if_, evS_ret, evS_retN, evS_brk, evS_pass, evS_undr, evEs, evPs, evO, evI, evT, startG, List.map_cons, List.map_nil, List.set_cons_zero, List.set_cons_succ, List.getElem?_cons_zero, List.getElem?_cons_succ, List.length_cons, List.length_nil, List.cons_append, List.nil_append, List.replicate_succ, List.replicate_zero, Nat.reduceAdd, Nat.reduceSub, cmpD_ii_eq, cmpD_ii_ne, cmpD_ii_lt, cmpD_ii_le, cmpD_ii_gt, cmpD_ii_ge, cmpD_bb_eq, cmpD_bb_ne, List.all_cons, List.all_nil, List.any_cons, List.any_nil, Bool.or_false, Bool.or_true, Bool.true_or, Bool.false_or, Bool.and_true, Bool.true_and, Bool.and_self, isTy, wipeG, backG, Option.bind_some, Option.map_some, Bool.not_true, Bool.not_false, ite_true, ite_false, if_true, if_false, true_and, and_true, Bool.false_eq_true, evI_seq, List.isEmpty_nil, List.isEmpty_cons, List.length_map, decide_eq_true_eq, Bool.and_eq_true, b_add, b_sub, b_mul, b_div, b_mod, b_pow, b_addL, b_addT, b_mulL, sl_v, sl_f, sl_dr, sl_scr, ar_v, ar_f, ar_dr, ar_scr, rv_v, rv_f, as_i, as_b, da_nil, da_cons, sa_nil, sa_cons, bi_len, bi_max2, bi_min2, bi_maxL, bi_minL, bi_sumL, bi_allL, bi_anyL, bi_sorted, bi_sortedR, bi_listL, bi_listT, bi_tupL, bi_tupT, bi_int1, bi_int1b, bi_abs1, bi_repr, ag_n, ag_nil, ag_cons, up_l, up_t, sq_l, sq_t, ln_l, ln_t, rg_1, rg_2, en_l, zp_l, zp_t, sb_l, sb_t, ra_eq, rd_mk, st_mk, wp_mk, bk_mk, ls_mk, nl_mk, bn_mk, bl_mk, no_mk, ss_mk, is_mk, sS_mk, pS_mk, aS_mk, sv_scr, sv_v, sv_f, sr_l, sr_t, rr_l, evE_lstx, evE_dsp, evE_idx, evE_dcomp, evS_ext, ex_l, evS_augI, evXs_nil, evXs_cons, evXs_star, eS_mk, gI_mk, ke_i, ke_s, sl_fd, b_shl, b_shr, b_and, bi_min3, sortR_ints, sortRR_ints, ai_nil, ai_cons, allInts_map, evE_imax, evE_slb, evE_sla, rr_t, slb_t, sla_l, im_mk, bi_sortedT, bi_lenSet, bi_sortSet, Int.reduceLE, Int.reduceLT, Int.reduceToNat, Int.reducePow, Nat.reduceLT, Nat.reduceLeDiff, Nat.reducePow, Int.reduceNeg, Int.reduceAbs, small_lit, at_0, at_1, at_2, decide_true, decide_false, gt_iff_lt, ge_iff_le, eq_self, Bool.not_eq_true])
      refine W_forF (f := PyData.int) (fun q st => ∃ (pre : List Int) (rows : List Rw) (sp : Nat) (x8 x9 x10 x11 : Slot) (S' : DS), ks = pre ++ q ∧ Bu f rows ∧ (kd rows f).map ck = pre ∧ rows.length + q.length + sp ≤ m ∧ Gd (b + 14 + 20 * (m - q.length - sp)) S' ∧ st = ⟨[.dr, .v (.int N), .v (.int f), .v (.int ((m + 1 : Nat) : Int)), .own (rows.map rwD), .v (.int (f + 1 + (rows.length : Int))), .v (.int (many : Nat)), .v (.int (sp : Nat)), x8, x9, x10, x11], some S'⟩) ?_ ?_ ?_
      · rintro κ q st ⟨pre, rows, sp, x8, x9, x10, x11, S3, hks, B, hpre, room, g3, rfl⟩
        rw [List.length_cons] at room g3
        have κb := kb κ (by rw [hks]; simp)
        unfold fStep
        (try simp only [W_cons, W_nil, kS_nx, kS_rt, kS_bk, oQ_nx, oQ_rt, W_some, W_bind, W_map, W_guard, W_guardB, evE_comp, evS_for, evS_while, evS_mkdr, evE_var, evE_con, evE_bin, evE_neg, evE_not_, evE_cmp, evE_chain, evE_and_, evE_or_, evE_ite, evE_tup, evE_lst, evE_sub, evE_subv, evE_slice, evE_rev, evE_lenv, evE_nilv, evE_inv, evE_call, evE_bi, evE_rngl, evE_isi, evE_pop0, evE_pop1, evS_set, evS_unp, evS_par, evS_stsub, evS_app, evS_drop, evS_if_, evS_ret, evS_retN, evS_brk, evS_pass, evS_undr, evEs, evPs, evO, evI, evT, startG, List.map_cons, List.map_nil, List.set_cons_zero, List.set_cons_succ, List.getElem?_cons_zero, List.getElem?_cons_succ, List.length_cons, List.length_nil, List.cons_append, List.nil_append, List.replicate_succ, List.replicate_zero, Nat.reduceAdd, Nat.reduceSub, cmpD_ii_eq, cmpD_ii_ne, cmpD_ii_lt, cmpD_ii_le, cmpD_ii_gt, cmpD_ii_ge, cmpD_bb_eq, cmpD_bb_ne, List.all_cons, List.all_nil, List.any_cons, List.any_nil, Bool.or_false, Bool.or_true, Bool.true_or, Bool.false_or, Bool.and_true, Bool.true_and, Bool.and_self, isTy, wipeG, backG, Option.bind_some, Option.map_some, Bool.not_true, Bool.not_false, ite_true, ite_false, if_true, if_false, true_and, and_true, Bool.false_eq_true, evI_seq, List.isEmpty_nil, List.isEmpty_cons, List.length_map, decide_eq_true_eq, Bool.and_eq_true, b_add, b_sub, b_mul, b_div, b_mod, b_pow, b_addL, b_addT, b_mulL, sl_v, sl_f, sl_dr, sl_scr, ar_v, ar_f, ar_dr, ar_scr, rv_v, rv_f, as_i, as_b, da_nil, da_cons, sa_nil, sa_cons, bi_len, bi_max2, bi_min2, bi_maxL, bi_minL, bi_sumL, bi_allL, bi_anyL, bi_sorted, bi_sortedR, bi_listL, bi_listT, bi_tupL, bi_tupT, bi_int1, bi_int1b, bi_abs1, bi_repr, ag_n, ag_nil, ag_cons, up_l, up_t, sq_l, sq_t, ln_l, ln_t, rg_1, rg_2, en_l, zp_l, zp_t, sb_l, sb_t, ra_eq, rd_mk, st_mk, wp_mk, bk_mk, ls_mk, nl_mk, bn_mk, bl_mk, no_mk, ss_mk, is_mk, sS_mk, pS_mk, aS_mk, sv_scr, sv_v, sv_f, sr_l, sr_t, rr_l, evE_lstx, evE_dsp, evE_idx, evE_dcomp, evS_ext, ex_l, evS_augI, evXs_nil, evXs_cons, evXs_star, eS_mk, gI_mk, ke_i, ke_s, sl_fd, b_shl, b_shr, b_and, bi_min3, sortR_ints, sortRR_ints, ai_nil, ai_cons, allInts_map, evE_imax, evE_slb, evE_sla, rr_t, slb_t, sla_l, im_mk, bi_sortedT, bi_lenSet, bi_sortSet, Int.reduceLE, Int.reduceLT, Int.reduceToNat, Int.reducePow, Nat.reduceLT, Nat.reduceLeDiff, Nat.reducePow, Int.reduceNeg, Int.reduceAbs, small_lit, at_0, at_1, at_2, decide_true, decide_false, gt_iff_lt, ge_iff_le, eq_self, Bool.not_eq_true])
        refine (next_W hNext (by omega) g3 (by omega) (by omega) (by omega)).mono ?_
        rintro _ ⟨mo, S4, rfl, mo0, mo1, g4⟩
        (try simp only [W_cons, W_nil, kS_nx, kS_rt, kS_bk, oQ_nx, oQ_rt, W_some, W_bind, W_map, W_guard, W_guardB, evE_comp, evS_for, evS_while, evS_mkdr, evE_var, evE_con, evE_bin, evE_neg, evE_not_, evE_cmp, evE_chain, evE_and_, evE_or_, evE_ite, evE_tup, evE_lst, evE_sub, evE_subv, evE_slice, evE_rev, evE_lenv, evE_nilv, evE_inv, evE_call, evE_bi, evE_rngl, evE_isi, evE_pop0, evE_pop1, evS_set, evS_unp, evS_par, evS_stsub, evS_app, evS_drop, evS_if_, evS_ret, evS_retN, evS_brk, evS_pass, evS_undr, evEs, evPs, evO, evI, evT, startG, List.map_cons, List.map_nil, List.set_cons_zero, List.set_cons_succ, List.getElem?_cons_zero, List.getElem?_cons_succ, List.length_cons, List.length_nil, List.cons_append, List.nil_append, List.replicate_succ, List.replicate_zero, Nat.reduceAdd, Nat.reduceSub, cmpD_ii_eq, cmpD_ii_ne, cmpD_ii_lt, cmpD_ii_le, cmpD_ii_gt, cmpD_ii_ge, cmpD_bb_eq, cmpD_bb_ne, List.all_cons, List.all_nil, List.any_cons, List.any_nil, Bool.or_false, Bool.or_true, Bool.true_or, Bool.false_or, Bool.and_true, Bool.true_and, Bool.and_self, isTy, wipeG, backG, Option.bind_some, Option.map_some, Bool.not_true, Bool.not_false, ite_true, ite_false, if_true, if_false, true_and, and_true, Bool.false_eq_true, evI_seq, List.isEmpty_nil, List.isEmpty_cons, List.length_map, decide_eq_true_eq, Bool.and_eq_true, b_add, b_sub, b_mul, b_div, b_mod, b_pow, b_addL, b_addT, b_mulL, sl_v, sl_f, sl_dr, sl_scr, ar_v, ar_f, ar_dr, ar_scr, rv_v, rv_f, as_i, as_b, da_nil, da_cons, sa_nil, sa_cons, bi_len, bi_max2, bi_min2, bi_maxL, bi_minL, bi_sumL, bi_allL, bi_anyL, bi_sorted, bi_sortedR, bi_listL, bi_listT, bi_tupL, bi_tupT, bi_int1, bi_int1b, bi_abs1, bi_repr, ag_n, ag_nil, ag_cons, up_l, up_t, sq_l, sq_t, ln_l, ln_t, rg_1, rg_2, en_l, zp_l, zp_t, sb_l, sb_t, ra_eq, rd_mk, st_mk, wp_mk, bk_mk, ls_mk, nl_mk, bn_mk, bl_mk, no_mk, ss_mk, is_mk, sS_mk, pS_mk, aS_mk, sv_scr, sv_v, sv_f, sr_l, sr_t, rr_l, evE_lstx, evE_dsp, evE_idx, evE_dcomp, evS_ext, ex_l, evS_augI, evXs_nil, evXs_cons, evXs_star, eS_mk, gI_mk, ke_i, ke_s, sl_fd, b_shl, b_shr, b_and, bi_min3, sortR_ints, sortRR_ints, ai_nil, ai_cons, allInts_map, evE_imax, evE_slb, evE_sla, rr_t, slb_t, sla_l, im_mk, bi_sortedT, bi_lenSet, bi_sortSet, Int.reduceLE, Int.reduceLT, Int.reduceToNat, Int.reducePow, Nat.reduceLT, Nat.reduceLeDiff, Nat.reducePow, Int.reduceNeg, Int.reduceAbs, small_lit, at_0, at_1, at_2, decide_true, decide_false, gt_iff_lt, ge_iff_le, eq_self, Bool.not_eq_true])
        refine (size_W hNext hSize (by omega) g4 (by omega) (by omega) (by omega)).mono ?_
        rintro _ ⟨ow, S5, rfl, ow0, ow1, g5⟩
        obtain ⟨mo, rfl⟩ : ∃ j : Nat, mo = (j : Int) := ⟨mo.toNat, by omega⟩
        by_cases hmo : (0 : Int) < (mo : Int)
        · (try simp only [W_cons, W_nil, kS_nx, kS_rt, kS_bk, oQ_nx, oQ_rt, W_some, W_bind, W_map, W_guard, W_guardB, evE_comp, evS_for, evS_while, evS_mkdr, evE_var, evE_con, evE_bin, evE_neg, evE_not_, evE_cmp, evE_chain, evE_and_, evE_or_, evE_ite, evE_tup, evE_lst, evE_sub, evE_subv, evE_slice, evE_rev, evE_lenv, evE_nilv, evE_inv, evE_call, evE_bi, evE_rngl, evE_isi, evE_pop0, evE_pop1, evS_set, evS_unp, evS_par, evS_stsub, evS_app, evS_drop, evS_if_, evS_ret, evS_retN, evS_brk, evS_pass, evS_undr, evEs, evPs, evO, evI, evT, startG, List.map_cons, List.map_nil, List.set_cons_zero, List.set_cons_succ, List.getElem?_cons_zero, List.getElem?_cons_succ, List.length_cons, List.length_nil, List.cons_append, List.nil_append, List.replicate_succ, List.replicate_zero, Nat.reduceAdd, Nat.reduceSub, cmpD_ii_eq, cmpD_ii_ne, cmpD_ii_lt, cmpD_ii_le, cmpD_ii_gt, cmpD_ii_ge, cmpD_bb_eq, cmpD_bb_ne, List.all_cons, List.all_nil, List.any_cons, List.any_nil, Bool.or_false, Bool.or_true, Bool.true_or, Bool.false_or, Bool.and_true, Bool.true_and, Bool.and_self, isTy, wipeG, backG, Option.bind_some, Option.map_some, Bool.not_true, Bool.not_false, ite_true, ite_false, if_true, if_false, true_and, and_true, Bool.false_eq_true, evI_seq, List.isEmpty_nil, List.isEmpty_cons, List.length_map, decide_eq_true_eq, Bool.and_eq_true, b_add, b_sub, b_mul, b_div, b_mod, b_pow, b_addL, b_addT, b_mulL, sl_v, sl_f, sl_dr, sl_scr, ar_v, ar_f, ar_dr, ar_scr, rv_v, rv_f, as_i, as_b, da_nil, da_cons, sa_nil, sa_cons, bi_len, bi_max2, bi_min2, bi_maxL, bi_minL, bi_sumL, bi_allL, bi_anyL, bi_sorted, bi_sortedR, bi_listL, bi_listT, bi_tupL, bi_tupT, bi_int1, bi_int1b, bi_abs1, bi_repr, ag_n, ag_nil, ag_cons, up_l, up_t, sq_l, sq_t, ln_l, ln_t, rg_1, rg_2, en_l, zp_l, zp_t, sb_l, sb_t, ra_eq, rd_mk, st_mk, wp_mk, bk_mk, ls_mk, nl_mk, bn_mk, bl_mk, no_mk, ss_mk, is_mk, sS_mk, pS_mk, aS_mk, sv_scr, sv_v, sv_f, sr_l, sr_t, rr_l, evE_lstx, evE_dsp, evE_idx, evE_dcomp, evS_ext, ex_l, evS_augI, evXs_nil, evXs_cons, evXs_star, eS_mk, gI_mk, ke_i, ke_s, sl_fd, b_shl, b_shr, b_and, bi_min3, sortR_ints, sortRR_ints, ai_nil, ai_cons, allInts_map, evE_imax, evE_slb, evE_sla, rr_t, slb_t, sla_l, im_mk, bi_sortedT, bi_lenSet, bi_sortSet, Int.reduceLE, Int.reduceLT, Int.reduceToNat, Int.reducePow, Nat.reduceLT, Nat.reduceLeDiff, Nat.reducePow, Int.reduceNeg, Int.reduceAbs, small_lit, at_0, at_1, at_2, decide_true, decide_false, gt_iff_lt, ge_iff_le, eq_self, Bool.not_eq_true, hmo, Int.mul_one])
          refine ⟨decide_eq_true (by unfold LIM; omega), ?_⟩
          rw [show (1 : Int) + (mo : Int) = ((mo + 1 : Nat) : Int) by omega]
          refine (ih mo (by omega) (by omega) (by omega) g5 (by omega) (by omega) (by omega) (by omega) (by omega)).mono ?_
          rintro _ ⟨below, S6, rfl, C, hl, bl, g6⟩
          (try simp only [W_cons, W_nil, kS_nx, kS_rt, kS_bk, oQ_nx, oQ_rt, W_some, W_bind, W_map, W_guard, W_guardB, evE_comp, evS_for, evS_while, evS_mkdr, evE_var, evE_con, evE_bin, evE_neg, evE_not_, evE_cmp, evE_chain, evE_and_, evE_or_, evE_ite, evE_tup, evE_lst, evE_sub, evE_subv, evE_slice, evE_rev, evE_lenv, evE_nilv, evE_inv, evE_call, evE_bi, evE_rngl, evE_isi, evE_pop0, evE_pop1, evS_set, evS_unp, evS_par, evS_stsub, evS_app, evS_drop, evS_if_, evS_ret, evS_retN, evS_brk, evS_pass, evS_undr, evEs, evPs, evO, evI, evT, startG, List.map_cons, List.map_nil, List.set_cons_zero, List.set_cons_succ, List.getElem?_cons_zero, List.getElem?_cons_succ, List.length_cons, List.length_nil, List.cons_append, List.nil_append, List.replicate_succ, List.replicate_zero, Nat.reduceAdd, Nat.reduceSub, cmpD_ii_eq, cmpD_ii_ne, cmpD_ii_lt, cmpD_ii_le, cmpD_ii_gt, cmpD_ii_ge, cmpD_bb_eq, cmpD_bb_ne, List.all_cons, List.all_nil, List.any_cons, List.any_nil, Bool.or_false, Bool.or_true, Bool.true_or, Bool.false_or, Bool.and_true, Bool.true_and, Bool.and_self, isTy, wipeG, backG, Option.bind_some, Option.map_some, Bool.not_true, Bool.not_false, ite_true, ite_false, if_true, if_false, true_and, and_true, Bool.false_eq_true, evI_seq, List.isEmpty_nil, List.isEmpty_cons, List.length_map, decide_eq_true_eq, Bool.and_eq_true, b_add, b_sub, b_mul, b_div, b_mod, b_pow, b_addL, b_addT, b_mulL, sl_v, sl_f, sl_dr, sl_scr, ar_v, ar_f, ar_dr, ar_scr, rv_v, rv_f, as_i, as_b, da_nil, da_cons, sa_nil, sa_cons, bi_len, bi_max2, bi_min2, bi_maxL, bi_minL, bi_sumL, bi_allL, bi_anyL, bi_sorted, bi_sortedR, bi_listL, bi_listT, bi_tupL, bi_tupT, bi_int1, bi_int1b, bi_abs1, bi_repr, ag_n, ag_nil, ag_cons, up_l, up_t, sq_l, sq_t, ln_l, ln_t, rg_1, rg_2, en_l, zp_l, zp_t, sb_l, sb_t, ra_eq, rd_mk, st_mk, wp_mk, bk_mk, ls_mk, nl_mk, bn_mk, bl_mk, no_mk, ss_mk, is_mk, sS_mk, pS_mk, aS_mk, sv_scr, sv_v, sv_f, sr_l, sr_t, rr_l, evE_lstx, evE_dsp, evE_idx, evE_dcomp, evS_ext, ex_l, evS_augI, evXs_nil, evXs_cons, evXs_star, eS_mk, gI_mk, ke_i, ke_s, sl_fd, b_shl, b_shr, b_and, bi_min3, sortR_ints, sortRR_ints, ai_nil, ai_cons, allInts_map, evE_imax, evE_slb, evE_sla, rr_t, slb_t, sla_l, im_mk, bi_sortedT, bi_lenSet, bi_sortSet, Int.reduceLE, Int.reduceLT, Int.reduceToNat, Int.reducePow, Nat.reduceLT, Nat.reduceLeDiff, Nat.reducePow, Int.reduceNeg, Int.reduceAbs, small_lit, at_0, at_1, at_2, decide_true, decide_false, gt_iff_lt, ge_iff_le, eq_self, Bool.not_eq_true])
          have add := B.add rfl C (d := κ - (ow)) (o := ow) (by omega) (by omega) hl
          refine ⟨decide_eq_true (by rw [List.length_append, List.length_map, List.length_singleton]; unfold LIM; omega), ?_⟩
          refine ⟨pre ++ [κ], rows ++ (f, f + 1 + (rows.length : Int), κ - (ow), ow) :: below, sp - mo, .v (.int κ), .v (.int (mo : Nat)), .v (.int (ow)), .v (.list (below.map rwD)), S6, by rw [hks]; simp, add.1, ?_, ?_, g6.le (by omega), ?_⟩
          · rw [add.2, List.map_append, hpre, List.map_singleton]
            congr 2
            show κ - (ow) + (ow) = κ
            omega
          · rw [List.length_append, List.length_cons]
            omega
          · rw [show ((sp - mo : Nat) : Int) = (sp : Int) - (mo : Int) by omega, List.map_append, List.map_cons, List.length_append, List.length_cons]
            rw [show f + 1 + ((rows.length + (below.length + 1) : Nat) : Int) = f + 1 + (rows.length : Int) + 1 + (below.length : Int) by omega]
            rw [List.append_assoc]
            rfl
        · (try simp only [W_cons, W_nil, kS_nx, kS_rt, kS_bk, oQ_nx, oQ_rt, W_some, W_bind, W_map, W_guard, W_guardB, evE_comp, evS_for, evS_while, evS_mkdr, evE_var, evE_con, evE_bin, evE_neg, evE_not_, evE_cmp, evE_chain, evE_and_, evE_or_, evE_ite, evE_tup, evE_lst, evE_sub, evE_subv, evE_slice, evE_rev, evE_lenv, evE_nilv, evE_inv, evE_call, evE_bi, evE_rngl, evE_isi, evE_pop0, evE_pop1, evS_set, evS_unp, evS_par, evS_stsub, evS_app, evS_drop, evS_if_, evS_ret, evS_retN, evS_brk, evS_pass, evS_undr, evEs, evPs, evO, evI, evT, startG, List.map_cons, List.map_nil, List.set_cons_zero, List.set_cons_succ, List.getElem?_cons_zero, List.getElem?_cons_succ, List.length_cons, List.length_nil, List.cons_append, List.nil_append, List.replicate_succ, List.replicate_zero, Nat.reduceAdd, Nat.reduceSub, cmpD_ii_eq, cmpD_ii_ne, cmpD_ii_lt, cmpD_ii_le, cmpD_ii_gt, cmpD_ii_ge, cmpD_bb_eq, cmpD_bb_ne, List.all_cons, List.all_nil, List.any_cons, List.any_nil, Bool.or_false, Bool.or_true, Bool.true_or, Bool.false_or, Bool.and_true, Bool.true_and, Bool.and_self, isTy, wipeG, backG, Option.bind_some, Option.map_some, Bool.not_true, Bool.not_false, ite_true, ite_false, if_true, if_false, true_and, and_true, Bool.false_eq_true, evI_seq, List.isEmpty_nil, List.isEmpty_cons, List.length_map, decide_eq_true_eq, Bool.and_eq_true, b_add, b_sub, b_mul, b_div, b_mod, b_pow, b_addL, b_addT, b_mulL, sl_v, sl_f, sl_dr, sl_scr, ar_v, ar_f, ar_dr, ar_scr, rv_v, rv_f, as_i, as_b, da_nil, da_cons, sa_nil, sa_cons, bi_len, bi_max2, bi_min2, bi_maxL, bi_minL, bi_sumL, bi_allL, bi_anyL, bi_sorted, bi_sortedR, bi_listL, bi_listT, bi_tupL, bi_tupT, bi_int1, bi_int1b, bi_abs1, bi_repr, ag_n, ag_nil, ag_cons, up_l, up_t, sq_l, sq_t, ln_l, ln_t, rg_1, rg_2, en_l, zp_l, zp_t, sb_l, sb_t, ra_eq, rd_mk, st_mk, wp_mk, bk_mk, ls_mk, nl_mk, bn_mk, bl_mk, no_mk, ss_mk, is_mk, sS_mk, pS_mk, aS_mk, sv_scr, sv_v, sv_f, sr_l, sr_t, rr_l, evE_lstx, evE_dsp, evE_idx, evE_dcomp, evS_ext, ex_l, evS_augI, evXs_nil, evXs_cons, evXs_star, eS_mk, gI_mk, ke_i, ke_s, sl_fd, b_shl, b_shr, b_and, bi_min3, sortR_ints, sortRR_ints, ai_nil, ai_cons, allInts_map, evE_imax, evE_slb, evE_sla, rr_t, slb_t, sla_l, im_mk, bi_sortedT, bi_lenSet, bi_sortSet, Int.reduceLE, Int.reduceLT, Int.reduceToNat, Int.reducePow, Nat.reduceLT, Nat.reduceLeDiff, Nat.reducePow, Int.reduceNeg, Int.reduceAbs, small_lit, at_0, at_1, at_2, decide_true, decide_false, gt_iff_lt, ge_iff_le, eq_self, Bool.not_eq_true, hmo, Int.mul_zero])
          refine ⟨decide_eq_true (by unfold LIM; omega), ?_⟩
          rw [show (1 : Int) + (mo : Int) = ((mo + 1 : Nat) : Int) by omega]
          refine (ih mo (by omega) (by omega) (by omega) g5 (by omega) (by omega) (by omega) (by omega) (by omega)).mono ?_
          rintro _ ⟨below, S6, rfl, C, hl, bl, g6⟩
          (try simp only [W_cons, W_nil, kS_nx, kS_rt, kS_bk, oQ_nx, oQ_rt, W_some, W_bind, W_map, W_guard, W_guardB, evE_comp, evS_for, evS_while, evS_mkdr, evE_var, evE_con, evE_bin, evE_neg, evE_not_, evE_cmp, evE_chain, evE_and_, evE_or_, evE_ite, evE_tup, evE_lst, evE_sub, evE_subv, evE_slice, evE_rev, evE_lenv, evE_nilv, evE_inv, evE_call, evE_bi, evE_rngl, evE_isi, evE_pop0, evE_pop1, evS_set, evS_unp, evS_par, evS_stsub, evS_app, evS_drop, evS_if_, evS_ret, evS_retN, evS_brk, evS_pass, evS_undr, evEs, evPs, evO, evI, evT, startG, List.map_cons, List.map_nil, List.set_cons_zero, List.set_cons_succ, List.getElem?_cons_zero, List.getElem?_cons_succ, List.length_cons, List.length_nil, List.cons_append, List.nil_append, List.replicate_succ, List.replicate_zero, Nat.reduceAdd, Nat.reduceSub, cmpD_ii_eq, cmpD_ii_ne, cmpD_ii_lt, cmpD_ii_le, cmpD_ii_gt, cmpD_ii_ge, cmpD_bb_eq, cmpD_bb_ne, List.all_cons, List.all_nil, List.any_cons, List.any_nil, Bool.or_false, Bool.or_true, Bool.true_or, Bool.false_or, Bool.and_true, Bool.true_and, Bool.and_self, isTy, wipeG, backG, Option.bind_some, Option.map_some, Bool.not_true, Bool.not_false, ite_true, ite_false, if_true, if_false, true_and, and_true, Bool.false_eq_true, evI_seq, List.isEmpty_nil, List.isEmpty_cons, List.length_map, decide_eq_true_eq, Bool.and_eq_true, b_add, b_sub, b_mul, b_div, b_mod, b_pow, b_addL, b_addT, b_mulL, sl_v, sl_f, sl_dr, sl_scr, ar_v, ar_f, ar_dr, ar_scr, rv_v, rv_f, as_i, as_b, da_nil, da_cons, sa_nil, sa_cons, bi_len, bi_max2, bi_min2, bi_maxL, bi_minL, bi_sumL, bi_allL, bi_anyL, bi_sorted, bi_sortedR, bi_listL, bi_listT, bi_tupL, bi_tupT, bi_int1, bi_int1b, bi_abs1, bi_repr, ag_n, ag_nil, ag_cons, up_l, up_t, sq_l, sq_t, ln_l, ln_t, rg_1, rg_2, en_l, zp_l, zp_t, sb_l, sb_t, ra_eq, rd_mk, st_mk, wp_mk, bk_mk, ls_mk, nl_mk, bn_mk, bl_mk, no_mk, ss_mk, is_mk, sS_mk, pS_mk, aS_mk, sv_scr, sv_v, sv_f, sr_l, sr_t, rr_l, evE_lstx, evE_dsp, evE_idx, evE_dcomp, evS_ext, ex_l, evS_augI, evXs_nil, evXs_cons, evXs_star, eS_mk, gI_mk, ke_i, ke_s, sl_fd, b_shl, b_shr, b_and, bi_min3, sortR_ints, sortRR_ints, ai_nil, ai_cons, allInts_map, evE_imax, evE_slb, evE_sla, rr_t, slb_t, sla_l, im_mk, bi_sortedT, bi_lenSet, bi_sortSet, Int.reduceLE, Int.reduceLT, Int.reduceToNat, Int.reducePow, Nat.reduceLT, Nat.reduceLeDiff, Nat.reducePow, Int.reduceNeg, Int.reduceAbs, small_lit, at_0, at_1, at_2, decide_true, decide_false, gt_iff_lt, ge_iff_le, eq_self, Bool.not_eq_true])
          have add := B.add rfl C (d := κ - (0)) (o := 0) (by omega) (by omega) hl
          refine ⟨decide_eq_true (by rw [List.length_append, List.length_map, List.length_singleton]; unfold LIM; omega), ?_⟩
          refine ⟨pre ++ [κ], rows ++ (f, f + 1 + (rows.length : Int), κ - (0), 0) :: below, sp - mo, .v (.int κ), .v (.int (mo : Nat)), .v (.int (0)), .v (.list (below.map rwD)), S6, by rw [hks]; simp, add.1, ?_, ?_, g6.le (by omega), ?_⟩
          · rw [add.2, List.map_append, hpre, List.map_singleton]
            congr 2
            show κ - (0) + (0) = κ
            omega
          · rw [List.length_append, List.length_cons]
            omega
          · rw [show ((sp - mo : Nat) : Int) = (sp : Int) - (mo : Int) by omega, List.map_append, List.map_cons, List.length_append, List.length_cons]
            rw [show f + 1 + ((rows.length + (below.length + 1) : Nat) : Int) = f + 1 + (rows.length : Int) + 1 + (below.length : Int) by omega]
            rw [List.append_assoc]
            rfl
      · rintro st ⟨pre, rows, sp, x8, x9, x10, x11, S3, hks, B, hpre, room, g3, rfl⟩
        rw [List.append_nil] at hks
        (try simp only [W_cons, W_nil, kS_nx, kS_rt, kS_bk, oQ_nx, oQ_rt, W_some, W_bind, W_map, W_guard, W_guardB, evE_comp, evS_for, evS_while, evS_mkdr, evE_var, evE_con, evE_bin, evE_neg, evE_not_, evE_cmp, evE_chain, evE_and_, evE_or_, evE_ite, evE_tup, evE_lst, evE_sub, evE_subv, evE_slice, evE_rev, evE_lenv, evE_nilv, evE_inv, evE_call, evE_bi, evE_rngl, evE_isi, evE_pop0, evE_pop1, evS_set, evS_unp, evS_par, evS_stsub, evS_app, evS_drop, evS_if_, evS_ret, evS_retN, evS_brk, evS_pass, evS_undr, evEs, evPs, evO, evI, evT, startG, List.map_cons, List.map_nil, List.set_cons_zero, List.set_cons_succ, List.getElem?_cons_zero, List.getElem?_cons_succ, List.length_cons, List.length_nil, List.cons_append, List.nil_append, List.replicate_succ, List.replicate_zero, Nat.reduceAdd, Nat.reduceSub, cmpD_ii_eq, cmpD_ii_ne, cmpD_ii_lt, cmpD_ii_le, cmpD_ii_gt, cmpD_ii_ge, cmpD_bb_eq, cmpD_bb_ne, List.all_cons, List.all_nil, List.any_cons, List.any_nil, Bool.or_false, Bool.or_true, Bool.true_or, Bool.false_or, Bool.and_true, Bool.true_and, Bool.and_self, isTy, wipeG, backG, Option.bind_some, Option.map_some, Bool.not_true, Bool.not_false, ite_true, ite_false, if_true, if_false, true_and, and_true, Bool.false_eq_true, evI_seq, List.isEmpty_nil, List.isEmpty_cons, List.length_map, decide_eq_true_eq, Bool.and_eq_true, b_add, b_sub, b_mul, b_div, b_mod, b_pow, b_addL, b_addT, b_mulL, sl_v, sl_f, sl_dr, sl_scr, ar_v, ar_f, ar_dr, ar_scr, rv_v, rv_f, as_i, as_b, da_nil, da_cons, sa_nil, sa_cons, bi_len, bi_max2, bi_min2, bi_maxL, bi_minL, bi_sumL, bi_allL, bi_anyL, bi_sorted, bi_sortedR, bi_listL, bi_listT, bi_tupL, bi_tupT, bi_int1, bi_int1b, bi_abs1, bi_repr, ag_n, ag_nil, ag_cons, up_l, up_t, sq_l, sq_t, ln_l, ln_t, rg_1, rg_2, en_l, zp_l, zp_t, sb_l, sb_t, ra_eq, rd_mk, st_mk, wp_mk, bk_mk, ls_mk, nl_mk, bn_mk, bl_mk, no_mk, ss_mk, is_mk, sS_mk, pS_mk, aS_mk, sv_scr, sv_v, sv_f, sr_l, sr_t, rr_l, evE_lstx, evE_dsp, evE_idx, evE_dcomp, evS_ext, ex_l, evS_augI, evXs_nil, evXs_cons, evXs_star, eS_mk, gI_mk, ke_i, ke_s, sl_fd, b_shl, b_shr, b_and, bi_min3, sortR_ints, sortRR_ints, ai_nil, ai_cons, allInts_map, evE_imax, evE_slb, evE_sla, rr_t, slb_t, sla_l, im_mk, bi_sortedT, bi_lenSet, bi_sortSet, Int.reduceLE, Int.reduceLT, Int.reduceToNat, Int.reducePow, Nat.reduceLT, Nat.reduceLeDiff, Nat.reducePow, Int.reduceNeg, Int.reduceAbs, small_lit, at_0, at_1, at_2, decide_true, decide_false, gt_iff_lt, ge_iff_le, eq_self, Bool.not_eq_true])
        exact ⟨rows, S3, rfl, B, by rw [hpre, ← hks, kN], by omega, g3.le (by omega)⟩
      · refine ⟨[], [], m - many, .no, .no, .no, .no, S2, rfl, Bu.nil f, rfl, by rw [List.length_nil, kl]; omega, g2.le (by omega), ?_⟩
        rw [show ((m - many : Nat) : Int) = ((m + 1 : Nat) : Int) - 1 - (many : Int) by omega, show f + 1 + (([] : List Rw).length : Int) = f + 1 by simp]
        rfl
    · have N00 : N = 0 := by omega
      subst N00
      (try simp only [W_cons, W_nil, kS_nx, kS_rt, kS_bk, oQ_nx, oQ_rt, W_some, W_bind, W_map, W_guard, W_guardB, evE_comp, evS_for, evS_while, evS_mkdr, evE_var, evE_con, evE_bin, evE_neg, evE_not_, evE_cmp, evE_chain, evE_and_, evE_or_, evE_ite, evE_tup, evE_lst, evE_sub, evE_subv, evE_slice, evE_rev, evE_lenv, evE_nilv, evE_inv, evE_call, evE_bi, evE_rngl, evE_isi, evE_pop0, evE_pop1, evS_set, evS_unp, evS_par, evS_stsub, evS_app, evS_drop, evS_if_, evS_ret, evS_retN, evS_brk, evS_pass, evS_undr, evEs, evPs, evO, evI, evT, startG, List.map_cons, List.map_nil, List.set_cons_zero, List.set_cons_succ, List.getElem?_cons_zero, List.getElem?_cons_succ, List.length_cons, List.length_nil, List.cons_append, List.nil_append, List.replicate_succ, List.replicate_zero, Nat.reduceAdd, Nat.reduceSub, cmpD_ii_eq, cmpD_ii_ne, cmpD_ii_lt, cmpD_ii_le, cmpD_ii_gt, cmpD_ii_ge, cmpD_bb_eq, cmpD_bb_ne, List.all_cons, List.all_nil, List.any_cons, List.any_nil, Bool.or_false, Bool.or_true, Bool.true_or, Bool.false_or, Bool.and_true, Bool.true_and, Bool.and_self, isTy, wipeG, backG, Option.bind_some, Option.map_some, Bool.not_true, Bool.not_false, ite_true, ite_false, if_true, if_false, true_and, and_true, Bool.false_eq_true, evI_seq, List.isEmpty_nil, List.isEmpty_cons, List.length_map, decide_eq_true_eq, Bool.and_eq_true, b_add, b_sub, b_mul, b_div, b_mod, b_pow, b_addL, b_addT, b_mulL, sl_v, sl_f, sl_dr, sl_scr, ar_v, ar_f, ar_dr, ar_scr, rv_v, rv_f, as_i, as_b, da_nil, da_cons, sa_nil, sa_cons, bi_len, bi_max2, bi_min2, bi_maxL, bi_minL, bi_sumL, bi_allL, bi_anyL, bi_sorted, bi_sortedR, bi_listL, bi_listT, bi_tupL, bi_tupT, bi_int1, bi_int1b, bi_abs1, bi_repr, ag_n, ag_nil, ag_cons, up_l, up_t, sq_l, sq_t, ln_l, ln_t, rg_1, rg_2, en_l, zp_l, zp_t, sb_l, sb_t, ra_eq, rd_mk, st_mk, wp_mk, bk_mk, ls_mk, nl_mk, bn_mk, bl_mk, no_mk, ss_mk, is_mk, sS_mk, pS_mk, aS_mk, sv_scr, sv_v, sv_f, sr_l, sr_t, rr_l, evE_lstx, evE_dsp, evE_idx, evE_dcomp, evS_ext, ex_l, evS_augI, evXs_nil, evXs_cons, evXs_star, eS_mk, gI_mk, ke_i, ke_s, sl_fd, b_shl, b_shr, b_and, bi_min3, sortR_ints, sortRR_ints, ai_nil, ai_cons, allInts_map, evE_imax, evE_slb, evE_sla, rr_t, slb_t, sla_l, im_mk, bi_sortedT, bi_lenSet, bi_sortSet, Int.reduceLE, Int.reduceLT, Int.reduceToNat, Int.reducePow, Nat.reduceLT, Nat.reduceLeDiff, Nat.reducePow, Int.reduceNeg, Int.reduceAbs, small_lit, at_0, at_1, at_2, decide_true, decide_false, gt_iff_lt, ge_iff_le, eq_self, Bool.not_eq_true])
      rw [forLoop]
      (try simp only [W_cons, W_nil, kS_nx, kS_rt, kS_bk, oQ_nx, oQ_rt, W_some, W_bind, W_map, W_guard, W_guardB, evE_comp, evS_for, evS_while, evS_mkdr, evE_var, evE_con, evE_bin, evE_neg, evE_not_, evE_cmp, evE_chain, evE_and_, evE_or_, evE_ite, evE_tup, evE_lst, evE_sub, evE_subv, evE_slice, evE_rev, evE_lenv, evE_nilv, evE_inv, evE_call, evE_bi, evE_rngl, evE_isi, evE_pop0, evE_pop1, evS_set, evS_unp, evS_par, evS_stsub, evS_app, evS_drop, evS_if_, evS_ret, evS_retN, evS_brk, evS_pass, evS_undr, evEs, evPs, evO, evI, evT, startG, List.map_cons, List.map_nil, List.set_cons_zero, List.set_cons_succ, List.getElem?_cons_zero, List.getElem?_cons_succ, List.length_cons, List.length_nil, List.cons_append, List.nil_append, List.replicate_succ, List.replicate_zero, Nat.reduceAdd, Nat.reduceSub, cmpD_ii_eq, cmpD_ii_ne, cmpD_ii_lt, cmpD_ii_le, cmpD_ii_gt, cmpD_ii_ge, cmpD_bb_eq, cmpD_bb_ne, List.all_cons, List.all_nil, List.any_cons, List.any_nil, Bool.or_false, Bool.or_true, Bool.true_or, Bool.false_or, Bool.and_true, Bool.true_and, Bool.and_self, isTy, wipeG, backG, Option.bind_some, Option.map_some, Bool.not_true, Bool.not_false, ite_true, ite_false, if_true, if_false, true_and, and_true, Bool.false_eq_true, evI_seq, List.isEmpty_nil, List.isEmpty_cons, List.length_map, decide_eq_true_eq, Bool.and_eq_true, b_add, b_sub, b_mul, b_div, b_mod, b_pow, b_addL, b_addT, b_mulL, sl_v, sl_f, sl_dr, sl_scr, ar_v, ar_f, ar_dr, ar_scr, rv_v, rv_f, as_i, as_b, da_nil, da_cons, sa_nil, sa_cons, bi_len, bi_max2, bi_min2, bi_maxL, bi_minL, bi_sumL, bi_allL, bi_anyL, bi_sorted, bi_sortedR, bi_listL, bi_listT, bi_tupL, bi_tupT, bi_int1, bi_int1b, bi_abs1, bi_repr, ag_n, ag_nil, ag_cons, up_l, up_t, sq_l, sq_t, ln_l, ln_t, rg_1, rg_2, en_l, zp_l, zp_t, sb_l, sb_t, ra_eq, rd_mk, st_mk, wp_mk, bk_mk, ls_mk, nl_mk, bn_mk, bl_mk, no_mk, ss_mk, is_mk, sS_mk, pS_mk, aS_mk, sv_scr, sv_v, sv_f, sr_l, sr_t, rr_l, evE_lstx, evE_dsp, evE_idx, evE_dcomp, evS_ext, ex_l, evS_augI, evXs_nil, evXs_cons, evXs_star, eS_mk, gI_mk, ke_i, ke_s, sl_fd, b_shl, b_shr, b_and, bi_min3, sortR_ints, sortRR_ints, ai_nil, ai_cons, allInts_map, evE_imax, evE_slb, evE_sla, rr_t, slb_t, sla_l, im_mk, bi_sortedT, bi_lenSet, bi_sortSet, Int.reduceLE, Int.reduceLT, Int.reduceToNat, Int.reducePow, Nat.reduceLT, Nat.reduceLeDiff, Nat.reducePow, Int.reduceNeg, Int.reduceAbs, small_lit, at_0, at_1, at_2, decide_true, decide_false, gt_iff_lt, ge_iff_le, eq_self, Bool.not_eq_true])
      exact ⟨[], S, by rw [show f + 1 + (([] : List Rw).length : Int) = f + 1 by simp]; rfl, Bu.nil f, rfl, by simp, hS.le (by omega)⟩
theorem main (ns : List Int) (hn : ns.length ≤ 63) : ∃ S, callF tf (10 ^ 40) 200 15 [.scr ns] none = some (.v (.bool true), S) := by
  have h : W (callF tf (10 ^ 40) 200 15 [.scr ns] none) fun p => p.1 = .v (.bool true) := by
    refine W_call (k := 199) (np := 1) (nn := 12) (b := b15) rfl rfl ?_
    generalize hfu : 10 ^ 40 = fu
    have hfu : 10000 < fu := by omega
    unfold b15
    (try simp only [W_cons, W_nil, kS_nx, kS_rt, kS_bk, oQ_nx, oQ_rt, W_some, W_bind, W_map, W_guard, W_guardB, evE_comp, evS_for, evS_while, evS_mkdr, evE_var, evE_con, evE_bin, evE_neg, evE_not_, evE_cmp, evE_chain, evE_and_, evE_or_, evE_ite, evE_tup, evE_lst, evE_sub, evE_subv, evE_slice, evE_rev, evE_lenv, evE_nilv, evE_inv, evE_call, evE_bi, evE_rngl, evE_isi, evE_pop0, evE_pop1, evS_set, evS_unp, evS_par, evS_stsub, evS_app, evS_drop, evS_if_, evS_ret, evS_retN, evS_brk, evS_pass, evS_undr, evEs, evPs, evO, evI, evT, startG, List.map_cons, List.map_nil, List.set_cons_zero, List.set_cons_succ, List.getElem?_cons_zero, List.getElem?_cons_succ, List.length_cons, List.length_nil, List.cons_append, List.nil_append, List.replicate_succ, List.replicate_zero, Nat.reduceAdd, Nat.reduceSub, cmpD_ii_eq, cmpD_ii_ne, cmpD_ii_lt, cmpD_ii_le, cmpD_ii_gt, cmpD_ii_ge, cmpD_bb_eq, cmpD_bb_ne, List.all_cons, List.all_nil, List.any_cons, List.any_nil, Bool.or_false, Bool.or_true, Bool.true_or, Bool.false_or, Bool.and_true, Bool.true_and, Bool.and_self, isTy, wipeG, backG, Option.bind_some, Option.map_some, Bool.not_true, Bool.not_false, ite_true, ite_false, if_true, if_false, true_and, and_true, Bool.false_eq_true, evI_seq, List.isEmpty_nil, List.isEmpty_cons, List.length_map, decide_eq_true_eq, Bool.and_eq_true, b_add, b_sub, b_mul, b_div, b_mod, b_pow, b_addL, b_addT, b_mulL, sl_v, sl_f, sl_dr, sl_scr, ar_v, ar_f, ar_dr, ar_scr, rv_v, rv_f, as_i, as_b, da_nil, da_cons, sa_nil, sa_cons, bi_len, bi_max2, bi_min2, bi_maxL, bi_minL, bi_sumL, bi_allL, bi_anyL, bi_sorted, bi_sortedR, bi_listL, bi_listT, bi_tupL, bi_tupT, bi_int1, bi_int1b, bi_abs1, bi_repr, ag_n, ag_nil, ag_cons, up_l, up_t, sq_l, sq_t, ln_l, ln_t, rg_1, rg_2, en_l, zp_l, zp_t, sb_l, sb_t, ra_eq, rd_mk, st_mk, wp_mk, bk_mk, ls_mk, nl_mk, bn_mk, bl_mk, no_mk, ss_mk, is_mk, sS_mk, pS_mk, aS_mk, sv_scr, sv_v, sv_f, sr_l, sr_t, rr_l, evE_lstx, evE_dsp, evE_idx, evE_dcomp, evS_ext, ex_l, evS_augI, evXs_nil, evXs_cons, evXs_star, eS_mk, gI_mk, ke_i, ke_s, sl_fd, b_shl, b_shr, b_and, bi_min3, sortR_ints, sortRR_ints, ai_nil, ai_cons, allInts_map, evE_imax, evE_slb, evE_sla, rr_t, slb_t, sla_l, im_mk, bi_sortedT, bi_lenSet, bi_sortSet, Int.reduceLE, Int.reduceLT, Int.reduceToNat, Int.reducePow, Nat.reduceLT, Nat.reduceLeDiff, Nat.reducePow, Int.reduceNeg, Int.reduceAbs, small_lit, at_0, at_1, at_2, decide_true, decide_false, gt_iff_lt, ge_iff_le, eq_self, Bool.not_eq_true])
    refine (draws_W hDraws (by decide) hn).mono ?_
    rintro _ ⟨S0, rfl, g0⟩
    (try simp only [W_cons, W_nil, kS_nx, kS_rt, kS_bk, oQ_nx, oQ_rt, W_some, W_bind, W_map, W_guard, W_guardB, evE_comp, evS_for, evS_while, evS_mkdr, evE_var, evE_con, evE_bin, evE_neg, evE_not_, evE_cmp, evE_chain, evE_and_, evE_or_, evE_ite, evE_tup, evE_lst, evE_sub, evE_subv, evE_slice, evE_rev, evE_lenv, evE_nilv, evE_inv, evE_call, evE_bi, evE_rngl, evE_isi, evE_pop0, evE_pop1, evS_set, evS_unp, evS_par, evS_stsub, evS_app, evS_drop, evS_if_, evS_ret, evS_retN, evS_brk, evS_pass, evS_undr, evEs, evPs, evO, evI, evT, startG, List.map_cons, List.map_nil, List.set_cons_zero, List.set_cons_succ, List.getElem?_cons_zero, List.getElem?_cons_succ, List.length_cons, List.length_nil, List.cons_append, List.nil_append, List.replicate_succ, List.replicate_zero, Nat.reduceAdd, Nat.reduceSub, cmpD_ii_eq, cmpD_ii_ne, cmpD_ii_lt, cmpD_ii_le, cmpD_ii_gt, cmpD_ii_ge, cmpD_bb_eq, cmpD_bb_ne, List.all_cons, List.all_nil, List.any_cons, List.any_nil, Bool.or_false, Bool.or_true, Bool.true_or, Bool.false_or, Bool.and_true, Bool.true_and, Bool.and_self, isTy, wipeG, backG, Option.bind_some, Option.map_some, Bool.not_true, Bool.not_false, ite_true, ite_false, if_true, if_false, true_and, and_true, Bool.false_eq_true, evI_seq, List.isEmpty_nil, List.isEmpty_cons, List.length_map, decide_eq_true_eq, Bool.and_eq_true, b_add, b_sub, b_mul, b_div, b_mod, b_pow, b_addL, b_addT, b_mulL, sl_v, sl_f, sl_dr, sl_scr, ar_v, ar_f, ar_dr, ar_scr, rv_v, rv_f, as_i, as_b, da_nil, da_cons, sa_nil, sa_cons, bi_len, bi_max2, bi_min2, bi_maxL, bi_minL, bi_sumL, bi_allL, bi_anyL, bi_sorted, bi_sortedR, bi_listL, bi_listT, bi_tupL, bi_tupT, bi_int1, bi_int1b, bi_abs1, bi_repr, ag_n, ag_nil, ag_cons, up_l, up_t, sq_l, sq_t, ln_l, ln_t, rg_1, rg_2, en_l, zp_l, zp_t, sb_l, sb_t, ra_eq, rd_mk, st_mk, wp_mk, bk_mk, ls_mk, nl_mk, bn_mk, bl_mk, no_mk, ss_mk, is_mk, sS_mk, pS_mk, aS_mk, sv_scr, sv_v, sv_f, sr_l, sr_t, rr_l, evE_lstx, evE_dsp, evE_idx, evE_dcomp, evS_ext, ex_l, evS_augI, evXs_nil, evXs_cons, evXs_star, eS_mk, gI_mk, ke_i, ke_s, sl_fd, b_shl, b_shr, b_and, bi_min3, sortR_ints, sortRR_ints, ai_nil, ai_cons, allInts_map, evE_imax, evE_slb, evE_sla, rr_t, slb_t, sla_l, im_mk, bi_sortedT, bi_lenSet, bi_sortSet, Int.reduceLE, Int.reduceLT, Int.reduceToNat, Int.reducePow, Nat.reduceLT, Nat.reduceLeDiff, Nat.reducePow, Int.reduceNeg, Int.reduceAbs, small_lit, at_0, at_1, at_2, decide_true, decide_false, gt_iff_lt, ge_iff_le, eq_self, Bool.not_eq_true])
    rw [rngD_lit]
    refine W_rng (fun j s => ∃ (x2 x3 x4 x5 x6 x7 x8 x9 x10 x11 : Slot) (S' : DS), s = ⟨[.scr ns, .dr, x2, x3, x4, x5, x6, x7, x8, x9, x10, x11], some S'⟩ ∧ (Pl x8 ∧ Pl x9 ∧ Pl x10 ∧ Pl x11) ∧ Gd (1000 * j) S') ?_ ?_ ⟨_, _, _, _, _, _, _, _, _, _, S0, rfl, ⟨Pl.no, Pl.no, Pl.no, Pl.no⟩, g0.le (by decide)⟩
    · rintro j s hj ⟨x2, x3, x4, x5, x6, x7, x8, x9, x10, x11, S1, rfl, ⟨p8, p9, p10, p11⟩, g1⟩
      unfold fStep
      (try simp only [W_cons, W_nil, kS_nx, kS_rt, kS_bk, oQ_nx, oQ_rt, W_some, W_bind, W_map, W_guard, W_guardB, evE_comp, evS_for, evS_while, evS_mkdr, evE_var, evE_con, evE_bin, evE_neg, evE_not_, evE_cmp, evE_chain, evE_and_, evE_or_, evE_ite, evE_tup, evE_lst, evE_sub, evE_subv, evE_slice, evE_rev, evE_lenv, evE_nilv, evE_inv, evE_call, evE_bi, evE_rngl, evE_isi, evE_pop0, evE_pop1, evS_set, evS_unp, evS_par, evS_stsub, evS_app, evS_drop, evS_if_, evS_ret, evS_retN, evS_brk, evS_pass, evS_undr, evEs, evPs, evO, evI, evT, startG, List.map_cons, List.map_nil, List.set_cons_zero, List.set_cons_succ, List.getElem?_cons_zero, List.getElem?_cons_succ, List.length_cons, List.length_nil, List.cons_append, List.nil_append, List.replicate_succ, List.replicate_zero, Nat.reduceAdd, Nat.reduceSub, cmpD_ii_eq, cmpD_ii_ne, cmpD_ii_lt, cmpD_ii_le, cmpD_ii_gt, cmpD_ii_ge, cmpD_bb_eq, cmpD_bb_ne, List.all_cons, List.all_nil, List.any_cons, List.any_nil, Bool.or_false, Bool.or_true, Bool.true_or, Bool.false_or, Bool.and_true, Bool.true_and, Bool.and_self, isTy, wipeG, backG, Option.bind_some, Option.map_some, Bool.not_true, Bool.not_false, ite_true, ite_false, if_true, if_false, true_and, and_true, Bool.false_eq_true, evI_seq, List.isEmpty_nil, List.isEmpty_cons, List.length_map, decide_eq_true_eq, Bool.and_eq_true, b_add, b_sub, b_mul, b_div, b_mod, b_pow, b_addL, b_addT, b_mulL, sl_v, sl_f, sl_dr, sl_scr, ar_v, ar_f, ar_dr, ar_scr, rv_v, rv_f, as_i, as_b, da_nil, da_cons, sa_nil, sa_cons, bi_len, bi_max2, bi_min2, bi_maxL, bi_minL, bi_sumL, bi_allL, bi_anyL, bi_sorted, bi_sortedR, bi_listL, bi_listT, bi_tupL, bi_tupT, bi_int1, bi_int1b, bi_abs1, bi_repr, ag_n, ag_nil, ag_cons, up_l, up_t, sq_l, sq_t, ln_l, ln_t, rg_1, rg_2, en_l, zp_l, zp_t, sb_l, sb_t, ra_eq, rd_mk, st_mk, wp_mk, bk_mk, ls_mk, nl_mk, bn_mk, bl_mk, no_mk, ss_mk, is_mk, sS_mk, pS_mk, aS_mk, sv_scr, sv_v, sv_f, sr_l, sr_t, rr_l, evE_lstx, evE_dsp, evE_idx, evE_dcomp, evS_ext, ex_l, evS_augI, evXs_nil, evXs_cons, evXs_star, eS_mk, gI_mk, ke_i, ke_s, sl_fd, b_shl, b_shr, b_and, bi_min3, sortR_ints, sortRR_ints, ai_nil, ai_cons, allInts_map, evE_imax, evE_slb, evE_sla, rr_t, slb_t, sla_l, im_mk, bi_sortedT, bi_lenSet, bi_sortSet, Int.reduceLE, Int.reduceLT, Int.reduceToNat, Int.reducePow, Nat.reduceLT, Nat.reduceLeDiff, Nat.reducePow, Int.reduceNeg, Int.reduceAbs, small_lit, at_0, at_1, at_2, decide_true, decide_false, gt_iff_lt, ge_iff_le, eq_self, Bool.not_eq_true])
      refine (next_W hNext (by decide) g1 (by omega) (by omega) (by omega)).mono ?_
      rintro _ ⟨r, S2, rfl, r0, r1, g2⟩
      (try simp only [W_cons, W_nil, kS_nx, kS_rt, kS_bk, oQ_nx, oQ_rt, W_some, W_bind, W_map, W_guard, W_guardB, evE_comp, evS_for, evS_while, evS_mkdr, evE_var, evE_con, evE_bin, evE_neg, evE_not_, evE_cmp, evE_chain, evE_and_, evE_or_, evE_ite, evE_tup, evE_lst, evE_sub, evE_subv, evE_slice, evE_rev, evE_lenv, evE_nilv, evE_inv, evE_call, evE_bi, evE_rngl, evE_isi, evE_pop0, evE_pop1, evS_set, evS_unp, evS_par, evS_stsub, evS_app, evS_drop, evS_if_, evS_ret, evS_retN, evS_brk, evS_pass, evS_undr, evEs, evPs, evO, evI, evT, startG, List.map_cons, List.map_nil, List.set_cons_zero, List.set_cons_succ, List.getElem?_cons_zero, List.getElem?_cons_succ, List.length_cons, List.length_nil, List.cons_append, List.nil_append, List.replicate_succ, List.replicate_zero, Nat.reduceAdd, Nat.reduceSub, cmpD_ii_eq, cmpD_ii_ne, cmpD_ii_lt, cmpD_ii_le, cmpD_ii_gt, cmpD_ii_ge, cmpD_bb_eq, cmpD_bb_ne, List.all_cons, List.all_nil, List.any_cons, List.any_nil, Bool.or_false, Bool.or_true, Bool.true_or, Bool.false_or, Bool.and_true, Bool.true_and, Bool.and_self, isTy, wipeG, backG, Option.bind_some, Option.map_some, Bool.not_true, Bool.not_false, ite_true, ite_false, if_true, if_false, true_and, and_true, Bool.false_eq_true, evI_seq, List.isEmpty_nil, List.isEmpty_cons, List.length_map, decide_eq_true_eq, Bool.and_eq_true, b_add, b_sub, b_mul, b_div, b_mod, b_pow, b_addL, b_addT, b_mulL, sl_v, sl_f, sl_dr, sl_scr, ar_v, ar_f, ar_dr, ar_scr, rv_v, rv_f, as_i, as_b, da_nil, da_cons, sa_nil, sa_cons, bi_len, bi_max2, bi_min2, bi_maxL, bi_minL, bi_sumL, bi_allL, bi_anyL, bi_sorted, bi_sortedR, bi_listL, bi_listT, bi_tupL, bi_tupT, bi_int1, bi_int1b, bi_abs1, bi_repr, ag_n, ag_nil, ag_cons, up_l, up_t, sq_l, sq_t, ln_l, ln_t, rg_1, rg_2, en_l, zp_l, zp_t, sb_l, sb_t, ra_eq, rd_mk, st_mk, wp_mk, bk_mk, ls_mk, nl_mk, bn_mk, bl_mk, no_mk, ss_mk, is_mk, sS_mk, pS_mk, aS_mk, sv_scr, sv_v, sv_f, sr_l, sr_t, rr_l, evE_lstx, evE_dsp, evE_idx, evE_dcomp, evS_ext, ex_l, evS_augI, evXs_nil, evXs_cons, evXs_star, eS_mk, gI_mk, ke_i, ke_s, sl_fd, b_shl, b_shr, b_and, bi_min3, sortR_ints, sortRR_ints, ai_nil, ai_cons, allInts_map, evE_imax, evE_slb, evE_sla, rr_t, slb_t, sla_l, im_mk, bi_sortedT, bi_lenSet, bi_sortSet, Int.reduceLE, Int.reduceLT, Int.reduceToNat, Int.reducePow, Nat.reduceLT, Nat.reduceLeDiff, Nat.reducePow, Int.reduceNeg, Int.reduceAbs, small_lit, at_0, at_1, at_2, decide_true, decide_false, gt_iff_lt, ge_iff_le, eq_self, Bool.not_eq_true])
      rw [show ([PyData.int 0, PyData.int 1, PyData.int 2, PyData.int 3, PyData.int 5, PyData.int 9, PyData.int 100, PyData.int (1000000000 - r)] : List PyData) = ([0, 1, 2, 3, 5, 9, 100, 1000000000 - r] : List Int).map PyData.int from rfl]
      refine (one_W hNext hOne (by decide) g2 (by omega) (by simp) (by simp)).mono ?_
      rintro _ ⟨N, S3, rfl, hN, g3⟩
      have hN : 0 ≤ N ∧ N ≤ 1000000000 := by
        simp only [List.mem_cons, List.not_mem_nil, or_false] at hN
        omega
      (try simp only [W_cons, W_nil, kS_nx, kS_rt, kS_bk, oQ_nx, oQ_rt, W_some, W_bind, W_map, W_guard, W_guardB, evE_comp, evS_for, evS_while, evS_mkdr, evE_var, evE_con, evE_bin, evE_neg, evE_not_, evE_cmp, evE_chain, evE_and_, evE_or_, evE_ite, evE_tup, evE_lst, evE_sub, evE_subv, evE_slice, evE_rev, evE_lenv, evE_nilv, evE_inv, evE_call, evE_bi, evE_rngl, evE_isi, evE_pop0, evE_pop1, evS_set, evS_unp, evS_par, evS_stsub, evS_app, evS_drop, evS_if_, evS_ret, evS_retN, evS_brk, evS_pass, evS_undr, evEs, evPs, evO, evI, evT, startG, List.map_cons, List.map_nil, List.set_cons_zero, List.set_cons_succ, List.getElem?_cons_zero, List.getElem?_cons_succ, List.length_cons, List.length_nil, List.cons_append, List.nil_append, List.replicate_succ, List.replicate_zero, Nat.reduceAdd, Nat.reduceSub, cmpD_ii_eq, cmpD_ii_ne, cmpD_ii_lt, cmpD_ii_le, cmpD_ii_gt, cmpD_ii_ge, cmpD_bb_eq, cmpD_bb_ne, List.all_cons, List.all_nil, List.any_cons, List.any_nil, Bool.or_false, Bool.or_true, Bool.true_or, Bool.false_or, Bool.and_true, Bool.true_and, Bool.and_self, isTy, wipeG, backG, Option.bind_some, Option.map_some, Bool.not_true, Bool.not_false, ite_true, ite_false, if_true, if_false, true_and, and_true, Bool.false_eq_true, evI_seq, List.isEmpty_nil, List.isEmpty_cons, List.length_map, decide_eq_true_eq, Bool.and_eq_true, b_add, b_sub, b_mul, b_div, b_mod, b_pow, b_addL, b_addT, b_mulL, sl_v, sl_f, sl_dr, sl_scr, ar_v, ar_f, ar_dr, ar_scr, rv_v, rv_f, as_i, as_b, da_nil, da_cons, sa_nil, sa_cons, bi_len, bi_max2, bi_min2, bi_maxL, bi_minL, bi_sumL, bi_allL, bi_anyL, bi_sorted, bi_sortedR, bi_listL, bi_listT, bi_tupL, bi_tupT, bi_int1, bi_int1b, bi_abs1, bi_repr, ag_n, ag_nil, ag_cons, up_l, up_t, sq_l, sq_t, ln_l, ln_t, rg_1, rg_2, en_l, zp_l, zp_t, sb_l, sb_t, ra_eq, rd_mk, st_mk, wp_mk, bk_mk, ls_mk, nl_mk, bn_mk, bl_mk, no_mk, ss_mk, is_mk, sS_mk, pS_mk, aS_mk, sv_scr, sv_v, sv_f, sr_l, sr_t, rr_l, evE_lstx, evE_dsp, evE_idx, evE_dcomp, evS_ext, ex_l, evS_augI, evXs_nil, evXs_cons, evXs_star, eS_mk, gI_mk, ke_i, ke_s, sl_fd, b_shl, b_shr, b_and, bi_min3, sortR_ints, sortRR_ints, ai_nil, ai_cons, allInts_map, evE_imax, evE_slb, evE_sla, rr_t, slb_t, sla_l, im_mk, bi_sortedT, bi_lenSet, bi_sortSet, Int.reduceLE, Int.reduceLT, Int.reduceToNat, Int.reducePow, Nat.reduceLT, Nat.reduceLeDiff, Nat.reducePow, Int.reduceNeg, Int.reduceAbs, small_lit, at_0, at_1, at_2, decide_true, decide_false, gt_iff_lt, ge_iff_le, eq_self, Bool.not_eq_true])
      refine (next_W hNext (by decide) g3 (by omega) (by omega) (by omega)).mono ?_
      rintro _ ⟨m, S4, rfl, m0, m1, g4⟩
      obtain ⟨m, hm⟩ : ∃ q : Nat, 2 + m = ((q + 1 : Nat) : Int) := ⟨(1 + m).toNat, by omega⟩
      (try simp only [W_cons, W_nil, kS_nx, kS_rt, kS_bk, oQ_nx, oQ_rt, W_some, W_bind, W_map, W_guard, W_guardB, evE_comp, evS_for, evS_while, evS_mkdr, evE_var, evE_con, evE_bin, evE_neg, evE_not_, evE_cmp, evE_chain, evE_and_, evE_or_, evE_ite, evE_tup, evE_lst, evE_sub, evE_subv, evE_slice, evE_rev, evE_lenv, evE_nilv, evE_inv, evE_call, evE_bi, evE_rngl, evE_isi, evE_pop0, evE_pop1, evS_set, evS_unp, evS_par, evS_stsub, evS_app, evS_drop, evS_if_, evS_ret, evS_retN, evS_brk, evS_pass, evS_undr, evEs, evPs, evO, evI, evT, startG, List.map_cons, List.map_nil, List.set_cons_zero, List.set_cons_succ, List.getElem?_cons_zero, List.getElem?_cons_succ, List.length_cons, List.length_nil, List.cons_append, List.nil_append, List.replicate_succ, List.replicate_zero, Nat.reduceAdd, Nat.reduceSub, cmpD_ii_eq, cmpD_ii_ne, cmpD_ii_lt, cmpD_ii_le, cmpD_ii_gt, cmpD_ii_ge, cmpD_bb_eq, cmpD_bb_ne, List.all_cons, List.all_nil, List.any_cons, List.any_nil, Bool.or_false, Bool.or_true, Bool.true_or, Bool.false_or, Bool.and_true, Bool.true_and, Bool.and_self, isTy, wipeG, backG, Option.bind_some, Option.map_some, Bool.not_true, Bool.not_false, ite_true, ite_false, if_true, if_false, true_and, and_true, Bool.false_eq_true, evI_seq, List.isEmpty_nil, List.isEmpty_cons, List.length_map, decide_eq_true_eq, Bool.and_eq_true, b_add, b_sub, b_mul, b_div, b_mod, b_pow, b_addL, b_addT, b_mulL, sl_v, sl_f, sl_dr, sl_scr, ar_v, ar_f, ar_dr, ar_scr, rv_v, rv_f, as_i, as_b, da_nil, da_cons, sa_nil, sa_cons, bi_len, bi_max2, bi_min2, bi_maxL, bi_minL, bi_sumL, bi_allL, bi_anyL, bi_sorted, bi_sortedR, bi_listL, bi_listT, bi_tupL, bi_tupT, bi_int1, bi_int1b, bi_abs1, bi_repr, ag_n, ag_nil, ag_cons, up_l, up_t, sq_l, sq_t, ln_l, ln_t, rg_1, rg_2, en_l, zp_l, zp_t, sb_l, sb_t, ra_eq, rd_mk, st_mk, wp_mk, bk_mk, ls_mk, nl_mk, bn_mk, bl_mk, no_mk, ss_mk, is_mk, sS_mk, pS_mk, aS_mk, sv_scr, sv_v, sv_f, sr_l, sr_t, rr_l, evE_lstx, evE_dsp, evE_idx, evE_dcomp, evS_ext, ex_l, evS_augI, evXs_nil, evXs_cons, evXs_star, eS_mk, gI_mk, ke_i, ke_s, sl_fd, b_shl, b_shr, b_and, bi_min3, sortR_ints, sortRR_ints, ai_nil, ai_cons, allInts_map, evE_imax, evE_slb, evE_sla, rr_t, slb_t, sla_l, im_mk, bi_sortedT, bi_lenSet, bi_sortSet, Int.reduceLE, Int.reduceLT, Int.reduceToNat, Int.reducePow, Nat.reduceLT, Nat.reduceLeDiff, Nat.reducePow, Int.reduceNeg, Int.reduceAbs, small_lit, at_0, at_1, at_2, decide_true, decide_false, gt_iff_lt, ge_iff_le, eq_self, Bool.not_eq_true, hm])
      refine (grown_W hfu m (by omega) (by omega) g4 (by omega) hN.1 hN.2 (by omega) (by omega)).mono ?_
      rintro _ ⟨rows, S5, rfl, B, hl, rl, g5⟩
      have e0 : (0 : Int) + 1 + (rows.length : Int) = ((rows.length + 1 : Nat) : Int) := by omega
      (try simp only [W_cons, W_nil, kS_nx, kS_rt, kS_bk, oQ_nx, oQ_rt, W_some, W_bind, W_map, W_guard, W_guardB, evE_comp, evS_for, evS_while, evS_mkdr, evE_var, evE_con, evE_bin, evE_neg, evE_not_, evE_cmp, evE_chain, evE_and_, evE_or_, evE_ite, evE_tup, evE_lst, evE_sub, evE_subv, evE_slice, evE_rev, evE_lenv, evE_nilv, evE_inv, evE_call, evE_bi, evE_rngl, evE_isi, evE_pop0, evE_pop1, evS_set, evS_unp, evS_par, evS_stsub, evS_app, evS_drop, evS_if_, evS_ret, evS_retN, evS_brk, evS_pass, evS_undr, evEs, evPs, evO, evI, evT, startG, List.map_cons, List.map_nil, List.set_cons_zero, List.set_cons_succ, List.getElem?_cons_zero, List.getElem?_cons_succ, List.length_cons, List.length_nil, List.cons_append, List.nil_append, List.replicate_succ, List.replicate_zero, Nat.reduceAdd, Nat.reduceSub, cmpD_ii_eq, cmpD_ii_ne, cmpD_ii_lt, cmpD_ii_le, cmpD_ii_gt, cmpD_ii_ge, cmpD_bb_eq, cmpD_bb_ne, List.all_cons, List.all_nil, List.any_cons, List.any_nil, Bool.or_false, Bool.or_true, Bool.true_or, Bool.false_or, Bool.and_true, Bool.true_and, Bool.and_self, isTy, wipeG, backG, Option.bind_some, Option.map_some, Bool.not_true, Bool.not_false, ite_true, ite_false, if_true, if_false, true_and, and_true, Bool.false_eq_true, evI_seq, List.isEmpty_nil, List.isEmpty_cons, List.length_map, decide_eq_true_eq, Bool.and_eq_true, b_add, b_sub, b_mul, b_div, b_mod, b_pow, b_addL, b_addT, b_mulL, sl_v, sl_f, sl_dr, sl_scr, ar_v, ar_f, ar_dr, ar_scr, rv_v, rv_f, as_i, as_b, da_nil, da_cons, sa_nil, sa_cons, bi_len, bi_max2, bi_min2, bi_maxL, bi_minL, bi_sumL, bi_allL, bi_anyL, bi_sorted, bi_sortedR, bi_listL, bi_listT, bi_tupL, bi_tupT, bi_int1, bi_int1b, bi_abs1, bi_repr, ag_n, ag_nil, ag_cons, up_l, up_t, sq_l, sq_t, ln_l, ln_t, rg_1, rg_2, en_l, zp_l, zp_t, sb_l, sb_t, ra_eq, rd_mk, st_mk, wp_mk, bk_mk, ls_mk, nl_mk, bn_mk, bl_mk, no_mk, ss_mk, is_mk, sS_mk, pS_mk, aS_mk, sv_scr, sv_v, sv_f, sr_l, sr_t, rr_l, evE_lstx, evE_dsp, evE_idx, evE_dcomp, evS_ext, ex_l, evS_augI, evXs_nil, evXs_cons, evXs_star, eS_mk, gI_mk, ke_i, ke_s, sl_fd, b_shl, b_shr, b_and, bi_min3, sortR_ints, sortRR_ints, ai_nil, ai_cons, allInts_map, evE_imax, evE_slb, evE_sla, rr_t, slb_t, sla_l, im_mk, bi_sortedT, bi_lenSet, bi_sortSet, Int.reduceLE, Int.reduceLT, Int.reduceToNat, Int.reducePow, Nat.reduceLT, Nat.reduceLeDiff, Nat.reducePow, Int.reduceNeg, Int.reduceAbs, small_lit, at_0, at_1, at_2, decide_true, decide_false, gt_iff_lt, ge_iff_le, eq_self, Bool.not_eq_true, e0])
      refine (shuffled_W hNext hShuffled (by decide) g5 (by omega) (by omega)).mono ?_
      rintro _ ⟨vs, S6, rfl, pv, g6⟩
      have vl : vs.length = rows.length + 1 := by rw [pv.length_eq, rngI_len]
      (try simp only [W_cons, W_nil, kS_nx, kS_rt, kS_bk, oQ_nx, oQ_rt, W_some, W_bind, W_map, W_guard, W_guardB, evE_comp, evS_for, evS_while, evS_mkdr, evE_var, evE_con, evE_bin, evE_neg, evE_not_, evE_cmp, evE_chain, evE_and_, evE_or_, evE_ite, evE_tup, evE_lst, evE_sub, evE_subv, evE_slice, evE_rev, evE_lenv, evE_nilv, evE_inv, evE_call, evE_bi, evE_rngl, evE_isi, evE_pop0, evE_pop1, evS_set, evS_unp, evS_par, evS_stsub, evS_app, evS_drop, evS_if_, evS_ret, evS_retN, evS_brk, evS_pass, evS_undr, evEs, evPs, evO, evI, evT, startG, List.map_cons, List.map_nil, List.set_cons_zero, List.set_cons_succ, List.getElem?_cons_zero, List.getElem?_cons_succ, List.length_cons, List.length_nil, List.cons_append, List.nil_append, List.replicate_succ, List.replicate_zero, Nat.reduceAdd, Nat.reduceSub, cmpD_ii_eq, cmpD_ii_ne, cmpD_ii_lt, cmpD_ii_le, cmpD_ii_gt, cmpD_ii_ge, cmpD_bb_eq, cmpD_bb_ne, List.all_cons, List.all_nil, List.any_cons, List.any_nil, Bool.or_false, Bool.or_true, Bool.true_or, Bool.false_or, Bool.and_true, Bool.true_and, Bool.and_self, isTy, wipeG, backG, Option.bind_some, Option.map_some, Bool.not_true, Bool.not_false, ite_true, ite_false, if_true, if_false, true_and, and_true, Bool.false_eq_true, evI_seq, List.isEmpty_nil, List.isEmpty_cons, List.length_map, decide_eq_true_eq, Bool.and_eq_true, b_add, b_sub, b_mul, b_div, b_mod, b_pow, b_addL, b_addT, b_mulL, sl_v, sl_f, sl_dr, sl_scr, ar_v, ar_f, ar_dr, ar_scr, rv_v, rv_f, as_i, as_b, da_nil, da_cons, sa_nil, sa_cons, bi_len, bi_max2, bi_min2, bi_maxL, bi_minL, bi_sumL, bi_allL, bi_anyL, bi_sorted, bi_sortedR, bi_listL, bi_listT, bi_tupL, bi_tupT, bi_int1, bi_int1b, bi_abs1, bi_repr, ag_n, ag_nil, ag_cons, up_l, up_t, sq_l, sq_t, ln_l, ln_t, rg_1, rg_2, en_l, zp_l, zp_t, sb_l, sb_t, ra_eq, rd_mk, st_mk, wp_mk, bk_mk, ls_mk, nl_mk, bn_mk, bl_mk, no_mk, ss_mk, is_mk, sS_mk, pS_mk, aS_mk, sv_scr, sv_v, sv_f, sr_l, sr_t, rr_l, evE_lstx, evE_dsp, evE_idx, evE_dcomp, evS_ext, ex_l, evS_augI, evXs_nil, evXs_cons, evXs_star, eS_mk, gI_mk, ke_i, ke_s, sl_fd, b_shl, b_shr, b_and, bi_min3, sortR_ints, sortRR_ints, ai_nil, ai_cons, allInts_map, evE_imax, evE_slb, evE_sla, rr_t, slb_t, sla_l, im_mk, bi_sortedT, bi_lenSet, bi_sortSet, Int.reduceLE, Int.reduceLT, Int.reduceToNat, Int.reducePow, Nat.reduceLT, Nat.reduceLeDiff, Nat.reducePow, Int.reduceNeg, Int.reduceAbs, small_lit, at_0, at_1, at_2, decide_true, decide_false, gt_iff_lt, ge_iff_le, eq_self, Bool.not_eq_true])
      refine ⟨⟨decide_eq_true (by unfold LIM; omega), p8.ok, p9.ok, p10.ok, p11.ok⟩, ?_⟩
      refine W.mono (W_compF (l := rows) (f := rwD) (G := fun r => [edD (rn (sg vs) (toE r))]) (fun s => ∃ y8 y9 y10 y11 : Slot, s = ⟨[.scr ns, .dr, .v (.int (j : Nat)), .v (.int N), .v (.list (rows.map rwD)), .v (.int ((rows.length + 1 : Nat) : Int)), .v (.list (vs.map .int)), x7, y8, y9, y10, y11], some S6⟩) ?_ ⟨_, _, _, _, rfl⟩) ?_
      · rintro r hr acc s ⟨y8, y9, y10, y11, rfl⟩
        have rb := B.rng hr
        have rp := B.pa r hr
        have a1 := sg_at (vs := vs) (v := r.1) (by omega) (by omega)
        have a2 := sg_at (vs := vs) (v := r.2.1) (by omega) (by omega)
        unfold cStep rwD
        (try simp only [W_cons, W_nil, kS_nx, kS_rt, kS_bk, oQ_nx, oQ_rt, W_some, W_bind, W_map, W_guard, W_guardB, evE_comp, evS_for, evS_while, evS_mkdr, evE_var, evE_con, evE_bin, evE_neg, evE_not_, evE_cmp, evE_chain, evE_and_, evE_or_, evE_ite, evE_tup, evE_lst, evE_sub, evE_subv, evE_slice, evE_rev, evE_lenv, evE_nilv, evE_inv, evE_call, evE_bi, evE_rngl, evE_isi, evE_pop0, evE_pop1, evS_set, evS_unp, evS_par, evS_stsub, evS_app, evS_drop, evS_if_, evS_ret, evS_retN, evS_brk, evS_pass, evS_undr, evEs, evPs, evO, evI, evT, startG, List.map_cons, List.map_nil, List.set_cons_zero, List.set_cons_succ, List.getElem?_cons_zero, List.getElem?_cons_succ, List.length_cons, List.length_nil, List.cons_append, List.nil_append, List.replicate_succ, List.replicate_zero, Nat.reduceAdd, Nat.reduceSub, cmpD_ii_eq, cmpD_ii_ne, cmpD_ii_lt, cmpD_ii_le, cmpD_ii_gt, cmpD_ii_ge, cmpD_bb_eq, cmpD_bb_ne, List.all_cons, List.all_nil, List.any_cons, List.any_nil, Bool.or_false, Bool.or_true, Bool.true_or, Bool.false_or, Bool.and_true, Bool.true_and, Bool.and_self, isTy, wipeG, backG, Option.bind_some, Option.map_some, Bool.not_true, Bool.not_false, ite_true, ite_false, if_true, if_false, true_and, and_true, Bool.false_eq_true, evI_seq, List.isEmpty_nil, List.isEmpty_cons, List.length_map, decide_eq_true_eq, Bool.and_eq_true, b_add, b_sub, b_mul, b_div, b_mod, b_pow, b_addL, b_addT, b_mulL, sl_v, sl_f, sl_dr, sl_scr, ar_v, ar_f, ar_dr, ar_scr, rv_v, rv_f, as_i, as_b, da_nil, da_cons, sa_nil, sa_cons, bi_len, bi_max2, bi_min2, bi_maxL, bi_minL, bi_sumL, bi_allL, bi_anyL, bi_sorted, bi_sortedR, bi_listL, bi_listT, bi_tupL, bi_tupT, bi_int1, bi_int1b, bi_abs1, bi_repr, ag_n, ag_nil, ag_cons, up_l, up_t, sq_l, sq_t, ln_l, ln_t, rg_1, rg_2, en_l, zp_l, zp_t, sb_l, sb_t, ra_eq, rd_mk, st_mk, wp_mk, bk_mk, ls_mk, nl_mk, bn_mk, bl_mk, no_mk, ss_mk, is_mk, sS_mk, pS_mk, aS_mk, sv_scr, sv_v, sv_f, sr_l, sr_t, rr_l, evE_lstx, evE_dsp, evE_idx, evE_dcomp, evS_ext, ex_l, evS_augI, evXs_nil, evXs_cons, evXs_star, eS_mk, gI_mk, ke_i, ke_s, sl_fd, b_shl, b_shr, b_and, bi_min3, sortR_ints, sortRR_ints, ai_nil, ai_cons, allInts_map, evE_imax, evE_slb, evE_sla, rr_t, slb_t, sla_l, im_mk, bi_sortedT, bi_lenSet, bi_sortSet, Int.reduceLE, Int.reduceLT, Int.reduceToNat, Int.reducePow, Nat.reduceLT, Nat.reduceLeDiff, Nat.reducePow, Int.reduceNeg, Int.reduceAbs, small_lit, at_0, at_1, at_2, decide_true, decide_false, gt_iff_lt, ge_iff_le, eq_self, Bool.not_eq_true, a1, a2])
        exact ⟨rfl, _, _, _, _, rfl⟩
      rintro ⟨l, s⟩ ⟨h1, y8, y9, y10, y11, rfl⟩
      have h1 : l = _ := h1
      rw [List.nil_append, flat_one', show (rows.map fun r => edD (rn (sg vs) (toE r))) = ((rows.map toE).map (rn (sg vs))).map edD by rw [List.map_map, List.map_map]; rfl] at h1
      subst h1
      have tg0 := B.tg rows.length (Nat.le_refl _)
      rw [List.take_length] at tg0
      have tg1 := tg0.name pv
      have t0 := tg0.tr
      have t1 := tg1.tr
      have tok := tg1.ok (by omega)
      have nee := B.need t0 rfl (fun x y d => ed_made)
      have inj : ∀ x y, (0 ≤ x ∧ x < ((rows.length + 1 : Nat) : Int)) → (0 ≤ y ∧ y < ((rows.length + 1 : Nat) : Int)) → sg vs x = sg vs y → x = y := fun x y hx hy h => sg_inj' pv hx hy h
      have al1 : ∀ x y c, Ed (sortE ((rows.map toE).map nrm)) x y c → Ed (sortE (((rows.map toE).map (rn (sg vs))).map nrm)) (sg vs x) (sg vs y) c := fun x y c h => ed_made.mpr (ed_rn.mpr ⟨x, y, ed_made.mp h, rfl, rfl⟩)
      have al2 : ∀ x y' c, (0 ≤ x ∧ x < ((rows.length + 1 : Nat) : Int)) → Ed (sortE (((rows.map toE).map (rn (sg vs))).map nrm)) (sg vs x) y' c → ∃ y, Ed (sortE ((rows.map toE).map nrm)) x y c ∧ sg vs y = y' := fun x y' c hx h => by
        obtain ⟨u, w, h5, e1, e2⟩ := ed_rn.mp (ed_made.mp h)
        have h6 := ed_made.mpr h5
        have := inj u x (t0.adj h6.adj).1 hx e1
        rw [this] at h6
        exact ⟨w, h6, e2⟩
      have nd0 := nd_alike t0 t1 inj al1 al2 (x := 0) (by omega)
      have bo0 : ∀ r ∈ rows, bo (rows.length + 1) (sortE (((rows.map toE).map (rn (sg vs))).map nrm)) (sg vs r.2.1) (some (sg vs r.1)) = r.2.2.2 := fun r hr => by
        have := bo_alike t0 t1 inj al1 al2 (x := r.2.1) (aw := some r.1) (t0.adj (nee.1 r hr)).1 (fun u e => by cases e; exact nee.1 r hr)
        rw [← nee.2.1 r hr, this]
        rfl
      have ad0 : ∀ r ∈ rows, Adj (sortE (((rows.map toE).map (rn (sg vs))).map nrm)) (sg vs r.2.1) (sg vs r.1) := fun r hr => by
        obtain ⟨d, h⟩ := (nee.1 r hr).ed
        exact (al1 _ _ _ h).adj
      rw [nee.2.2, hl] at nd0
      (try simp only [W_cons, W_nil, kS_nx, kS_rt, kS_bk, oQ_nx, oQ_rt, W_some, W_bind, W_map, W_guard, W_guardB, evE_comp, evS_for, evS_while, evS_mkdr, evE_var, evE_con, evE_bin, evE_neg, evE_not_, evE_cmp, evE_chain, evE_and_, evE_or_, evE_ite, evE_tup, evE_lst, evE_sub, evE_subv, evE_slice, evE_rev, evE_lenv, evE_nilv, evE_inv, evE_call, evE_bi, evE_rngl, evE_isi, evE_pop0, evE_pop1, evS_set, evS_unp, evS_par, evS_stsub, evS_app, evS_drop, evS_if_, evS_ret, evS_retN, evS_brk, evS_pass, evS_undr, evEs, evPs, evO, evI, evT, startG, List.map_cons, List.map_nil, List.set_cons_zero, List.set_cons_succ, List.getElem?_cons_zero, List.getElem?_cons_succ, List.length_cons, List.length_nil, List.cons_append, List.nil_append, List.replicate_succ, List.replicate_zero, Nat.reduceAdd, Nat.reduceSub, cmpD_ii_eq, cmpD_ii_ne, cmpD_ii_lt, cmpD_ii_le, cmpD_ii_gt, cmpD_ii_ge, cmpD_bb_eq, cmpD_bb_ne, List.all_cons, List.all_nil, List.any_cons, List.any_nil, Bool.or_false, Bool.or_true, Bool.true_or, Bool.false_or, Bool.and_true, Bool.true_and, Bool.and_self, isTy, wipeG, backG, Option.bind_some, Option.map_some, Bool.not_true, Bool.not_false, ite_true, ite_false, if_true, if_false, true_and, and_true, Bool.false_eq_true, evI_seq, List.isEmpty_nil, List.isEmpty_cons, List.length_map, decide_eq_true_eq, Bool.and_eq_true, b_add, b_sub, b_mul, b_div, b_mod, b_pow, b_addL, b_addT, b_mulL, sl_v, sl_f, sl_dr, sl_scr, ar_v, ar_f, ar_dr, ar_scr, rv_v, rv_f, as_i, as_b, da_nil, da_cons, sa_nil, sa_cons, bi_len, bi_max2, bi_min2, bi_maxL, bi_minL, bi_sumL, bi_allL, bi_anyL, bi_sorted, bi_sortedR, bi_listL, bi_listT, bi_tupL, bi_tupT, bi_int1, bi_int1b, bi_abs1, bi_repr, ag_n, ag_nil, ag_cons, up_l, up_t, sq_l, sq_t, ln_l, ln_t, rg_1, rg_2, en_l, zp_l, zp_t, sb_l, sb_t, ra_eq, rd_mk, st_mk, wp_mk, bk_mk, ls_mk, nl_mk, bn_mk, bl_mk, no_mk, ss_mk, is_mk, sS_mk, pS_mk, aS_mk, sv_scr, sv_v, sv_f, sr_l, sr_t, rr_l, evE_lstx, evE_dsp, evE_idx, evE_dcomp, evS_ext, ex_l, evS_augI, evXs_nil, evXs_cons, evXs_star, eS_mk, gI_mk, ke_i, ke_s, sl_fd, b_shl, b_shr, b_and, bi_min3, sortR_ints, sortRR_ints, ai_nil, ai_cons, allInts_map, evE_imax, evE_slb, evE_sla, rr_t, slb_t, sla_l, im_mk, bi_sortedT, bi_lenSet, bi_sortSet, Int.reduceLE, Int.reduceLT, Int.reduceToNat, Int.reducePow, Nat.reduceLT, Nat.reduceLeDiff, Nat.reducePow, Int.reduceNeg, Int.reduceAbs, small_lit, at_0, at_1, at_2, decide_true, decide_false, gt_iff_lt, ge_iff_le, eq_self, Bool.not_eq_true])
      refine (made_W hMade (by decide) tok.1 tok.2).mono ?_
      rintro _ rfl
      generalize sortE (((rows.map toE).map (rn (sg vs))).map nrm) = es at *
      have a0 := sg_at (vs := vs) (v := 0) (by omega) (by omega)
      (try simp only [W_cons, W_nil, kS_nx, kS_rt, kS_bk, oQ_nx, oQ_rt, W_some, W_bind, W_map, W_guard, W_guardB, evE_comp, evS_for, evS_while, evS_mkdr, evE_var, evE_con, evE_bin, evE_neg, evE_not_, evE_cmp, evE_chain, evE_and_, evE_or_, evE_ite, evE_tup, evE_lst, evE_sub, evE_subv, evE_slice, evE_rev, evE_lenv, evE_nilv, evE_inv, evE_call, evE_bi, evE_rngl, evE_isi, evE_pop0, evE_pop1, evS_set, evS_unp, evS_par, evS_stsub, evS_app, evS_drop, evS_if_, evS_ret, evS_retN, evS_brk, evS_pass, evS_undr, evEs, evPs, evO, evI, evT, startG, List.map_cons, List.map_nil, List.set_cons_zero, List.set_cons_succ, List.getElem?_cons_zero, List.getElem?_cons_succ, List.length_cons, List.length_nil, List.cons_append, List.nil_append, List.replicate_succ, List.replicate_zero, Nat.reduceAdd, Nat.reduceSub, cmpD_ii_eq, cmpD_ii_ne, cmpD_ii_lt, cmpD_ii_le, cmpD_ii_gt, cmpD_ii_ge, cmpD_bb_eq, cmpD_bb_ne, List.all_cons, List.all_nil, List.any_cons, List.any_nil, Bool.or_false, Bool.or_true, Bool.true_or, Bool.false_or, Bool.and_true, Bool.true_and, Bool.and_self, isTy, wipeG, backG, Option.bind_some, Option.map_some, Bool.not_true, Bool.not_false, ite_true, ite_false, if_true, if_false, true_and, and_true, Bool.false_eq_true, evI_seq, List.isEmpty_nil, List.isEmpty_cons, List.length_map, decide_eq_true_eq, Bool.and_eq_true, b_add, b_sub, b_mul, b_div, b_mod, b_pow, b_addL, b_addT, b_mulL, sl_v, sl_f, sl_dr, sl_scr, ar_v, ar_f, ar_dr, ar_scr, rv_v, rv_f, as_i, as_b, da_nil, da_cons, sa_nil, sa_cons, bi_len, bi_max2, bi_min2, bi_maxL, bi_minL, bi_sumL, bi_allL, bi_anyL, bi_sorted, bi_sortedR, bi_listL, bi_listT, bi_tupL, bi_tupT, bi_int1, bi_int1b, bi_abs1, bi_repr, ag_n, ag_nil, ag_cons, up_l, up_t, sq_l, sq_t, ln_l, ln_t, rg_1, rg_2, en_l, zp_l, zp_t, sb_l, sb_t, ra_eq, rd_mk, st_mk, wp_mk, bk_mk, ls_mk, nl_mk, bn_mk, bl_mk, no_mk, ss_mk, is_mk, sS_mk, pS_mk, aS_mk, sv_scr, sv_v, sv_f, sr_l, sr_t, rr_l, evE_lstx, evE_dsp, evE_idx, evE_dcomp, evS_ext, ex_l, evS_augI, evXs_nil, evXs_cons, evXs_star, eS_mk, gI_mk, ke_i, ke_s, sl_fd, b_shl, b_shr, b_and, bi_min3, sortR_ints, sortRR_ints, ai_nil, ai_cons, allInts_map, evE_imax, evE_slb, evE_sla, rr_t, slb_t, sla_l, im_mk, bi_sortedT, bi_lenSet, bi_sortSet, Int.reduceLE, Int.reduceLT, Int.reduceToNat, Int.reducePow, Nat.reduceLT, Nat.reduceLeDiff, Nat.reducePow, Int.reduceNeg, Int.reduceAbs, small_lit, at_0, at_1, at_2, decide_true, decide_false, gt_iff_lt, ge_iff_le, eq_self, Bool.not_eq_true, a0])
      refine (from_W pn (by decide) t1 (by omega)).mono ?_
      rintro _ rfl
      rw [← nd0]
      (try simp only [W_cons, W_nil, kS_nx, kS_rt, kS_bk, oQ_nx, oQ_rt, W_some, W_bind, W_map, W_guard, W_guardB, evE_comp, evS_for, evS_while, evS_mkdr, evE_var, evE_con, evE_bin, evE_neg, evE_not_, evE_cmp, evE_chain, evE_and_, evE_or_, evE_ite, evE_tup, evE_lst, evE_sub, evE_subv, evE_slice, evE_rev, evE_lenv, evE_nilv, evE_inv, evE_call, evE_bi, evE_rngl, evE_isi, evE_pop0, evE_pop1, evS_set, evS_unp, evS_par, evS_stsub, evS_app, evS_drop, evS_if_, evS_ret, evS_retN, evS_brk, evS_pass, evS_undr, evEs, evPs, evO, evI, evT, startG, List.map_cons, List.map_nil, List.set_cons_zero, List.set_cons_succ, List.getElem?_cons_zero, List.getElem?_cons_succ, List.length_cons, List.length_nil, List.cons_append, List.nil_append, List.replicate_succ, List.replicate_zero, Nat.reduceAdd, Nat.reduceSub, cmpD_ii_eq, cmpD_ii_ne, cmpD_ii_lt, cmpD_ii_le, cmpD_ii_gt, cmpD_ii_ge, cmpD_bb_eq, cmpD_bb_ne, List.all_cons, List.all_nil, List.any_cons, List.any_nil, Bool.or_false, Bool.or_true, Bool.true_or, Bool.false_or, Bool.and_true, Bool.true_and, Bool.and_self, isTy, wipeG, backG, Option.bind_some, Option.map_some, Bool.not_true, Bool.not_false, ite_true, ite_false, if_true, if_false, true_and, and_true, Bool.false_eq_true, evI_seq, List.isEmpty_nil, List.isEmpty_cons, List.length_map, decide_eq_true_eq, Bool.and_eq_true, b_add, b_sub, b_mul, b_div, b_mod, b_pow, b_addL, b_addT, b_mulL, sl_v, sl_f, sl_dr, sl_scr, ar_v, ar_f, ar_dr, ar_scr, rv_v, rv_f, as_i, as_b, da_nil, da_cons, sa_nil, sa_cons, bi_len, bi_max2, bi_min2, bi_maxL, bi_minL, bi_sumL, bi_allL, bi_anyL, bi_sorted, bi_sortedR, bi_listL, bi_listT, bi_tupL, bi_tupT, bi_int1, bi_int1b, bi_abs1, bi_repr, ag_n, ag_nil, ag_cons, up_l, up_t, sq_l, sq_t, ln_l, ln_t, rg_1, rg_2, en_l, zp_l, zp_t, sb_l, sb_t, ra_eq, rd_mk, st_mk, wp_mk, bk_mk, ls_mk, nl_mk, bn_mk, bl_mk, no_mk, ss_mk, is_mk, sS_mk, pS_mk, aS_mk, sv_scr, sv_v, sv_f, sr_l, sr_t, rr_l, evE_lstx, evE_dsp, evE_idx, evE_dcomp, evS_ext, ex_l, evS_augI, evXs_nil, evXs_cons, evXs_star, eS_mk, gI_mk, ke_i, ke_s, sl_fd, b_shl, b_shr, b_and, bi_min3, sortR_ints, sortRR_ints, ai_nil, ai_cons, allInts_map, evE_imax, evE_slb, evE_sla, rr_t, slb_t, sla_l, im_mk, bi_sortedT, bi_lenSet, bi_sortSet, Int.reduceLE, Int.reduceLT, Int.reduceToNat, Int.reducePow, Nat.reduceLT, Nat.reduceLeDiff, Nat.reducePow, Int.reduceNeg, Int.reduceAbs, small_lit, at_0, at_1, at_2, decide_true, decide_false, gt_iff_lt, ge_iff_le, eq_self, Bool.not_eq_true])
      refine (equal_W hEqual (.int _ _)).mono ?_
      rintro _ rfl
      (try simp only [W_cons, W_nil, kS_nx, kS_rt, kS_bk, oQ_nx, oQ_rt, W_some, W_bind, W_map, W_guard, W_guardB, evE_comp, evS_for, evS_while, evS_mkdr, evE_var, evE_con, evE_bin, evE_neg, evE_not_, evE_cmp, evE_chain, evE_and_, evE_or_, evE_ite, evE_tup, evE_lst, evE_sub, evE_subv, evE_slice, evE_rev, evE_lenv, evE_nilv, evE_inv, evE_call, evE_bi, evE_rngl, evE_isi, evE_pop0, evE_pop1, evS_set, evS_unp, evS_par, evS_stsub, evS_app, evS_drop, evS_if_, evS_ret, evS_retN, evS_brk, evS_pass, evS_undr, evEs, evPs, evO, evI, evT, startG, List.map_cons, List.map_nil, List.set_cons_zero, List.set_cons_succ, List.getElem?_cons_zero, List.getElem?_cons_succ, List.length_cons, List.length_nil, List.cons_append, List.nil_append, List.replicate_succ, List.replicate_zero, Nat.reduceAdd, Nat.reduceSub, cmpD_ii_eq, cmpD_ii_ne, cmpD_ii_lt, cmpD_ii_le, cmpD_ii_gt, cmpD_ii_ge, cmpD_bb_eq, cmpD_bb_ne, List.all_cons, List.all_nil, List.any_cons, List.any_nil, Bool.or_false, Bool.or_true, Bool.true_or, Bool.false_or, Bool.and_true, Bool.true_and, Bool.and_self, isTy, wipeG, backG, Option.bind_some, Option.map_some, Bool.not_true, Bool.not_false, ite_true, ite_false, if_true, if_false, true_and, and_true, Bool.false_eq_true, evI_seq, List.isEmpty_nil, List.isEmpty_cons, List.length_map, decide_eq_true_eq, Bool.and_eq_true, b_add, b_sub, b_mul, b_div, b_mod, b_pow, b_addL, b_addT, b_mulL, sl_v, sl_f, sl_dr, sl_scr, ar_v, ar_f, ar_dr, ar_scr, rv_v, rv_f, as_i, as_b, da_nil, da_cons, sa_nil, sa_cons, bi_len, bi_max2, bi_min2, bi_maxL, bi_minL, bi_sumL, bi_allL, bi_anyL, bi_sorted, bi_sortedR, bi_listL, bi_listT, bi_tupL, bi_tupT, bi_int1, bi_int1b, bi_abs1, bi_repr, ag_n, ag_nil, ag_cons, up_l, up_t, sq_l, sq_t, ln_l, ln_t, rg_1, rg_2, en_l, zp_l, zp_t, sb_l, sb_t, ra_eq, rd_mk, st_mk, wp_mk, bk_mk, ls_mk, nl_mk, bn_mk, bl_mk, no_mk, ss_mk, is_mk, sS_mk, pS_mk, aS_mk, sv_scr, sv_v, sv_f, sr_l, sr_t, rr_l, evE_lstx, evE_dsp, evE_idx, evE_dcomp, evS_ext, ex_l, evS_augI, evXs_nil, evXs_cons, evXs_star, eS_mk, gI_mk, ke_i, ke_s, sl_fd, b_shl, b_shr, b_and, bi_min3, sortR_ints, sortRR_ints, ai_nil, ai_cons, allInts_map, evE_imax, evE_slb, evE_sla, rr_t, slb_t, sla_l, im_mk, bi_sortedT, bi_lenSet, bi_sortSet, Int.reduceLE, Int.reduceLT, Int.reduceToNat, Int.reducePow, Nat.reduceLT, Nat.reduceLeDiff, Nat.reducePow, Int.reduceNeg, Int.reduceAbs, small_lit, at_0, at_1, at_2, decide_true, decide_false, gt_iff_lt, ge_iff_le, eq_self, Bool.not_eq_true])
      refine W_forF (f := rwD) (fun q st => ∃ (pre : List Rw) (y8 y9 y10 y11 : Slot), rows = pre ++ q ∧ (Pl y8 ∧ Pl y9 ∧ Pl y10 ∧ Pl y11) ∧ st = ⟨[.scr ns, .dr, .v (.int (j : Nat)), .v (.int N), .v (.list (rows.map rwD)), .v (.int ((rows.length + 1 : Nat) : Int)), .v (.list (vs.map .int)), .v (treeD ((rows.length + 1 : Nat) : Int) es), y8, y9, y10, y11], some S6⟩) ?_ ?_ ⟨[], _, _, _, _, rfl, ⟨p8, p9, p10, p11⟩, rfl⟩
      · rintro r q st ⟨pre, y8, y9, y10, y11, hr, _, rfl⟩
        have hr' : r ∈ rows := by rw [hr]; simp
        have rb := B.rng hr'
        have rp := B.pa r hr'
        have a1 := sg_at (vs := vs) (v := r.1) (by omega) (by omega)
        have a2 := sg_at (vs := vs) (v := r.2.1) (by omega) (by omega)
        unfold fStep rwD
        (try simp only [W_cons, W_nil, kS_nx, kS_rt, kS_bk, oQ_nx, oQ_rt, W_some, W_bind, W_map, W_guard, W_guardB, evE_comp, evS_for, evS_while, evS_mkdr, evE_var, evE_con, evE_bin, evE_neg, evE_not_, evE_cmp, evE_chain, evE_and_, evE_or_, evE_ite, evE_tup, evE_lst, evE_sub, evE_subv, evE_slice, evE_rev, evE_lenv, evE_nilv, evE_inv, evE_call, evE_bi, evE_rngl, evE_isi, evE_pop0, evE_pop1, evS_set, evS_unp, evS_par, evS_stsub, evS_app, evS_drop, evS_if_, evS_ret, evS_retN, evS_brk, evS_pass, evS_undr, evEs, evPs, evO, evI, evT, startG, List.map_cons, List.map_nil, List.set_cons_zero, List.set_cons_succ, List.getElem?_cons_zero, List.getElem?_cons_succ, List.length_cons, List.length_nil, List.cons_append, List.nil_append, List.replicate_succ, List.replicate_zero, Nat.reduceAdd, Nat.reduceSub, cmpD_ii_eq, cmpD_ii_ne, cmpD_ii_lt, cmpD_ii_le, cmpD_ii_gt, cmpD_ii_ge, cmpD_bb_eq, cmpD_bb_ne, List.all_cons, List.all_nil, List.any_cons, List.any_nil, Bool.or_false, Bool.or_true, Bool.true_or, Bool.false_or, Bool.and_true, Bool.true_and, Bool.and_self, isTy, wipeG, backG, Option.bind_some, Option.map_some, Bool.not_true, Bool.not_false, ite_true, ite_false, if_true, if_false, true_and, and_true, Bool.false_eq_true, evI_seq, List.isEmpty_nil, List.isEmpty_cons, List.length_map, decide_eq_true_eq, Bool.and_eq_true, b_add, b_sub, b_mul, b_div, b_mod, b_pow, b_addL, b_addT, b_mulL, sl_v, sl_f, sl_dr, sl_scr, ar_v, ar_f, ar_dr, ar_scr, rv_v, rv_f, as_i, as_b, da_nil, da_cons, sa_nil, sa_cons, bi_len, bi_max2, bi_min2, bi_maxL, bi_minL, bi_sumL, bi_allL, bi_anyL, bi_sorted, bi_sortedR, bi_listL, bi_listT, bi_tupL, bi_tupT, bi_int1, bi_int1b, bi_abs1, bi_repr, ag_n, ag_nil, ag_cons, up_l, up_t, sq_l, sq_t, ln_l, ln_t, rg_1, rg_2, en_l, zp_l, zp_t, sb_l, sb_t, ra_eq, rd_mk, st_mk, wp_mk, bk_mk, ls_mk, nl_mk, bn_mk, bl_mk, no_mk, ss_mk, is_mk, sS_mk, pS_mk, aS_mk, sv_scr, sv_v, sv_f, sr_l, sr_t, rr_l, evE_lstx, evE_dsp, evE_idx, evE_dcomp, evS_ext, ex_l, evS_augI, evXs_nil, evXs_cons, evXs_star, eS_mk, gI_mk, ke_i, ke_s, sl_fd, b_shl, b_shr, b_and, bi_min3, sortR_ints, sortRR_ints, ai_nil, ai_cons, allInts_map, evE_imax, evE_slb, evE_sla, rr_t, slb_t, sla_l, im_mk, bi_sortedT, bi_lenSet, bi_sortSet, Int.reduceLE, Int.reduceLT, Int.reduceToNat, Int.reducePow, Nat.reduceLT, Nat.reduceLeDiff, Nat.reducePow, Int.reduceNeg, Int.reduceAbs, small_lit, at_0, at_1, at_2, decide_true, decide_false, gt_iff_lt, ge_iff_le, eq_self, Bool.not_eq_true, a1, a2])
        refine (branch_W pn.pb (by decide) t1 (by omega) (ad0 r hr')).mono ?_
        rintro _ rfl
        rw [show bd (rows.length + 1) es (sg vs r.2.1) (sg vs r.1) = r.2.2.2 from bo0 r hr']
        (try simp only [W_cons, W_nil, kS_nx, kS_rt, kS_bk, oQ_nx, oQ_rt, W_some, W_bind, W_map, W_guard, W_guardB, evE_comp, evS_for, evS_while, evS_mkdr, evE_var, evE_con, evE_bin, evE_neg, evE_not_, evE_cmp, evE_chain, evE_and_, evE_or_, evE_ite, evE_tup, evE_lst, evE_sub, evE_subv, evE_slice, evE_rev, evE_lenv, evE_nilv, evE_inv, evE_call, evE_bi, evE_rngl, evE_isi, evE_pop0, evE_pop1, evS_set, evS_unp, evS_par, evS_stsub, evS_app, evS_drop, evS_if_, evS_ret, evS_retN, evS_brk, evS_pass, evS_undr, evEs, evPs, evO, evI, evT, startG, List.map_cons, List.map_nil, List.set_cons_zero, List.set_cons_succ, List.getElem?_cons_zero, List.getElem?_cons_succ, List.length_cons, List.length_nil, List.cons_append, List.nil_append, List.replicate_succ, List.replicate_zero, Nat.reduceAdd, Nat.reduceSub, cmpD_ii_eq, cmpD_ii_ne, cmpD_ii_lt, cmpD_ii_le, cmpD_ii_gt, cmpD_ii_ge, cmpD_bb_eq, cmpD_bb_ne, List.all_cons, List.all_nil, List.any_cons, List.any_nil, Bool.or_false, Bool.or_true, Bool.true_or, Bool.false_or, Bool.and_true, Bool.true_and, Bool.and_self, isTy, wipeG, backG, Option.bind_some, Option.map_some, Bool.not_true, Bool.not_false, ite_true, ite_false, if_true, if_false, true_and, and_true, Bool.false_eq_true, evI_seq, List.isEmpty_nil, List.isEmpty_cons, List.length_map, decide_eq_true_eq, Bool.and_eq_true, b_add, b_sub, b_mul, b_div, b_mod, b_pow, b_addL, b_addT, b_mulL, sl_v, sl_f, sl_dr, sl_scr, ar_v, ar_f, ar_dr, ar_scr, rv_v, rv_f, as_i, as_b, da_nil, da_cons, sa_nil, sa_cons, bi_len, bi_max2, bi_min2, bi_maxL, bi_minL, bi_sumL, bi_allL, bi_anyL, bi_sorted, bi_sortedR, bi_listL, bi_listT, bi_tupL, bi_tupT, bi_int1, bi_int1b, bi_abs1, bi_repr, ag_n, ag_nil, ag_cons, up_l, up_t, sq_l, sq_t, ln_l, ln_t, rg_1, rg_2, en_l, zp_l, zp_t, sb_l, sb_t, ra_eq, rd_mk, st_mk, wp_mk, bk_mk, ls_mk, nl_mk, bn_mk, bl_mk, no_mk, ss_mk, is_mk, sS_mk, pS_mk, aS_mk, sv_scr, sv_v, sv_f, sr_l, sr_t, rr_l, evE_lstx, evE_dsp, evE_idx, evE_dcomp, evS_ext, ex_l, evS_augI, evXs_nil, evXs_cons, evXs_star, eS_mk, gI_mk, ke_i, ke_s, sl_fd, b_shl, b_shr, b_and, bi_min3, sortR_ints, sortRR_ints, ai_nil, ai_cons, allInts_map, evE_imax, evE_slb, evE_sla, rr_t, slb_t, sla_l, im_mk, bi_sortedT, bi_lenSet, bi_sortSet, Int.reduceLE, Int.reduceLT, Int.reduceToNat, Int.reducePow, Nat.reduceLT, Nat.reduceLeDiff, Nat.reducePow, Int.reduceNeg, Int.reduceAbs, small_lit, at_0, at_1, at_2, decide_true, decide_false, gt_iff_lt, ge_iff_le, eq_self, Bool.not_eq_true])
        refine (equal_W hEqual (.int _ _)).mono ?_
        rintro _ rfl
        (try simp only [W_cons, W_nil, kS_nx, kS_rt, kS_bk, oQ_nx, oQ_rt, W_some, W_bind, W_map, W_guard, W_guardB, evE_comp, evS_for, evS_while, evS_mkdr, evE_var, evE_con, evE_bin, evE_neg, evE_not_, evE_cmp, evE_chain, evE_and_, evE_or_, evE_ite, evE_tup, evE_lst, evE_sub, evE_subv, evE_slice, evE_rev, evE_lenv, evE_nilv, evE_inv, evE_call, evE_bi, evE_rngl, evE_isi, evE_pop0, evE_pop1, evS_set, evS_unp, evS_par, evS_stsub, evS_app, evS_drop, evS_if_, evS_ret, evS_retN, evS_brk, evS_pass, evS_undr, evEs, evPs, evO, evI, evT, startG, List.map_cons, List.map_nil, List.set_cons_zero, List.set_cons_succ, List.getElem?_cons_zero, List.getElem?_cons_succ, List.length_cons, List.length_nil, List.cons_append, List.nil_append, List.replicate_succ, List.replicate_zero, Nat.reduceAdd, Nat.reduceSub, cmpD_ii_eq, cmpD_ii_ne, cmpD_ii_lt, cmpD_ii_le, cmpD_ii_gt, cmpD_ii_ge, cmpD_bb_eq, cmpD_bb_ne, List.all_cons, List.all_nil, List.any_cons, List.any_nil, Bool.or_false, Bool.or_true, Bool.true_or, Bool.false_or, Bool.and_true, Bool.true_and, Bool.and_self, isTy, wipeG, backG, Option.bind_some, Option.map_some, Bool.not_true, Bool.not_false, ite_true, ite_false, if_true, if_false, true_and, and_true, Bool.false_eq_true, evI_seq, List.isEmpty_nil, List.isEmpty_cons, List.length_map, decide_eq_true_eq, Bool.and_eq_true, b_add, b_sub, b_mul, b_div, b_mod, b_pow, b_addL, b_addT, b_mulL, sl_v, sl_f, sl_dr, sl_scr, ar_v, ar_f, ar_dr, ar_scr, rv_v, rv_f, as_i, as_b, da_nil, da_cons, sa_nil, sa_cons, bi_len, bi_max2, bi_min2, bi_maxL, bi_minL, bi_sumL, bi_allL, bi_anyL, bi_sorted, bi_sortedR, bi_listL, bi_listT, bi_tupL, bi_tupT, bi_int1, bi_int1b, bi_abs1, bi_repr, ag_n, ag_nil, ag_cons, up_l, up_t, sq_l, sq_t, ln_l, ln_t, rg_1, rg_2, en_l, zp_l, zp_t, sb_l, sb_t, ra_eq, rd_mk, st_mk, wp_mk, bk_mk, ls_mk, nl_mk, bn_mk, bl_mk, no_mk, ss_mk, is_mk, sS_mk, pS_mk, aS_mk, sv_scr, sv_v, sv_f, sr_l, sr_t, rr_l, evE_lstx, evE_dsp, evE_idx, evE_dcomp, evS_ext, ex_l, evS_augI, evXs_nil, evXs_cons, evXs_star, eS_mk, gI_mk, ke_i, ke_s, sl_fd, b_shl, b_shr, b_and, bi_min3, sortR_ints, sortRR_ints, ai_nil, ai_cons, allInts_map, evE_imax, evE_slb, evE_sla, rr_t, slb_t, sla_l, im_mk, bi_sortedT, bi_lenSet, bi_sortSet, Int.reduceLE, Int.reduceLT, Int.reduceToNat, Int.reducePow, Nat.reduceLT, Nat.reduceLeDiff, Nat.reducePow, Int.reduceNeg, Int.reduceAbs, small_lit, at_0, at_1, at_2, decide_true, decide_false, gt_iff_lt, ge_iff_le, eq_self, Bool.not_eq_true])
        exact ⟨pre ++ [r], _, _, _, _, by rw [hr]; simp, ⟨Pl.v _, Pl.v _, Pl.v _, Pl.v _⟩, rfl⟩
      · rintro st ⟨pre, y8, y9, y10, y11, hr, pp, rfl⟩
        (try simp only [W_cons, W_nil, kS_nx, kS_rt, kS_bk, oQ_nx, oQ_rt, W_some, W_bind, W_map, W_guard, W_guardB, evE_comp, evS_for, evS_while, evS_mkdr, evE_var, evE_con, evE_bin, evE_neg, evE_not_, evE_cmp, evE_chain, evE_and_, evE_or_, evE_ite, evE_tup, evE_lst, evE_sub, evE_subv, evE_slice, evE_rev, evE_lenv, evE_nilv, evE_inv, evE_call, evE_bi, evE_rngl, evE_isi, evE_pop0, evE_pop1, evS_set, evS_unp, evS_par, evS_stsub, evS_app, evS_drop, evS_if_, evS_ret, evS_retN, evS_brk, evS_pass, evS_undr, evEs, evPs, evO, evI, evT, startG, List.map_cons, List.map_nil, List.set_cons_zero, List.set_cons_succ, List.getElem?_cons_zero, List.getElem?_cons_succ, List.length_cons, List.length_nil, List.cons_append, List.nil_append, List.replicate_succ, List.replicate_zero, Nat.reduceAdd, Nat.reduceSub, cmpD_ii_eq, cmpD_ii_ne, cmpD_ii_lt, cmpD_ii_le, cmpD_ii_gt, cmpD_ii_ge, cmpD_bb_eq, cmpD_bb_ne, List.all_cons, List.all_nil, List.any_cons, List.any_nil, Bool.or_false, Bool.or_true, Bool.true_or, Bool.false_or, Bool.and_true, Bool.true_and, Bool.and_self, isTy, wipeG, backG, Option.bind_some, Option.map_some, Bool.not_true, Bool.not_false, ite_true, ite_false, if_true, if_false, true_and, and_true, Bool.false_eq_true, evI_seq, List.isEmpty_nil, List.isEmpty_cons, List.length_map, decide_eq_true_eq, Bool.and_eq_true, b_add, b_sub, b_mul, b_div, b_mod, b_pow, b_addL, b_addT, b_mulL, sl_v, sl_f, sl_dr, sl_scr, ar_v, ar_f, ar_dr, ar_scr, rv_v, rv_f, as_i, as_b, da_nil, da_cons, sa_nil, sa_cons, bi_len, bi_max2, bi_min2, bi_maxL, bi_minL, bi_sumL, bi_allL, bi_anyL, bi_sorted, bi_sortedR, bi_listL, bi_listT, bi_tupL, bi_tupT, bi_int1, bi_int1b, bi_abs1, bi_repr, ag_n, ag_nil, ag_cons, up_l, up_t, sq_l, sq_t, ln_l, ln_t, rg_1, rg_2, en_l, zp_l, zp_t, sb_l, sb_t, ra_eq, rd_mk, st_mk, wp_mk, bk_mk, ls_mk, nl_mk, bn_mk, bl_mk, no_mk, ss_mk, is_mk, sS_mk, pS_mk, aS_mk, sv_scr, sv_v, sv_f, sr_l, sr_t, rr_l, evE_lstx, evE_dsp, evE_idx, evE_dcomp, evS_ext, ex_l, evS_augI, evXs_nil, evXs_cons, evXs_star, eS_mk, gI_mk, ke_i, ke_s, sl_fd, b_shl, b_shr, b_and, bi_min3, sortR_ints, sortRR_ints, ai_nil, ai_cons, allInts_map, evE_imax, evE_slb, evE_sla, rr_t, slb_t, sla_l, im_mk, bi_sortedT, bi_lenSet, bi_sortSet, Int.reduceLE, Int.reduceLT, Int.reduceToNat, Int.reducePow, Nat.reduceLT, Nat.reduceLeDiff, Nat.reducePow, Int.reduceNeg, Int.reduceAbs, small_lit, at_0, at_1, at_2, decide_true, decide_false, gt_iff_lt, ge_iff_le, eq_self, Bool.not_eq_true])
        exact ⟨_, _, _, _, _, _, _, _, _, _, S6, rfl, pp, g6.le (by omega)⟩
    · rintro s ⟨x2, x3, x4, x5, x6, x7, x8, x9, x10, x11, S1, rfl, _, g1⟩
      (try simp only [W_cons, W_nil, kS_nx, kS_rt, kS_bk, oQ_nx, oQ_rt, W_some, W_bind, W_map, W_guard, W_guardB, evE_comp, evS_for, evS_while, evS_mkdr, evE_var, evE_con, evE_bin, evE_neg, evE_not_, evE_cmp, evE_chain, evE_and_, evE_or_, evE_ite, evE_tup, evE_lst, evE_sub, evE_subv, evE_slice, evE_rev, evE_lenv, evE_nilv, evE_inv, evE_call, evE_bi, evE_rngl, evE_isi, evE_pop0, evE_pop1, evS_set, evS_unp, evS_par, evS_stsub, evS_app, evS_drop, evS_if_, evS_ret, evS_retN, evS_brk, evS_pass, evS_undr, evEs, evPs, evO, evI, evT, startG, List.map_cons, List.map_nil, List.set_cons_zero, List.set_cons_succ, List.getElem?_cons_zero, List.getElem?_cons_succ, List.length_cons, List.length_nil, List.cons_append, List.nil_append, List.replicate_succ, List.replicate_zero, Nat.reduceAdd, Nat.reduceSub, cmpD_ii_eq, cmpD_ii_ne, cmpD_ii_lt, cmpD_ii_le, cmpD_ii_gt, cmpD_ii_ge, cmpD_bb_eq, cmpD_bb_ne, List.all_cons, List.all_nil, List.any_cons, List.any_nil, Bool.or_false, Bool.or_true, Bool.true_or, Bool.false_or, Bool.and_true, Bool.true_and, Bool.and_self, isTy, wipeG, backG, Option.bind_some, Option.map_some, Bool.not_true, Bool.not_false, ite_true, ite_false, if_true, if_false, true_and, and_true, Bool.false_eq_true, evI_seq, List.isEmpty_nil, List.isEmpty_cons, List.length_map, decide_eq_true_eq, Bool.and_eq_true, b_add, b_sub, b_mul, b_div, b_mod, b_pow, b_addL, b_addT, b_mulL, sl_v, sl_f, sl_dr, sl_scr, ar_v, ar_f, ar_dr, ar_scr, rv_v, rv_f, as_i, as_b, da_nil, da_cons, sa_nil, sa_cons, bi_len, bi_max2, bi_min2, bi_maxL, bi_minL, bi_sumL, bi_allL, bi_anyL, bi_sorted, bi_sortedR, bi_listL, bi_listT, bi_tupL, bi_tupT, bi_int1, bi_int1b, bi_abs1, bi_repr, ag_n, ag_nil, ag_cons, up_l, up_t, sq_l, sq_t, ln_l, ln_t, rg_1, rg_2, en_l, zp_l, zp_t, sb_l, sb_t, ra_eq, rd_mk, st_mk, wp_mk, bk_mk, ls_mk, nl_mk, bn_mk, bl_mk, no_mk, ss_mk, is_mk, sS_mk, pS_mk, aS_mk, sv_scr, sv_v, sv_f, sr_l, sr_t, rr_l, evE_lstx, evE_dsp, evE_idx, evE_dcomp, evS_ext, ex_l, evS_augI, evXs_nil, evXs_cons, evXs_star, eS_mk, gI_mk, ke_i, ke_s, sl_fd, b_shl, b_shr, b_and, bi_min3, sortR_ints, sortRR_ints, ai_nil, ai_cons, allInts_map, evE_imax, evE_slb, evE_sla, rr_t, slb_t, sla_l, im_mk, bi_sortedT, bi_lenSet, bi_sortSet, Int.reduceLE, Int.reduceLT, Int.reduceToNat, Int.reducePow, Nat.reduceLT, Nat.reduceLeDiff, Nat.reducePow, Int.reduceNeg, Int.reduceAbs, small_lit, at_0, at_1, at_2, decide_true, decide_false, gt_iff_lt, ge_iff_le, eq_self, Bool.not_eq_true])
  obtain ⟨⟨a, S⟩, e, h⟩ := h
  have h : a = _ := h
  exact ⟨S, by rw [e, h]⟩
end Law

namespace Law
open PySem L2 Tl
def top (i : Nat) : Stmt := PySem.Challenge.pw_tellrounds_k14_needs_of_built_trees.main.body.getD i (.Pass ⟨0, 0, 0, 0⟩)
def d0 : Df := ⟨"neighbours_of", top 1, ["tree", "vertex"], ["tree", "vertex", "found", "one", "other", "delay"]⟩
def d1 : Df := ⟨"delay_between", top 2, ["tree", "one", "other"], ["tree", "one", "other", "low", "high", "delay"]⟩
def d2 : Df := ⟨"least_time", top 4, ["keys"], ["keys", "place", "key"]⟩
def d3 : Df := ⟨"keys_away", top 5, ["tree", "vertex", "away"], ["tree", "vertex", "away", "found", "near"]⟩
def d4 : Df := ⟨"branch_need", top 6, ["tree", "vertex", "away"], ["tree", "vertex", "away", "key", "near"]⟩
def d5 : Df := ⟨"need_from", top 7, ["tree", "source"], ["tree", "source"]⟩
def d6 : Df := ⟨"_law_draws", top 9, ["_law_script"], ["_law_script", "_law_cells", "_law_cell"]⟩
def d7 : Df := ⟨"_law_next", top 10, ["_law_drawn", "_law_many"], ["_law_drawn", "_law_many", "_law_cells", "_law_turn", "_law_rests", "_law_spot", "_law_digit", "_law_mixed", "_law_again"]⟩
def d8 : Df := ⟨"_law_one", top 11, ["_law_drawn", "_law_items"], ["_law_drawn", "_law_items"]⟩
def d9 : Df := ⟨"_law_equal", top 12, ["_law_one_here", "_law_other"], ["_law_one_here", "_law_other", "_law_a", "_law_b"]⟩
def d10 : Df := ⟨"_law_size", top 13, ["_law_drawn", "_law_great"], ["_law_drawn", "_law_great", "_law_few"]⟩
def d11 : Df := ⟨"_law_shuffled", top 14, ["_law_drawn", "_law_count"], ["_law_drawn", "_law_count", "_law_left", "_law_k"]⟩
def d12 : Df := ⟨"_law_made", top 15, ["_law_count", "_law_edges"], ["_law_count", "_law_edges", "_law_one_here", "_law_other", "_law_delay"]⟩
def d13 : Df := ⟨"_law_keys", top 16, ["_law_drawn", "_law_need", "_law_many"], ["_law_drawn", "_law_need", "_law_many", "_law_exact", "_law_found", "_law_place", "_law_lowest", "_law_key"]⟩
def d14 : Df := ⟨"_law_grown", top 17, ["_law_drawn", "_law_need", "_law_first", "_law_room"], ["_law_drawn", "_law_need", "_law_first", "_law_room", "_law_rows", "_law_free", "_law_many", "_law_spare", "_law_key", "_law_more", "_law_own", "_law_below"]⟩
def d15 : Df := ⟨"law", top 18, ["_law_script"], ["_law_script", "_law_drawn", "_law_turn", "_law_need", "_law_rows", "_law_count", "_law_names", "_law_tree", "_law_one_here", "_law_other", "_law_delay", "_law_own"]⟩
def ds : List Df := [d0, d1, d2, d3, d4, d5, d6, d7, d8, d9, d10, d11, d12, d13, d14, d15]
def T : Tb := ⟨("neighbours_of", 2) :: ("delay_between", 3) :: ("least_time", 1) :: ("keys_away", 3) :: ("branch_need", 3) :: ("need_from", 2) :: ("_law_draws", 1) :: ("_law_next", 2) :: ("_law_one", 2) :: ("_law_equal", 2) :: ("_law_size", 2) :: ("_law_shuffled", 2) :: ("_law_made", 2) :: ("_law_keys", 3) :: ("_law_grown", 4) :: ("law", 1) :: [], []⟩
theorem c0 : cSs T 40 d0.ct (defBody d0.st) = some b0 := by kernel_rfl
theorem s0 : FnScope d0.N d0.ps (defScope d0.st) := ⟨rfl, rfl, rfl, by decide +kernel, rfl, by decide +kernel, by decide +kernel⟩
theorem h0 {K : PySem.W.Frag} {f : Addr} {fd : FuncData} (F : FunD K d0.nm d0.nm (defArgs d0.st) (defBody d0.st) (defScope d0.st) [] [] f fd) : Binds K fd d0.ps [] := F.bindsN fun _ _ _ _ _ _ us hl => match us, hl with | [_, _], _ => rfl
theorem c1 : cSs T 40 d1.ct (defBody d1.st) = some b1 := by kernel_rfl
theorem s1 : FnScope d1.N d1.ps (defScope d1.st) := ⟨rfl, rfl, rfl, by decide +kernel, rfl, by decide +kernel, by decide +kernel⟩
theorem h1 {K : PySem.W.Frag} {f : Addr} {fd : FuncData} (F : FunD K d1.nm d1.nm (defArgs d1.st) (defBody d1.st) (defScope d1.st) [] [] f fd) : Binds K fd d1.ps [] := F.bindsN fun _ _ _ _ _ _ us hl => match us, hl with | [_, _, _], _ => rfl
theorem c2 : cSs T 40 d2.ct (defBody d2.st) = some b2 := by kernel_rfl
theorem s2 : FnScope d2.N d2.ps (defScope d2.st) := ⟨rfl, rfl, rfl, by decide +kernel, rfl, by decide +kernel, by decide +kernel⟩
theorem h2 {K : PySem.W.Frag} {f : Addr} {fd : FuncData} (F : FunD K d2.nm d2.nm (defArgs d2.st) (defBody d2.st) (defScope d2.st) [] [] f fd) : Binds K fd d2.ps [] := F.bindsN fun _ _ _ _ _ _ us hl => match us, hl with | [_], _ => rfl
theorem c3 : cSs T 40 d3.ct (defBody d3.st) = some b3 := by kernel_rfl
theorem s3 : FnScope d3.N d3.ps (defScope d3.st) := ⟨rfl, rfl, rfl, by decide +kernel, rfl, by decide +kernel, by decide +kernel⟩
theorem h3 {K : PySem.W.Frag} {f : Addr} {fd : FuncData} (F : FunD K d3.nm d3.nm (defArgs d3.st) (defBody d3.st) (defScope d3.st) [] [] f fd) : Binds K fd d3.ps [] := F.bindsN fun _ _ _ _ _ _ us hl => match us, hl with | [_, _, _], _ => rfl
theorem c4 : cSs T 40 d4.ct (defBody d4.st) = some b4 := by kernel_rfl
theorem s4 : FnScope d4.N d4.ps (defScope d4.st) := ⟨rfl, rfl, rfl, by decide +kernel, rfl, by decide +kernel, by decide +kernel⟩
theorem h4 {K : PySem.W.Frag} {f : Addr} {fd : FuncData} (F : FunD K d4.nm d4.nm (defArgs d4.st) (defBody d4.st) (defScope d4.st) [] [] f fd) : Binds K fd d4.ps [] := F.bindsN fun _ _ _ _ _ _ us hl => match us, hl with | [_, _, _], _ => rfl
theorem c5 : cSs T 40 d5.ct (defBody d5.st) = some b5 := by kernel_rfl
theorem s5 : FnScope d5.N d5.ps (defScope d5.st) := ⟨rfl, rfl, rfl, by decide +kernel, rfl, by decide +kernel, by decide +kernel⟩
theorem h5 {K : PySem.W.Frag} {f : Addr} {fd : FuncData} (F : FunD K d5.nm d5.nm (defArgs d5.st) (defBody d5.st) (defScope d5.st) [] [] f fd) : Binds K fd d5.ps [] := F.bindsN fun _ _ _ _ _ _ us hl => match us, hl with | [_, _], _ => rfl
theorem c6 : cSs T 40 d6.ct (defBody d6.st) = some b6 := by kernel_rfl
theorem s6 : FnScope d6.N d6.ps (defScope d6.st) := ⟨rfl, rfl, rfl, by decide +kernel, rfl, by decide +kernel, by decide +kernel⟩
theorem h6 {K : PySem.W.Frag} {f : Addr} {fd : FuncData} (F : FunD K d6.nm d6.nm (defArgs d6.st) (defBody d6.st) (defScope d6.st) [] [] f fd) : Binds K fd d6.ps [] := F.bindsN fun _ _ _ _ _ _ us hl => match us, hl with | [_], _ => rfl
theorem c7 : cSs T 40 d7.ct (defBody d7.st) = some b7 := by kernel_rfl
theorem s7 : FnScope d7.N d7.ps (defScope d7.st) := ⟨rfl, rfl, rfl, by decide +kernel, rfl, by decide +kernel, by decide +kernel⟩
theorem h7 {K : PySem.W.Frag} {f : Addr} {fd : FuncData} (F : FunD K d7.nm d7.nm (defArgs d7.st) (defBody d7.st) (defScope d7.st) [] [] f fd) : Binds K fd d7.ps [] := F.bindsN fun _ _ _ _ _ _ us hl => match us, hl with | [_, _], _ => rfl
theorem c8 : cSs T 40 d8.ct (defBody d8.st) = some b8 := by kernel_rfl
theorem s8 : FnScope d8.N d8.ps (defScope d8.st) := ⟨rfl, rfl, rfl, by decide +kernel, rfl, by decide +kernel, by decide +kernel⟩
theorem h8 {K : PySem.W.Frag} {f : Addr} {fd : FuncData} (F : FunD K d8.nm d8.nm (defArgs d8.st) (defBody d8.st) (defScope d8.st) [] [] f fd) : Binds K fd d8.ps [] := F.bindsN fun _ _ _ _ _ _ us hl => match us, hl with | [_, _], _ => rfl
theorem c9 : cSs T 40 d9.ct (defBody d9.st) = some b9 := by kernel_rfl
theorem s9 : FnScope d9.N d9.ps (defScope d9.st) := ⟨rfl, rfl, rfl, by decide +kernel, rfl, by decide +kernel, by decide +kernel⟩
theorem h9 {K : PySem.W.Frag} {f : Addr} {fd : FuncData} (F : FunD K d9.nm d9.nm (defArgs d9.st) (defBody d9.st) (defScope d9.st) [] [] f fd) : Binds K fd d9.ps [] := F.bindsN fun _ _ _ _ _ _ us hl => match us, hl with | [_, _], _ => rfl
theorem c10 : cSs T 40 d10.ct (defBody d10.st) = some b10 := by kernel_rfl
theorem s10 : FnScope d10.N d10.ps (defScope d10.st) := ⟨rfl, rfl, rfl, by decide +kernel, rfl, by decide +kernel, by decide +kernel⟩
theorem h10 {K : PySem.W.Frag} {f : Addr} {fd : FuncData} (F : FunD K d10.nm d10.nm (defArgs d10.st) (defBody d10.st) (defScope d10.st) [] [] f fd) : Binds K fd d10.ps [] := F.bindsN fun _ _ _ _ _ _ us hl => match us, hl with | [_, _], _ => rfl
theorem c11 : cSs T 40 d11.ct (defBody d11.st) = some b11 := by kernel_rfl
theorem s11 : FnScope d11.N d11.ps (defScope d11.st) := ⟨rfl, rfl, rfl, by decide +kernel, rfl, by decide +kernel, by decide +kernel⟩
theorem h11 {K : PySem.W.Frag} {f : Addr} {fd : FuncData} (F : FunD K d11.nm d11.nm (defArgs d11.st) (defBody d11.st) (defScope d11.st) [] [] f fd) : Binds K fd d11.ps [] := F.bindsN fun _ _ _ _ _ _ us hl => match us, hl with | [_, _], _ => rfl
theorem c12 : cSs T 40 d12.ct (defBody d12.st) = some b12 := by kernel_rfl
theorem s12 : FnScope d12.N d12.ps (defScope d12.st) := ⟨rfl, rfl, rfl, by decide +kernel, rfl, by decide +kernel, by decide +kernel⟩
theorem h12 {K : PySem.W.Frag} {f : Addr} {fd : FuncData} (F : FunD K d12.nm d12.nm (defArgs d12.st) (defBody d12.st) (defScope d12.st) [] [] f fd) : Binds K fd d12.ps [] := F.bindsN fun _ _ _ _ _ _ us hl => match us, hl with | [_, _], _ => rfl
theorem c13 : cSs T 40 d13.ct (defBody d13.st) = some b13 := by kernel_rfl
theorem s13 : FnScope d13.N d13.ps (defScope d13.st) := ⟨rfl, rfl, rfl, by decide +kernel, rfl, by decide +kernel, by decide +kernel⟩
theorem h13 {K : PySem.W.Frag} {f : Addr} {fd : FuncData} (F : FunD K d13.nm d13.nm (defArgs d13.st) (defBody d13.st) (defScope d13.st) [] [] f fd) : Binds K fd d13.ps [] := F.bindsN fun _ _ _ _ _ _ us hl => match us, hl with | [_, _, _], _ => rfl
theorem c14 : cSs T 40 d14.ct (defBody d14.st) = some b14 := by kernel_rfl
theorem s14 : FnScope d14.N d14.ps (defScope d14.st) := ⟨rfl, rfl, rfl, by decide +kernel, rfl, by decide +kernel, by decide +kernel⟩
theorem h14 {K : PySem.W.Frag} {f : Addr} {fd : FuncData} (F : FunD K d14.nm d14.nm (defArgs d14.st) (defBody d14.st) (defScope d14.st) [] [] f fd) : Binds K fd d14.ps [] := F.bindsN fun _ _ _ _ _ _ us hl => match us, hl with | [_, _, _, _], _ => rfl
theorem c15 : cSs T 40 d15.ct (defBody d15.st) = some b15 := by kernel_rfl
theorem s15 : FnScope d15.N d15.ps (defScope d15.st) := ⟨rfl, rfl, rfl, by decide +kernel, rfl, by decide +kernel, by decide +kernel⟩
theorem h15 {K : PySem.W.Frag} {f : Addr} {fd : FuncData} (F : FunD K d15.nm d15.nm (defArgs d15.st) (defBody d15.st) (defScope d15.st) [] [] f fd) : Binds K fd d15.ps [] := F.bindsN fun _ _ _ _ _ _ us hl => match us, hl with | [_], _ => rfl
theorem hA {K : PySem.W.Frag} {f : Addr} {fd : FuncData} (F : FunD K d15.nm d15.nm (defArgs d15.st) (defBody d15.st) (defScope d15.st) [] [] f fd) (s : Shared) (v : Value) : BindsTo s fd ⟨[v], []⟩ [("_law_script", v)] := FunD.bindsA (ps := d15.ps) F (fun _ _ _ _ _ _ us hl => match us, hl with | [_], _ => rfl) s [v] rfl
theorem tab : Tab T 40 ds tf where
  hT := by rfl
  sc := fun d hd => by
    simp only [ds, List.mem_cons, List.not_mem_nil, or_false] at hd
    rcases hd with rfl | rfl | rfl | rfl | rfl | rfl | rfl | rfl | rfl | rfl | rfl | rfl | rfl | rfl | rfl | rfl
    · exact s0
    · exact s1
    · exact s2
    · exact s3
    · exact s4
    · exact s5
    · exact s6
    · exact s7
    · exact s8
    · exact s9
    · exact s10
    · exact s11
    · exact s12
    · exact s13
    · exact s14
    · exact s15
  cp := fun i d hd => by
    match i, hd with
    | 0, hd => cases hd; exact ⟨b0, rfl, c0⟩
    | 1, hd => cases hd; exact ⟨b1, rfl, c1⟩
    | 2, hd => cases hd; exact ⟨b2, rfl, c2⟩
    | 3, hd => cases hd; exact ⟨b3, rfl, c3⟩
    | 4, hd => cases hd; exact ⟨b4, rfl, c4⟩
    | 5, hd => cases hd; exact ⟨b5, rfl, c5⟩
    | 6, hd => cases hd; exact ⟨b6, rfl, c6⟩
    | 7, hd => cases hd; exact ⟨b7, rfl, c7⟩
    | 8, hd => cases hd; exact ⟨b8, rfl, c8⟩
    | 9, hd => cases hd; exact ⟨b9, rfl, c9⟩
    | 10, hd => cases hd; exact ⟨b10, rfl, c10⟩
    | 11, hd => cases hd; exact ⟨b11, rfl, c11⟩
    | 12, hd => cases hd; exact ⟨b12, rfl, c12⟩
    | 13, hd => cases hd; exact ⟨b13, rfl, c13⟩
    | 14, hd => cases hd; exact ⟨b14, rfl, c14⟩
    | 15, hd => cases hd; exact ⟨b15, rfl, c15⟩
    | i + 16, hd => simp [ds] at hd
theorem bnd {K : PySem.W.Frag} : ∀ d ∈ ds, ∀ (f : Addr) (fd : FuncData), FunD K d.nm d.nm (defArgs d.st) (defBody d.st) (defScope d.st) [] [] f fd → Binds K fd d.ps [] := fun d hd f fd F => by
  simp only [ds, List.mem_cons, List.not_mem_nil, or_false] at hd
  rcases hd with rfl | rfl | rfl | rfl | rfl | rfl | rfl | rfl | rfl | rfl | rfl | rfl | rfl | rfl | rfl | rfl
  · exact h0 F
  · exact h1 F
  · exact h2 F
  · exact h3 F
  · exact h4 F
  · exact h5 F
  · exact h6 F
  · exact h7 F
  · exact h8 F
  · exact h9 F
  · exact h10 F
  · exact h11 F
  · exact h12 F
  · exact h13 F
  · exact h14 F
  · exact h15 F
abbrev rowL : PySem.W.OpenRow := PySem.W.OpenLaw.row PySem.Challenge.rw_tellrounds_k14_needs_of_built_trees
def fan : List He.Fa := faOf T ds
def fnn : List He.DefD := ds.map Df.dd
abbrev hkL : PySem.W.Hook := He.hookD 4 fan fnn
def obL (s : PySem.W.SharedT) : He.AlD := He.obsDG 4 fan fnn (HandSHeadRun.getT s)
theorem obL_eq (s : PySem.W.SharedT) : obL s = hkL.obs s.abs := He.obsDG_eq (HandSHeadRun.getT_eq s)
theorem runL (w : World) : HandSHeadRun.RunEq rowL (PySem.W.view rowL.prog [18]) hkL obL 4000 ["__name__", "neighbours_of", "delay_between", "least_time", "keys_away", "branch_need", "need_from", "_law_draws", "_law_next", "_law_one", "_law_equal", "_law_size", "_law_shuffled", "_law_made", "_law_keys", "_law_grown"] w := by
  intro os
  kernel_rfl
end Law
open PySem PySem.W PySem.Calls PyProof.Rows
theorem PySem.Challenge.cw_tellrounds_k14_needs_of_built_trees_holds : PySem.Challenge.rw_tellrounds_k14_needs_of_built_trees.Holds := by
  w_on; o_law
  refine HandSHeadRun.head_any (r := Law.rowL) (q := view Law.rowL.prog [18]) (H := Law.hkL) (ob := Law.obL) (M := 4000) (loose := ["__name__", "neighbours_of", "delay_between", "least_time", "keys_away", "branch_need", "need_from", "_law_draws", "_law_next", "_law_one", "_law_equal", "_law_size", "_law_shuffled", "_law_made", "_law_keys", "_law_grown"]) (d := HandSHeadRun.topDef Law.rowL.prog 18) (kwd := []) Law.obL_eq
    (by kernel_rfl) (fun s => by kernel_rfl) Law.runL (by kernel_rfl) (by kernel_rfl) (by kernel_rfl) (by rfl) (by first | assumption | decide +kernel) (by decide +kernel) ⟨rfl, rfl, rfl, rfl, rfl, by decide +kernel⟩ ?hw ?hc
  case hw => w_witness2
  case hc =>
    refine Tl.law_end (l := PySem.Challenge.rw_tellrounds_k14_needs_of_built_trees) (m := 63) (k := 200) (n := 40) (fu := (10 ^ 40)) (T := Law.T) (ds := Law.ds) (tf := Law.tf) (i := 15) (dl := Law.d15) (x := "_law_script") rfl (by decide) (by kernel_rfl) ⟨rfl, by decide, by decide⟩ Law.tab rfl rfl (by kernel_rfl) (fun w mg h Y G => ?_) (fun K f fd F s v => Law.hA F s v) Law.main
    obtain ⟨K, KX, c⟩ := Y
    exact ⟨K, KX, Tl.told_of KX G c Law.bnd⟩

