import PyProof.Rows.All
import Wide.All
import OpenK.AllK
import Wide.FinOn
import PySem.Syntax
import HandS.Comp
import HandS.ForMost
import HandS.Words
import HandS.Deep
import HandS.TupAny
import HandS.TupLe
import HandS.Dict
import HandS.Style
import PyProof.Rows.Nodes
import HandS.SortOrd
import HandS.SortInts
import HandS.TupLen
import HandS.WordsDict
import KE.SortData
import KE.DataMinMax
import HandS.IsInst
import HandS.Remove
import HandS.SetFor
import HandS.Zip
import HandS.Iter
import HandS.Defaults
import KE.KDictPairs
import HandS.HeadWalk
import HandS.EndBits
import HandS.HeadHook1
import HandS.HeadHook2
import KE.KStateDown
import HandS.WordsExc
import HandS.Head0
import HandS.Head1
import HandS.Head2
import HandS.HeadEnd
import PySem.Challenge.RW_cornerwebs_k50_whole_walks
set_option linter.all false
/-! By-value semantics of a small part of Python: data, trees with resolved names, an interpreter. -/
namespace BV
open PySem (Str)

abbrev Key := Sum Int Str
abbrev DKey := Sum Key (List Key)

inductive D where
  | non | bl (b : Bool) | int (i : Int) | str (s : Str)
  | tup (l : List D) | lst (l : List D) | dic (l : List (DKey × D))
  | web (n : Nat) (ls : List (Nat × Nat))
  | scr (ns : List Int)
  | hand

inductive Ow where
  | own | bor | frz
  deriving DecidableEq

structure Z where
  g : List (Option (Ow × D))
  h : Option (List D)
  /-- slots whose lists are being walked: not to be changed -/
  lk : List Nat

inductive Bop where
  | add | sub | mul | fdiv | mod | pow
  deriving DecidableEq
inductive Cop where
  | eq | ne | lt | le | gt | ge | isin | notin | is | isnot
  deriving DecidableEq
inductive Fld where
  | corners | lines
  deriving DecidableEq
inductive Ty where
  | int | bool | tuple | list | dict | str | web
  deriving DecidableEq
inductive Blt where
  | abs | all | any | int | len | max | min | sorted | sum | repr | dict | list | tuple
  deriving DecidableEq
/-- methods that change the list in a slot -/
inductive Mt where
  | append | extend | pop | remove
  deriving DecidableEq
/-- methods that read -/
inductive Md where
  | index | count | get
  deriving DecidableEq

mutual
inductive TG where
  | nm (i : Nat) | tp (l : TGs)
inductive TGs where
  | nil | cons (t : TG) (r : TGs)
end

mutual
def TG.slots : TG → List Nat
  | .nm i => [i]
  | .tp l => l.slots
def TGs.slots : TGs → List Nat
  | .nil => []
  | .cons t r => t.slots ++ r.slots
end
def TGs.len : TGs → Nat
  | .nil => 0
  | .cons _ r => r.len + 1
mutual
inductive E where
  | var (i : Nat) | int (i : Int) | bl (b : Bool) | non | str (s : Str)
  | bin (o : Bop) (a b : E) | neg (a : E) | not (a : E)
  | cmp (o : Cop) (a b : E) | cmp2 (o p : Cop) (a b c : E)
  | and (a b : E) | or (a b : E)
  | ite (c a b : E)
  | tup (l : Es) | lst (l : Es) | dic0
  | ix (a i : E) | sl (a : E) (lo hi : Option E) | rev (a : E)
  | fld (a : E) (f : Fld) | there (a : E)
  | call (f : Nat) (l : Es) | web (a b : E)
  | blt (b : Blt) (l : Es) | isi (a : E) (t : List Ty)
  | mt (m : Mt) (i : Nat) (l : Es) | md (m : Md) (a : E) (l : Es)
  | comp (elt : E) (g : TG) (it : It) (c : E) (own : List Nat)
  | listIt (it : It) | tupIt (it : It)
  | val (e : E)
  | sortedSet (a : E) | lenSet (a : E)
inductive Es where
  | nil | cons (e : E) (r : Es)
inductive It where
  | seq (a : E) | rng1 (a : E) | rng2 (a b : E) | zip (a b : E) | enum (a : E)
end

mutual
inductive S where
  | set (i : Nat) (m : Bool) (e : E) | setH (i : Nat) (e : E)
  | par (l : List (Nat × Bool)) (es : Es)
  | unp (g : TG) (e : E)
  | setIx (i : Nat) (ix e : E)
  | ex (e : E)
  | ite (c : E) (a b : Ss)
  | for (g : TG) (it : It) (body : Ss)
  | whl (c : E) (body : Ss)
  | ret (e : E) | pass | brk | cont | raise
inductive Ss where
  | nil | cons (s : S) (r : Ss)
end

inductive Out where
  | nx (z : Z) | rt (h : Option (List D)) (o : Bool) (d : D) | bk (z : Z) | ct (z : Z)

/-! ### data -/
def lim : Nat := 16777216

def kD : Key → D
  | .inl i => .int i
  | .inr s => .str s
def kkD : DKey → D
  | .inl k => kD k
  | .inr l => .tup (l.map kD)
def key1 : D → Option Key
  | .int i => some (.inl i)
  | .str s => some (.inr s)
  | _ => none
def keys1 : List D → Option (List Key)
  | [] => some []
  | d :: r => match key1 d, keys1 r with
    | some k, some l => some (k :: l)
    | _, _ => none
def key : D → Option DKey
  | .tup l => (keys1 l).map .inr
  | d => (key1 d).map .inl
def intsD : List D → Option (List Int)
  | [] => some []
  | .int i :: r => (intsD r).map (i :: ·)
  | _ :: _ => none
def boolsD : List D → Option (List Bool)
  | [] => some []
  | .bl i :: r => (boolsD r).map (i :: ·)
  | _ :: _ => none

mutual
/-- data without objects, not too deep -/
def D.okd : Nat → D → Bool
  | _, .non => true
  | _, .bl _ => true
  | _, .int _ => true
  | _, .str s => decide (s.cps.size ≤ 1000) && s.cps.all fun c => decide (c < 128)
  | 0, .tup _ => false
  | n + 1, .tup l => D.okds n l
  | 0, .lst _ => false
  | n + 1, .lst l => D.okds n l
  | _, .dic _ => false
  | _, .web _ _ => false
  | _, .scr _ => false
  | _, .hand => false
def D.okds : Nat → List D → Bool
  | _, [] => true
  | n, d :: r => D.okd n d && D.okds n r
end
abbrev D.ok (d : D) : Bool := d.okd 63

mutual
/-- Python's == on data -/
def D.eqv : D → D → Bool
  | .non, .non => true
  | .bl a, .bl b => a == b
  | .bl a, .int j => (if a then 1 else 0) == j
  | .int i, .bl b => i == (if b then 1 else 0)
  | .int i, .int j => i == j
  | .str x, .str y => x == y
  | .lst xs, .lst ys => D.eqvs xs ys
  | .tup xs, .tup ys => D.eqvs xs ys
  | _, _ => false
def D.eqvs : List D → List D → Bool
  | [], [] => true
  | x :: xs, y :: ys => D.eqv x y && D.eqvs xs ys
  | _, _ => false
end
/-- a tuple, a list, a dict -/
def D.isObj : D → Bool
  | .tup _ => true
  | .lst _ => true
  | .dic _ => true
  | _ => false
def D.isWeb : D → Bool
  | .web _ _ => true
  | _ => false
/-- == of data (of webs: not yet) -/
def deq : D → D → Option Bool
  | .web _ _, _ => none
  | d, e => if d.ok && e.ok then some (d.eqv e) else none

/-- lexicographic order on lists of intsD -/
def ltI : List Int → List Int → Bool
  | x :: xs, y :: ys => if x = y then ltI xs ys else decide (x < y)
  | [], _ :: _ => true
  | _, [] => false
def leI : List Int → List Int → Bool
  | x :: xs, y :: ys => if x = y then leI xs ys else decide (x < y)
  | [], _ => true
  | _ :: _, [] => false
def iop : Cop → Int → Int → Bool
  | .lt, i, j => decide (i < j)
  | .le, i, j => decide (i ≤ j)
  | .gt, i, j => decide (j < i)
  | .ge, i, j => decide (j ≤ i)
  | _, _, _ => false
def nop : Cop → Nat → Nat → Bool
  | .lt, i, j => decide (i < j)
  | .le, i, j => decide (i ≤ j)
  | .gt, i, j => decide (i > j)
  | .ge, i, j => decide (i ≥ j)
  | _, _, _ => false
mutual
/-- <, <=, >, >= of ints, of tuples of such -/
def D.cmpo (o : Cop) : Nat → D → D → Option Bool
  | _, .int i, .int j => some (iop o i j)
  | n + 1, .tup l, .tup k => D.cmpos o n l k
  | _, _, _ => none
def D.cmpos (o : Cop) : Nat → List D → List D → Option Bool
  | n, x :: xs, y :: ys => match D.cmpos o n xs ys with
    | some r => if x.okd n && y.okd n then if x.eqv y then some r else D.cmpo o n x y else none
    | none => none
  | _, l, k => some (nop o l.length k.length)
end

def ixN (n : Nat) (i : Int) : Option Nat := if 0 ≤ i then (if i < n then some i.toNat else none) else if -(n : Int) ≤ i then some (i + n).toNat else none
def atI {α : Type} (xs : List α) (i : Int) : Option α := (ixN xs.length i).bind fun j => xs[j]?
/-- where a slice begins or ends -/
def sIx (n d : Nat) : Option Int → Nat
  | none => d
  | some i => if i < 0 then (i + n).toNat else min i.toNat n
def cut {α : Type} (xs : List α) (lo hi : Option Int) : List α := (xs.drop (sIx xs.length 0 lo)).take (sIx xs.length xs.length hi - sIx xs.length 0 lo)

def valK (kvs : List (DKey × D)) (k : DKey) : Option D := (kvs.find? fun kv => decide (kv.1 = k)).map (·.2)
def putK (kvs : List (DKey × D)) (k : DKey) (v : D) : List (DKey × D) :=
  if (kvs.any fun kv => decide (kv.1 = k)) = true then kvs.map (fun kv => if kv.1 = k then (kv.1, v) else kv) else kvs ++ [(k, v)]
def isT : DKey → Bool
  | .inr _ => true
  | .inl _ => false
/-- all keys of one kind -/
def kinds (kvs : List (DKey × D)) (t : Bool) : Bool := kvs.all fun kv => isT kv.1 == t
def pairD (p : Nat × Nat) : D := .tup [.int p.1, .int p.2]
def pairK (p : Nat × Nat) : DKey := .inr [.inl (p.1 : Int), .inl (p.2 : Int)]
def thereD (ls : List (Nat × Nat)) : D := .dic (ls.map fun p => (pairK p, .bl true))

/-- sorted of intsD, of tuples of intsD -/
def tups : List D → Option (List (List Int))
  | [] => some []
  | .tup l :: r => match intsD l, tups r with
    | some a, some b => some (a :: b)
    | _, _ => none
  | _ :: _ => none
def tupI (l : List Int) : D := .tup (l.map .int)
def sortI (l : List Int) : List Int := l.mergeSort fun a b => decide (a ≤ b)
def sortT (l : List (List Int)) : List (List Int) := l.mergeSort leI
def dsort (l : List D) : Option (List D) :=
  match intsD l with
  | some a => some ((sortI a).map .int)
  | none => match tups l with
    | some b => if b.all fun x => !x.isEmpty then some ((sortT b).map tupI) else none
    | none => none
def dsortSet (l : List D) : Option (List D) :=
  match intsD l with
  | some a => some ((sortI a.eraseDups).map .int)
  | none => match tups l with
    | some b => some ((sortT b.eraseDups).map tupI)
    | none => none
def dlenSet (l : List D) : Option Nat :=
  match intsD l with
  | some a => some a.eraseDups.length
  | none => (tups l).map fun b => b.eraseDups.length

/-! ### operations -/
def small (i : Int) : Bool := decide (-(2 ^ 64) < i) && decide (i < 2 ^ 64)
def binop : Bop → D → D → Option (Bool × D)
  | .add, .int i, .int j => some (false, .int (i + j))
  | .add, .tup a, .tup b => if a.length + b.length ≤ lim then some (false, .tup (a ++ b)) else none
  | .add, .lst a, .lst b => if a.length + b.length ≤ lim then some (true, .lst (a ++ b)) else none
  | .sub, .int i, .int j => some (false, .int (i - j))
  | .mul, .int i, .int j => if small i || small j then some (false, .int (i * j)) else none
  | .mul, .lst a, .int j => if a.length * j.toNat ≤ lim && decide (-(2 ^ 63) ≤ j) && decide (j < 2 ^ 63) then some (true, .lst (List.replicate j.toNat a).flatten) else none
  | .fdiv, .int i, .int j => if decide (0 < j) && decide (j < 1073741824) then some (false, .int (i / j)) else none
  | .mod, .int i, .int j => if 0 < j then some (false, .int (i % j)) else none
  | .pow, .int i, .int j => if decide (0 ≤ j) && decide (j ≤ 1000) && decide (i.natAbs < 2 ^ 64) then some (false, .int (i ^ j.toNat)) else none
  | _, _, _ => none
def member (x : D) (l : List D) : Option Bool := if x.ok && D.okds 62 l then some (l.any fun y => y.eqv x) else none
def isin (x c : D) : Option Bool := match c with
  | .lst l => member x l
  | .tup l => member x l
  | .dic kvs => match key x with
    | some k => if kinds kvs (isT k) then some (valK kvs k).isSome else none
    | none => none
  | _ => none
def isNon : D → Bool
  | .non => true
  | _ => false
def cmpop : Cop → D → D → Option Bool
  | .eq, a, b => deq a b
  | .ne, a, b => (deq a b).map (!·)
  | .lt, a, b => D.cmpo .lt 20 a b
  | .le, a, b => D.cmpo .le 20 a b
  | .gt, a, b => D.cmpo .gt 20 a b
  | .ge, a, b => D.cmpo .ge 20 a b
  | .isin, a, b => isin a b
  | .notin, a, b => (isin a b).map (!·)
  | .is, a, .non => some (isNon a)
  | .isnot, a, .non => some (!isNon a)
  | _, _, _ => none
def isInst : Ty → D → Option Bool
  | _, .hand => none
  | _, .scr _ => none
  | .int, .int _ => some true
  | .int, .bl _ => some true
  | .bool, .bl _ => some true
  | .tuple, .tup _ => some true
  | .list, .lst _ => some true
  | .dict, .dic _ => some true
  | .str, .str _ => some true
  | .web, .web _ _ => some true
  | _, _ => some false
def isInsts : List Ty → D → Option Bool
  | [], _ => some false
  | t :: r, d => match isInst t d, isInsts r d with
    | some a, some b => some (a || b)
    | _, _ => none
def seqOf : D → Option (List D)
  | .tup l => some l
  | .lst l => some l
  | _ => none
/-- the greatest, the least of ints -/
def mmop (f : Int → Int → Int) (d : D) : Option (Bool × D) := match seqOf d with
  | some l => match intsD l with
    | some (i :: r) => some (false, .int (r.foldl f i))
    | _ => none
  | none => none
def lenop : D → Option Nat
  | .tup l => some l.length
  | .lst l => some l.length
  | .dic l => some l.length
  | _ => none
def lstop (f : List D → Option (Bool × D)) : D → Option (Bool × D)
  | .lst l => f l
  | _ => none
def intop : D → Option (Bool × D)
  | .int i => some (false, .int i)
  | .bl b => some (false, .int (if b then 1 else 0))
  | _ => none
def absop : D → Option (Bool × D)
  | .int i => some (false, .int (if i < 0 then -i else i))
  | _ => none
def bltin1 : Blt → D → Option (Bool × D)
  | .abs => absop
  | .int => intop
  | .all => lstop fun l => (boolsD l).map fun b => (false, .bl (b.all id))
  | .any => lstop fun l => (boolsD l).map fun b => (false, .bl (b.any id))
  | .len => fun d => (lenop d).map fun (m : Nat) => (false, D.int (Int.ofNat m))
  | .sum => lstop fun l => (intsD l).map fun b => (false, .int b.sum)
  | .max => mmop max
  | .min => mmop min
  | .sorted => lstop fun l => (dsort l).map fun x => (true, .lst x)
  | .list => fun d => (seqOf d).map fun l => (true, .lst l)
  | .tuple => fun d => (seqOf d).map fun l => (false, .tup l)
  | _ => fun _ => none
def int2 (f : Int → Int → Int) : D → D → Option (Bool × D)
  | .int i, .int j => some (false, .int (f i j))
  | _, _ => none
def bltin2 : Blt → D → D → Option (Bool × D)
  | .max => int2 max
  | .min => int2 min
  | _ => fun _ _ => none
def bltin (b : Blt) : List D → Option (Bool × D)
  | [a] => bltin1 b a
  | [a, c] => bltin2 b a c
  | _ => none
def ixop : D → D → Option D
  | .tup l, .int i => atI l i
  | .lst l, .int i => atI l i
  | .dic kvs, k => match key k with
    | some k => if kinds kvs (isT k) then valK kvs k else none
    | none => none
  | _, _ => none
def slop : D → Option Int → Option Int → Option (Bool × D)
  | .tup l, lo, hi => some (false, .tup (cut l lo hi))
  | .lst l, lo, hi => some (true, .lst (cut l lo hi))
  | .scr l, lo, hi => some (true, .lst ((cut l lo hi).map .int))
  | _, _, _ => none
def revop : D → Option (Bool × D)
  | .lst l => some (true, .lst l.reverse)
  | _ => none
def fldop : D → Fld → Option D
  | .web n _, .corners => some (.int n)
  | .web _ ls, .lines => some (.tup (ls.map pairD))
  | _, _ => none
def thop : D → Option D
  | .web _ ls => some (thereD ls)
  | _ => none
/-- is it a right web -/
def lineOk (n : Nat) (p : Nat × Nat) : Bool := decide (p.1 < p.2) && decide (p.2 < n)
def ltP (p q : Nat × Nat) : Bool := decide (p.1 < q.1) || (decide (p.1 = q.1) && decide (p.2 < q.2))
def ascP : List (Nat × Nat) → Bool
  | p :: q :: r => ltP p q && ascP (q :: r)
  | _ => true
def webOk (n : Nat) (ls : List (Nat × Nat)) : Bool := decide (1 ≤ n) && decide (n ≤ 7) && ls.all (lineOk n) && ascP ls
def natOf : D → Option Nat
  | .int i => if 0 ≤ i then some i.toNat else none
  | _ => none
def pairOf : D → Option (Nat × Nat)
  | .tup [a, b] => match natOf a, natOf b with
    | some i, some j => some (i, j)
    | _, _ => none
  | _ => none
def pairsOf : List D → Option (List (Nat × Nat))
  | [] => some []
  | d :: r => match pairOf d, pairsOf r with
    | some p, some l => some (p :: l)
    | _, _ => none
def webop : D → D → Option D
  | a, .tup l => match natOf a, pairsOf l with
    | some n, some ls => if webOk n ls then some (.web n ls) else none
    | _, _ => none
  | _, _ => none
def find1 (x : D) : List D → Nat → Option Nat
  | [], _ => none
  | y :: r, i => if y.eqv x then some i else find1 x r (i + 1)
def mdop : Md → D → List D → Option D
  | .index, d, [x] => match seqOf d with
    | some l => if x.ok && D.okds 62 l then (find1 x l 0).map fun i => .int i else none
    | none => none
  | .count, d, [x] => match seqOf d with
    | some l => if x.ok && D.okds 62 l then some (.int (l.countP fun y => y.eqv x)) else none
    | none => none
  | .get, .dic kvs, [k] => match key k with
    | some k => if kinds kvs (isT k) then some ((valK kvs k).getD .non) else none
    | none => none
  | .get, .dic kvs, [k, d] => match key k with
    | some k => if kinds kvs (isT k) then some ((valK kvs k).getD d) else none
    | none => none
  | _, _, _ => none
/-- the list in a slot changed: the new one, the result -/
def popop (l : List D) : Option (D × D) := (l[l.length - 1]?).map fun d => (.lst l.dropLast, d)
def popAt (l : List D) : D → Option (D × D)
  | .int i => if l.length ≤ lim then match ixN l.length i with
    | some j => (l[j]?).map fun d => (.lst (l.eraseIdx j), d)
    | none => none
    else none
  | _ => none
def extop (l : List D) : D → Option (D × D)
  | .lst k => if l.length + k.length ≤ lim then some (.lst (l ++ k), .non) else none
  | _ => none
def remop (l : List D) : D → Option (D × D)
  | .int k => match intsD l with
    | some ns => if k ∈ ns then some (.lst ((ns.erase k).map .int), .non) else none
    | none => none
  | _ => none
def mtop1 : Mt → List D → D → Option (D × D)
  | .append => fun l d => if l.length < lim then some (.lst (l ++ [d]), .non) else none
  | .extend => extop
  | .pop => popAt
  | .remove => remop
def mtop0 : Mt → List D → Option (D × D)
  | .pop => popop
  | _ => fun _ => none
def mtop (m : Mt) : D → List D → Option (D × D)
  | .lst l, [] => mtop0 m l
  | .lst l, [d] => mtop1 m l d
  | _, _ => none
/-- x[k] = v -/
def stop : D → D → D → Option D
  | .lst l, .int i, v => match ixN l.length i with
    | some j => some (.lst (l.set j v))
    | none => none
  | _, _, _ => none

/-! ### states -/
def Z.at (z : Z) (i : Nat) : Option (Ow × D) := (z.g[i]?).join
def Z.put (z : Z) (i : Nat) (o : Ow) (d : D) : Z := { z with g := z.g.set i (some (o, d)) }
def Z.wipe (z : Z) : List Nat → Z
  | [] => z
  | i :: r => let z' := z.wipe r; { z' with g := z'.g.set i none }
def keepF : Option (Ow × D) → Option (Ow × D)
  | some (.frz, d) => some (.frz, d)
  | _ => none
/-- the slots as they were in another state, if they were for good -/
def Z.back (z z0 : Z) : List Nat → Z
  | [] => z
  | i :: r => let z' := z.back z0 r; { z' with g := z'.g.set i (keepF (z0.at i)) }
def Z.freeze (z : Z) (i : Nat) : Z := match z.at i with
  | some (.own, d) => z.put i .frz d
  | _ => z

inductive Opd where
  | slot (i : Nat) | val (d : D)
def Opd.get (z : Z) : Opd → Option D
  | .slot i => (z.at i).map (·.2)
  | .val d => some d
def gets (z : Z) : List Opd → Option (List D)
  | [] => some []
  | o :: r => match o.get z, gets z r with
    | some d, some l => some (d :: l)
    | _, _ => none
def opd (e : E) (r : Z → Option (Z × Bool × D)) (z : Z) : Option (Z × Opd) := match e with
  | .var i => match z.at i with
    | some _ => some (z, .slot i)
    | none => none
  | _ => (r z).map fun x => (x.1, .val x.2.2)
/-- an argument: lent by its slot, or for good -/
def Opd.arg (z : Z) : Opd → Option (Bool × D)
  | .slot i => match z.at i with
    | some (.frz, d) => some (false, d)
    | some (_, d) => some (true, d)
    | none => none
  | .val d => some (false, d)
def args (z : Z) : List Opd → Option (List (Bool × D))
  | [] => some []
  | o :: r => match o.arg z, args z r with
    | some d, some l => some (d :: l)
    | _, _ => none
def slotsOf : List Opd → List Nat
  | [] => []
  | .slot i :: r => i :: slotsOf r
  | .val _ :: r => slotsOf r
def bindT : TG → D → Z → Option Z
  | .nm i, d, z => if i < z.g.length then some (z.put i .frz d) else none
  | .tp l, .tup ds, z => bindTs l ds z
  | _, _, _ => none
where bindTs : TGs → List D → Z → Option Z
  | .nil, [], z => some z
  | .cons t r, d :: ds, z => match bindT t d z with
    | some z' => bindTs r ds z'
    | none => none
  | _, _, _ => none
def compLoop (bind : D → Z → Option Z) (cond : Z → Option (Z × Bool × D)) (elt : Z → Option (Z × Bool × D)) (own : List Nat) : List D → Z → List D → Option (Z × List D)
  | [], z, acc => some (z, acc)
  | x :: r, z, acc => match bind x (z.wipe own) with
    | some z1 => match cond z1 with
      | some (z2, _, .bl true) => match elt z2 with
        | some (z3, _, d) => if acc.length < lim then compLoop bind cond elt own r z3 (acc ++ [d]) else none
        | none => none
      | some (z2, _, .bl false) => compLoop bind cond elt own r z2 acc
      | _ => none
    | none => none
def rngL (a b : Int) : List D := (List.range (b - a).toNat).map fun i => .int (a + (i : Nat))
def rngOk (a b : Int) : Bool := decide (-(2 ^ 62) ≤ a) && decide (a < 2 ^ 62) && decide (-(2 ^ 62) ≤ b) && decide (b < 2 ^ 62) && decide ((b - a).toNat ≤ lim)
def enumL (l : List D) : List D := (l.zipIdx).map fun p => .tup [.int p.2, p.1]
def zipL (a b : List D) : List D := List.zipWith (fun x y => .tup [x, y]) a b
abbrev Phi := Nat → List (Bool × D) → Option (List D) → Option (Option (List D) × Bool × D)
def optI : Option D → Option (Option Int)
  | none => some none
  | some (.int i) => some (some i)
  | _ => none

abbrev EvT := Z → Option (Z × Bool × D)
abbrev OpT := Z → Option (Z × Opd)
abbrev OsT := Z → Option (Z × List Opd)
abbrev EfT := Z → Option (Z × List D)
abbrev EoT := Z → Option (Z × Option D)
abbrev ItT := Z → Option (Z × List D × List Nat)

/-! ### the forms, over what their parts do -/
def sVar (i : Nat) : EvT := fun z => match z.at i with
  | some (.bor, _) => none
  | some (_, d) => some (z.freeze i, false, d)
  | none => none
/-- one operand -/
def sOp1 (f : D → Option (Bool × D)) (a : OpT) : EvT := fun z => match a z with
  | some (z1, oa) => match oa.get z1 with
    | some da => (f da).map fun r => (z1, r)
    | none => none
  | none => none
/-- two operands -/
def sOp2 (f : D → D → Option (Bool × D)) (a b : OpT) : EvT := fun z => match a z with
  | some (z1, oa) => match b z1 with
    | some (z2, ob) => match oa.get z2, ob.get z2 with
      | some da, some db => (f da db).map fun r => (z2, r)
      | _, _ => none
    | none => none
  | none => none
def plainB (f : D → Option Bool) : D → Option (Bool × D) := fun d => (f d).map fun b => (false, .bl b)
def plain1 (f : D → Option D) : D → Option (Bool × D) := fun d => (f d).map fun x => (false, x)
def plainB2 (f : D → D → Option Bool) : D → D → Option (Bool × D) := fun d e => (f d e).map fun b => (false, .bl b)
def plain2 (f : D → D → Option D) : D → D → Option (Bool × D) := fun d e => (f d e).map fun x => (false, x)
def sNeg (a : EvT) : EvT := fun z => match a z with
  | some (z1, _, .int i) => some (z1, false, .int (-i))
  | _ => none
def sNot (a : EvT) : EvT := fun z => match a z with
  | some (z1, _, .bl b) => some (z1, false, .bl (!b))
  | _ => none
def sCmp2 (o p : Cop) (a b c : OpT) : EvT := fun z => match a z with
  | some (z1, oa) => match b z1 with
    | some (z2, ob) => match oa.get z2, ob.get z2 with
      | some da, some db => match cmpop o da db with
        | some false => some (z2, false, .bl false)
        | some true => match c z2 with
          | some (z3, oc) => match ob.get z3, oc.get z3 with
            | some db, some dc => (cmpop p db dc).map fun r => (z3, false, .bl r)
            | _, _ => none
          | none => none
        | none => none
      | _, _ => none
    | none => none
  | none => none
def sAnd (a b : EvT) : EvT := fun z => match a z with
  | some (z1, _, .bl true) => match b z1 with
    | some (z2, _, .bl c) => some (z2, false, .bl c)
    | _ => none
  | some (z1, _, .bl false) => some (z1, false, .bl false)
  | _ => none
def sOr (a b : EvT) : EvT := fun z => match a z with
  | some (z1, _, .bl false) => match b z1 with
    | some (z2, _, .bl c) => some (z2, false, .bl c)
    | _ => none
  | some (z1, _, .bl true) => some (z1, false, .bl true)
  | _ => none
def sIte (c a b : EvT) : EvT := fun z => match c z with
  | some (z1, _, .bl true) => a z1
  | some (z1, _, .bl false) => b z1
  | _ => none
def sTup (l : EfT) : EvT := fun z => match l z with
  | some (z1, ds) => if ds.length ≤ lim then some (z1, false, .tup ds) else none
  | none => none
def sLst (l : EfT) : EvT := fun z => match l z with
  | some (z1, ds) => if ds.length ≤ lim then some (z1, true, .lst ds) else none
  | none => none
def sItem (a i : OpT) : EvT := fun z => match a z with
  | some (z1, oa) => match i z1 with
    | some (z2, oi) => match oa.get z2, oi.get z2 with
      | some .hand, some (.int i) => match z2.h with
        | some l => (atI l i).map fun d => (z2, false, d)
        | none => none
      | some da, some di => (ixop da di).map fun d => (z2, false, d)
      | _, _ => none
    | none => none
  | none => none
def sSl (a : OpT) (lo hi : EoT) : EvT := fun z => match a z with
  | some (z1, oa) => match lo z1 with
    | some (z2, dl) => match hi z2 with
      | some (z3, dh) => match oa.get z3, optI dl, optI dh with
        | some da, some l, some h => (slop da l h).map fun r => (z3, r)
        | _, _, _ => none
      | none => none
    | none => none
  | none => none
def sCall (F : Phi) (f : Nat) (l : OsT) : EvT := fun z => match l z with
  | some (z1, os) => match args z1 os with
    | some ds => match F f ds z1.h with
      | some (h', o, d) => some ({ z1 with h := h' }, o, d)
      | none => none
    | none => none
  | none => none
def sBlt (b : Blt) (l : OsT) : EvT := fun z => match l z with
  | some (z1, os) => match gets z1 os with
    | some ds => (bltin b ds).map fun r => (z1, r)
    | none => none
  | none => none
def sMt (m : Mt) (i : Nat) (l : EfT) : EvT := fun z => match z.at i with
  | some (.own, .lst _) => match l z with
    | some (z1, ds) => if z1.lk.contains i then none else match z1.at i with
      | some (.own, d) => match mtop m d ds with
        | some (d', r) => some (z1.put i .own d', false, r)
        | none => none
      | _ => none
    | none => none
  | _ => none
def sMd (m : Md) (a : OpT) (l : OsT) : EvT := fun z => match a z with
  | some (z1, oa) => match l z1 with
    | some (z2, os) => match oa.get z2, gets z2 os with
      | some da, some ds => (mdop m da ds).map fun r => (z2, false, r)
      | _, _ => none
    | none => none
  | none => none
/-- slots locked; as it was -/
def bor (bs : List Nat) (z : Z) : Z := { z with lk := bs ++ z.lk }
def unbor (z0 z : Z) : Z := { z with lk := z0.lk }
def sComp (elt : EvT) (g : D → Z → Option Z) (it : ItT) (c : EvT) (own : List Nat) : EvT := fun z => match it z with
  | some (z1, items, bs) => match compLoop g c elt own items (bor bs z1) [] with
    | some (z2, ds) => some (unbor z1 ((z2.wipe own).back z1 own), true, .lst ds)
    | none => none
  | none => none
def sListIt (it : ItT) : EvT := fun z => match it z with
  | some (z1, items, _) => some (z1, true, .lst items)
  | none => none
def sTupIt (it : ItT) : EvT := fun z => match it z with
  | some (z1, items, _) => some (z1, false, .tup items)
  | none => none
def opSet (d : D) : Option (Bool × D) := match seqOf d with
  | some l => (dsortSet l).map fun r => (true, .lst r)
  | none => none
def opLenSet (d : D) : Option (Bool × D) := match seqOf d with
  | some l => (dlenSet l).map fun r => (false, .int r)
  | none => none
def sIt1 (f : D → Option (List D)) (a : OpT) : ItT := fun z => match a z with
  | some (z1, oa) => match oa.get z1 with
    | some d => (f d).map fun l => (z1, l, slotsOf [oa])
    | none => none
  | none => none
def itSeq : D → Option (List D)
  | .tup l => some l
  | .lst l => some l
  | _ => none
def itEnum : D → Option (List D)
  | .lst l => some (enumL l)
  | _ => none
def itZip : D → D → Option (List D)
  | .tup l, .tup k => some (zipL l k)
  | .lst l, .lst k => some (zipL l k)
  | _, _ => none
def sIt2 (f : D → D → Option (List D)) (a b : OpT) : ItT := fun z => match a z with
  | some (z1, oa) => match b z1 with
    | some (z2, ob) => match oa.get z2, ob.get z2 with
      | some da, some db => (f da db).map fun l => (z2, l, slotsOf [oa, ob])
      | _, _ => none
    | none => none
  | none => none
def sRng1 (a : EvT) : ItT := fun z => match a z with
  | some (z1, _, .int j) => if rngOk 0 j then some (z1, rngL 0 j, []) else none
  | _ => none
def sRng2 (a b : EvT) : ItT := fun z => match a z with
  | some (z1, _, .int i) => match b z1 with
    | some (z2, _, .int j) => if rngOk i j then some (z2, rngL i j, []) else none
    | _ => none
  | _ => none
def sOsNil : OsT := fun z => some (z, [])
def sOsCons (a : OpT) (r : OsT) : OsT := fun z => match a z with
  | some (z1, o) => match r z1 with
    | some (z2, os) => some (z2, o :: os)
    | none => none
  | none => none
def sEfNil : EfT := fun z => some (z, [])
def sEfCons (a : EvT) (r : EfT) : EfT := fun z => match a z with
  | some (z1, _, d) => match r z1 with
    | some (z2, ds) => some (z2, d :: ds)
    | none => none
  | none => none
def sEoNone : EoT := fun z => some (z, none)
def sEoSome (a : EvT) : EoT := fun z => match a z with
  | some (z1, _, d) => some (z1, some d)
  | none => none

/-- the place of the question whether calls may still go deep -/
def gIdx : Nat := 999999
def sGuard (F : Phi) (f : EvT) : EvT := fun z => match F gIdx [] none with
  | some _ => f z
  | none => none
section
variable (F : Phi)
mutual
def ev : E → EvT
  | .var i => sVar i
  | .int i => fun z => some (z, false, .int i)
  | .bl b => fun z => some (z, false, .bl b)
  | .non => fun z => some (z, false, .non)
  | .str s => fun z => some (z, false, .str s)
  | .bin o a b => sOp2 (binop o) (opd a (ev a)) (opd b (ev b))
  | .neg a => sNeg (ev a)
  | .not a => sNot (ev a)
  | .cmp o a b => sOp2 (plainB2 (cmpop o)) (opd a (ev a)) (opd b (ev b))
  | .cmp2 o p a b c => sCmp2 o p (opd a (ev a)) (opd b (ev b)) (opd c (ev c))
  | .and a b => sAnd (ev a) (ev b)
  | .or a b => sOr (ev a) (ev b)
  | .ite c a b => sIte (ev c) (ev a) (ev b)
  | .tup l => sTup (evF l)
  | .lst l => sLst (evF l)
  | .dic0 => fun z => some (z, true, .dic [])
  | .ix a i => sItem (opd a (ev a)) (opd i (ev i))
  | .sl a lo hi => sSl (opd a (ev a)) (evO lo) (evO hi)
  | .rev a => sOp1 revop (opd a (ev a))
  | .fld a f => sOp1 (plain1 fun d => fldop d f) (opd a (ev a))
  | .there a => sGuard F (sOp1 (plain1 thop) (opd a (ev a)))
  | .call f l => sCall F f (evs l)
  | .web a b => sGuard F (sOp2 (plain2 webop) (opd a (ev a)) (opd b (ev b)))
  | .blt b l => sBlt b (evs l)
  | .isi a t => sOp1 (plainB (isInsts t)) (opd a (ev a))
  | .mt m i l => sMt m i (evF l)
  | .md m a l => sMd m (opd a (ev a)) (evs l)
  | .comp elt g it c own => sComp (ev elt) (bindT g) (evI it) (ev c) own
  | .listIt it => sListIt (evI it)
  | .tupIt it => sTupIt (evI it)
  | .sortedSet a => sOp1 opSet (opd a (ev a))
  | .lenSet a => sOp1 opLenSet (opd a (ev a))
  | .val e => ev e
/-- operands from the left -/
def evs : Es → OsT
  | .nil => sOsNil
  | .cons e r => sOsCons (opd e (ev e)) (evs r)
/-- values from the left, frozen -/
def evF : Es → EfT
  | .nil => sEfNil
  | .cons e r => sEfCons (ev e) (evF r)
def evO : Option E → EoT
  | none => sEoNone
  | some e => sEoSome (ev e)
/-- what is walked: the items, the slots that must stay -/
def evI : It → ItT
  | .seq a => sIt1 itSeq (opd a (ev a))
  | .rng1 a => sRng1 (ev a)
  | .rng2 a b => sRng2 (ev a) (ev b)
  | .zip a b => sIt2 itZip (opd a (ev a)) (opd b (ev b))
  | .enum a => sIt1 itEnum (opd a (ev a))
end

def forLoop (bind : D → Z → Option Z) (body : Z → Option Out) : List D → Z → Option Out
  | [], z => some (.nx z)
  | x :: r, z => match bind x z with
    | some z1 => match body z1 with
      | some (.nx z2) => forLoop bind body r z2
      | some (.ct z2) => forLoop bind body r z2
      | some (.bk z2) => some (.bk z2)
      | some (.rt h o d) => some (.rt h o d)
      | none => none
    | none => none
def whlLoop (cond : Z → Option (Z × Bool × D)) (body : Z → Option Out) : Nat → Z → Option Out
  | 0, _ => none
  | n + 1, z => match cond z with
    | some (z1, _, .bl false) => some (.nx z1)
    | some (z1, _, .bl true) => match body z1 with
      | some (.nx z2) => whlLoop cond body n z2
      | some (.ct z2) => whlLoop cond body n z2
      | some (.bk z2) => some (.bk z2)
      | some (.rt h o d) => some (.rt h o d)
      | none => none
    | _ => none
def fuel : Nat := 1000000
/-- behind a loop -/
def after (f : Z → Z) : Option Out → Option Out
  | some (.nx z) => some (.nx (f z))
  | some (.bk z) => some (.nx (f z))
  | some (.rt h o d) => some (.rt h o d)
  | _ => none
def setSlot (z : Z) (i : Nat) (m o : Bool) (d : D) : Option Z := if i < z.g.length then some (z.put i (if m && o then .own else .frz) d) else none
def setAll : List (Nat × Bool) → List (Bool × D) → Z → Option Z
  | [], [], z => some z
  | (i, m) :: r, (o, d) :: ds, z => match setSlot z i m o d with
    | some z1 => setAll r ds z1
    | none => none
  | _, _, _ => none
/-- values from the left, as they come -/
def evR : Es → Z → Option (Z × List (Bool × D))
  | .nil, z => some (z, [])
  | .cons e r, z => match ev F e z with
    | some (z1, o, d) => match evR r z1 with
      | some (z2, ds) => some (z2, (o, d) :: ds)
      | none => none
    | none => none

abbrev ExT := Z → Option Out
def xSet (i : Nat) (m : Bool) (e : EvT) : ExT := fun z => match e z with
  | some (z1, o, d) => (setSlot z1 i m o d).map .nx
  | none => none
def xSetH (i : Nat) (e : EvT) : ExT := fun z => match e z with
  | some (z1, true, .lst l) => match z1.h with
    | none => if i < z1.g.length then some (.nx { z1 with g := z1.g.set i (some (.frz, .hand)), h := some l }) else none
    | some _ => none
  | _ => none
def xPar (l : List (Nat × Bool)) (es : Z → Option (Z × List (Bool × D))) : ExT := fun z => match es z with
  | some (z1, ds) => (setAll l ds z1).map .nx
  | none => none
def xUnp (g : D → Z → Option Z) (e : EvT) : ExT := fun z => match e z with
  | some (z1, _, d) => (g d z1).map .nx
  | none => none
def setItem (i : Nat) (v k : D) (z2 : Z) : Option Out := match z2.at i with
  | some (.frz, .hand) => match z2.h, k with
    | some l, .int n => match ixN l.length n with
      | some j => some (.nx { z2 with h := some (l.set j v) })
      | none => none
    | _, _ => none
  | some (.own, d) => if z2.lk.contains i then none else match stop d k v with
    | some d' => some (.nx (z2.put i .own d'))
    | none => none
  | _ => none
def xSetIx (i : Nat) (ix e : EvT) : ExT := fun z => match e z with
  | some (z1, _, v) => match z1.at i with
    | some _ => match ix z1 with
      | some (z2, _, k) => setItem i v k z2
      | none => none
    | none => none
  | none => none
def xEx (e : EvT) : ExT := fun z => match e z with
  | some (z1, _, _) => some (.nx z1)
  | none => none
def xIte (c : EvT) (a b : ExT) : ExT := fun z => match c z with
  | some (z1, _, .bl true) => a z1
  | some (z1, _, .bl false) => b z1
  | _ => none
def xFor (g : D → Z → Option Z) (it : ItT) (body : ExT) : ExT := fun z => match it z with
  | some (z1, items, bs) => after (unbor z1) (forLoop g body items (bor bs z1))
  | none => none
def xWhl (c : EvT) (body : ExT) : ExT := fun z => after id (whlLoop c body fuel z)
def xRet (e : E) (r : EvT) : ExT := fun z => match e with
  | .var i => match z.at i with
    | some (.own, d) => some (.rt z.h true d)
    | some (.frz, d) => some (.rt z.h false d)
    | _ => none
  | _ => match r z with
    | some (z1, o, d) => some (.rt z1.h o d)
    | none => none
def xSeq (a b : ExT) : ExT := fun z => match a z with
  | some (.nx z1) => b z1
  | o => o
mutual
def exec : S → ExT
  | .set i m e => xSet i m (ev F e)
  | .setH i e => xSetH i (ev F e)
  | .par l es => xPar l (evR F es)
  | .unp g e => xUnp (bindT g) (ev F e)
  | .setIx i ix e => xSetIx i (ev F ix) (ev F e)
  | .ex e => xEx (ev F e)
  | .ite c a b => xIte (ev F c) (execs a) (execs b)
  | .for g it body => xFor (bindT g) (evI F it) (execs body)
  | .whl c body => xWhl (ev F c) (execs body)
  | .ret e => xRet e (ev F e)
  | .pass => fun z => some (.nx z)
  | .brk => fun z => some (.bk z)
  | .cont => fun z => some (.ct z)
  | .raise => fun _ => none
def execs : Ss → ExT
  | .nil => fun z => some (.nx z)
  | .cons s r => xSeq (exec s) (execs r)
end
end

/-- a def: how many parameters, how many slots, its body -/
structure Def where
  ps : Nat
  n : Nat
  body : Ss
def startZ (d : Def) (ds : List (Bool × D)) (h : Option (List D)) : Z := ⟨ds.map (fun d => some (if d.1 then .bor else .frz, d.2)) ++ List.replicate (d.n - ds.length) none, h, []⟩
def den (P : List Def) : Nat → Phi
  | 0, _, _, _ => none
  | k + 1, f, ds, h => if f = gIdx then (if 8 ≤ k then some (none, false, .non) else none) else match P[f]? with
    | some d => if ds.length = d.ps ∧ d.ps ≤ d.n then match execs (den P k) d.body (startZ d ds h) with
      | some (.rt h' o v) => some (h', o, v)
      | some (.nx z) => some (z.h, false, .non)
      | _ => none
      else none
    | none => none
end BV

/-! From Python's trees to the small ones. -/
namespace BV
open PySem (Str Expr Stmt Scope NameKind Const CmpOp Operator UnaryOp Comprehension)

inductive GK where
  | fn (f : Nat) (kp : List Nat) | int (i : Int) | web | blt
  deriving DecidableEq

structure Ctx where
  N : List Str
  sc : Scope
  /-- names whose cells are the block's own -/
  cellOk : Bool
  gl : List (Str × GK)
  mu : List Nat

def Ctx.kind (c : Ctx) (x : Str) : Option NameKind := c.sc.names.lookup x
def Ctx.glob (c : Ctx) (x : Str) : Bool := decide (c.kind x = some .globalImplicit) && !(x == ("__debug__" : Str))
def Ctx.vis (c : Ctx) (x : Str) : Bool := (match c.kind x with
  | some .local => true
  | some .cell => true
  | some .free => true
  | _ => false) && !(x == ("__debug__" : Str)) && !(x == ("__classdict__" : Str))
/-- a name may be stored -/
def Ctx.sto (c : Ctx) (x : Str) : Bool := match c.kind x with
  | some .local => true
  | some .cell => c.cellOk
  | _ => false
def idx (x : Str) : List Str → Nat → Option Nat
  | [], _ => none
  | y :: r, i => if x = y then some i else idx x r (i + 1)
def Ctx.slot (c : Ctx) (x : Str) : Option Nat := if c.vis x then idx x c.N 0 else none
def Ctx.stoSlot (c : Ctx) (x : Str) : Option Nat := if c.sto x then idx x c.N 0 else none
def Ctx.g (c : Ctx) (x : Str) : Option GK := if c.glob x then c.gl.lookup x else none
def Ctx.isB (c : Ctx) (x : Str) : Bool := decide (c.g x = some .blt)

def bopOf : Operator → Option Bop
  | .Add => some .add
  | .Sub => some .sub
  | .Mult => some .mul
  | .FloorDiv => some .fdiv
  | .Mod => some .mod
  | .Pow => some .pow
  | _ => none
def copOf : CmpOp → Cop
  | .Eq => .eq
  | .NotEq => .ne
  | .Lt => .lt
  | .LtE => .le
  | .Gt => .gt
  | .GtE => .ge
  | .In => .isin
  | .NotIn => .notin
  | .Is => .is
  | .IsNot => .isnot
def tyNames : List (Str × Ty) := [("int", .int), ("bool", .bool), ("tuple", .tuple), ("list", .list), ("dict", .dict), ("str", .str)]
def bltNames : List (Str × Blt) := [("abs", .abs), ("all", .all), ("any", .any), ("int", .int), ("len", .len), ("max", .max), ("min", .min), ("sorted", .sorted), ("sum", .sum), ("list", .list), ("tuple", .tuple)]
def mtNames : List (Str × Mt) := [("append", .append), ("extend", .extend), ("pop", .pop), ("remove", .remove)]
def mdNames : List (Str × Md) := [("index", .index), ("count", .count), ("get", .get)]
def Ctx.ty1 (c : Ctx) : Expr → Option Ty
  | .Name x _ => match c.g x with
    | some .blt => tyNames.lookup x
    | some .web => some .web
    | _ => none
  | _ => none
/-- no set display behind in -/
def notSet : Expr → Bool
  | .Set _ _ _ => false
  | _ => true
def notSlice : Expr → Bool
  | .Slice _ _ _ _ => false
  | _ => true
def notStar : Expr → Bool
  | .Starred _ _ => false
  | _ => true
/-- no call of a name without arguments -/
def notCall0 : Expr → Bool
  | .Call (.Name _ _) [] [] _ => false
  | _ => true
/-- the names of a comprehension's block with their slots -/
def ownOf (N : List Str) : List (Str × NameKind) → Option (List (Str × Nat))
  | [] => some []
  | (x, k) :: r => match ownOf N r with
    | none => none
    | some l => match k with
      | .local => match idx x N 0 with
        | some i => some ((x, i) :: l)
        | none => some l
      | .cell => match idx x N 0 with
        | some i => some ((x, i) :: l)
        | none => some l
      | _ => some l
def Ctx.blk (c : Ctx) (scope : Scope) : Ctx := { c with sc := L2.relS scope c.sc, cellOk := false }

def tgt (c : Ctx) : Nat → Expr → Option TG
  | 0, _ => none
  | n + 1, .Name x _ => (c.stoSlot x).map .nm
  | n + 1, .Tuple es _ _ => (tgts c n es).map .tp
  | _, _ => none
where tgts (c : Ctx) : Nat → List Expr → Option TGs
  | _, [] => some .nil
  | 0, _ => none
  | n + 1, e :: r => match tgt c n e, tgts c n r with
    | some t, some l => some (.cons t l)
    | _, _ => none

/-- arguments that are kept are given for good -/
def markEs (kp : List Nat) : Nat → Es → Es
  | _, .nil => .nil
  | i, .cons e r => .cons (if kp.contains i then .val e else e) (markEs kp (i + 1) r)
def isTup : Expr → Bool
  | .Tuple _ _ _ => true
  | _ => false

mutual
def trE (c : Ctx) : Nat → Expr → Option E
  | 0, _ => none
  | n + 1, e => match e with
    | .Name x _ => match c.slot x with
      | some i => some (.var i)
      | none => match c.g x with
        | some (.int i) => some (.int i)
        | _ => none
    | .Constant (.int i) _ _ => some (.int i)
    | .Constant (.bool b) _ _ => some (.bl b)
    | .Constant .none _ _ => some .non
    | .Constant (.str s) _ _ => some (.str s)
    | .BinOp a o b _ => match bopOf o, trE c n a, trE c n b with
      | some o, some a, some b => some (.bin o a b)
      | _, _, _ => none
    | .UnaryOp .USub a _ => (trE c n a).map .neg
    | .UnaryOp .Not a _ => (trE c n a).map .not
    | .BoolOp o es p => trB c n o es
    | .Compare a [o] [b] _ => if notSet b then match trE c n a, trE c n b with
      | some a, some b => some (.cmp (copOf o) a b)
      | _, _ => none
      else none
    | .Compare a [o, o'] [b, d] _ => if notSet b && notSet d then match trE c n a, trE c n b, trE c n d with
      | some a, some b, some d => some (.cmp2 (copOf o) (copOf o') a b d)
      | _, _, _ => none
      else none
    | .IfExp t a b _ => match trE c n t, trE c n a, trE c n b with
      | some t, some a, some b => some (.ite t a b)
      | _, _, _ => none
    | .Tuple es _ _ => (trEs c n es).map .tup
    | .List es _ => (trEs c n es).map .lst
    | .Dict [] [] _ => some .dic0
    | .Subscript a (.Slice none none (some (.UnaryOp .USub (.Constant (.int 1) _ _) _)) _) _ => (trE c n a).map .rev
    | .Subscript a (.Slice lo hi none _) _ => match trE c n a, trO c n lo, trO c n hi with
      | some a, some lo, some hi => some (.sl a lo hi)
      | _, _, _ => none
    | .Subscript a i _ => if notSlice i then match trE c n a, trE c n i with
      | some a, some i => some (.ix a i)
      | _, _ => none
      else none
    | .Attribute a f _ => if notCall0 a then match trE c n a with
      | some a => if f = ("corners" : Str) then some (.fld a .corners) else if f = ("lines" : Str) then some (.fld a .lines) else none
      | none => none
      else none
    | .Call (.Name x _) args [] _ => match c.g x with
      | some (.fn f kp) => if args.isEmpty then none else (trEs c n args).map fun l => .call f (markEs kp 0 l)
      | some .web => match args with
        | [a, b] => if notStar a && notStar b then match trE c n a, trE c n b with
          | some a, some b => some (.web a b)
          | _, _ => none
          else none
        | _ => none
      | some .blt => trC c n x args
      | _ => none
    | .Call (.Attribute o m ap) args [] cp => if notCall0 o && (ap.endLine == cp.line) && decide (args.length < 30) then
      if m = ("there" : Str) then match args with
        | [] => (trE c n o).map .there
        | _ => none
      else match mtNames.lookup m with
        | some k => match o with
          | .Name y _ => match c.slot y with
            | some i => match args with
              | [] => if k = .pop then some (.mt k i .nil) else none
              | [a] => if notStar a then (trE c n a).map fun a => .mt k i (.cons a .nil) else none
              | _ => none
            | none => none
          | _ => none
        | none => none
      else none
    | .ListComp elt [⟨tg, iter, ifs, 0⟩] scope _ => match ownOf c.N scope.names with
      | some own => if L2.blkC c.N c.sc scope own then
          match trI c n (isTup tg) iter, tgt (c.blk scope) n tg, trE (c.blk scope) n elt, (match ifs with
            | [] => some (E.bl true)
            | [t] => trE (c.blk scope) n t
            | _ => none) with
          | some it, some g, some el, some cd => if g.slots.all fun i => (own.map (·.2)).contains i then some (.comp el g it cd (own.map (·.2))) else none
          | _, _, _, _ => none
        else none
      | none => none
    | _ => none
def trB (c : Ctx) : Nat → PySem.BoolOp → List Expr → Option E
  | 0, _, _ => none
  | n + 1, o, [] => none
  | n + 1, o, [a] => trE c n a
  | n + 1, o, a :: b :: r => match trE c n a, trB c n o (b :: r) with
    | some a, some b => some (match o with
      | .And => .and a b
      | .Or => .or a b)
    | _, _ => none
def trEs (c : Ctx) : Nat → List Expr → Option Es
  | 0, _ => none
  | n + 1, [] => some .nil
  | n + 1, e :: r => if notStar e then match trE c n e, trEs c n r with
    | some e, some r => some (.cons e r)
    | _, _ => none
    else none
def trO (c : Ctx) : Nat → Option Expr → Option (Option E)
  | 0, _ => none
  | n + 1, none => some none
  | n + 1, some e => (trE c n e).map some
/-- a call of a built-in -/
def trC (c : Ctx) : Nat → Str → List Expr → Option E
  | 0, _, _ => none
  | n + 1, x, args =>
    if x = ("isinstance" : Str) then match args with
      | [a, t] => if notStar a && notStar t then match trE c n a, c.ty1 t with
        | some a, some t => some (.isi a [t])
        | _, _ => none
        else none
      | _ => none
    else match bltNames.lookup x with
      | some b => match args with
        | [] => none
        | _ :: _ => (trEs c n args).map (.blt b)
      | none => none
def trI (c : Ctx) : Nat → Bool → Expr → Option It
  | 0, _, _ => none
  | n + 1, tp, e => match e with
    | .Call (.Name x _) [a] [] _ =>
      if c.isB x && x = ("range" : Str) then if notStar a then (trE c n a).map .rng1 else none
      else if c.isB x && x = ("enumerate" : Str) then if notStar a && tp then (trE c n a).map .enum else none
      else (trE c n e).map .seq
    | .Call (.Name x _) [a, b] [] _ =>
      if c.isB x && x = ("range" : Str) then if notStar a && notStar b then match trE c n a, trE c n b with
        | some a, some b => some (.rng2 a b)
        | _, _ => none
        else none
      else if c.isB x && x = ("zip" : Str) then if notStar a && notStar b && tp then match trE c n a, trE c n b with
        | some a, some b => some (.zip a b)
        | _, _ => none
        else none
      else (trE c n e).map .seq
    | _ => (trE c n e).map .seq
end

/-- names on the left, each once -/
def trNames (c : Ctx) : List Expr → Option (List (Nat × Bool))
  | [] => some []
  | .Name x _ :: r => match c.stoSlot x, trNames c r with
    | some i, some l => if l.all fun p => p.1 != i then some ((i, c.mu.contains i) :: l) else none
    | _, _ => none
  | _ :: _ => none
def Ctx.isFun (c : Ctx) : Bool := match c.sc.kind with
  | .function => true
  | _ => false
def notComp : Expr → Bool
  | .ListComp _ _ _ _ => false
  | .SetComp _ _ _ _ => false
  | .DictComp _ _ _ _ _ => false
  | _ => true
/-- a comprehension on the name's own line, the name a local: stored in the block's end -/
def lcHere (c : Ctx) (y : Str) (py : PySem.Pos) : Expr → Bool
  | .ListComp _ _ scope pos => decide (c.kind y = some .local) && (py.line == pos.line) && !(scope.names.any fun (n, k) => n == y && (k == .local || k == .cell))
  | _ => false
def isStar : Expr → Bool
  | .Starred _ _ => true
  | _ => false
def nmAt (c : Ctx) (line : Nat) : Expr → Option Str
  | .Name id pos => if c.kind id == some .local && pos.line == line then some id else none
  | _ => none
/-- which names are stored from the right; none where the order is not told -/
def swC (c : Ctx) (ts vs : List Expr) : Option (Option (List Str)) :=
  if (!(ts.length == 2 || ts.length == 3) || vs.length != ts.length) = true then some none
  else if (vs.any isStar) = true then some none
  else if ((ts.filterMap (nmAt c ((ts.head?.map (·.pos.line)).getD 0))).length != ts.length || (ts.filterMap (nmAt c ((ts.head?.map (·.pos.line)).getD 0))).eraseDups.length != (ts.filterMap (nmAt c ((ts.head?.map (·.pos.line)).getD 0))).length) = true then some none
  else if (vs.all (PySem.foldedForSure 8)) = true then some none
  else if (vs.all (PySem.constantsAlone 8)) = true then none
  else some (some (ts.filterMap (nmAt c ((ts.head?.map (·.pos.line)).getD 0))))
mutual
def trS (c : Ctx) : Nat → Stmt → Option S
  | 0, _ => none
  | n + 1, s => match s with
    | .Assign [.Name y py] e _ => match c.stoSlot y, trE c n e with
      | some i, some m => if y = ("hand" : Str) then (if notComp e then some (.setH i m) else none) else if lcHere c y py e && !c.isFun then none else some (.set i (c.mu.contains i) m)
      | _, _ => none
    | .Assign [.Tuple ts _ _] (.Tuple vs _ _) _ => if c.isFun then match swC c ts vs with
      | some _ => match trNames c ts, trEs c n vs with
        | some l, some es => if l.length ≤ 30 then some (.par l es) else none
        | _, _ => none
      | none => none
      else none
    | .Assign [.Tuple ts _ _] e _ => if notComp e then match tgt.tgts c n ts, trE c n e with
      | some g, some e => some (.unp (.tp g) e)
      | _, _ => none
      else none
    | .Assign [.Subscript (.Name y _) i _] e _ => if notSlice i then match c.slot y, trE c n i, trE c n e with
      | some k, some i, some e => some (.setIx k i e)
      | _, _, _ => none
      else none
    | .Expr e _ => if notComp e then (trE c n e).map .ex else none
    | .If t a b _ => match trE c n t, trSs c n a, trSs c n b with
      | some t, some a, some b => some (.ite t a b)
      | _, _, _ => none
    | .For tg it body [] _ => match tgt c n tg, trI c n (isTup tg) it, trSs c n body with
      | some g, some it, some b => some (.for g it b)
      | _, _, _ => none
    | .While t body [] _ => match trE c n t, trSs c n body with
      | some t, some b => some (.whl t b)
      | _, _ => none
    | .Return (some (.Name x _)) _ => (trE c n (.Name x default)).map .ret
    | .Return (some e) _ => match trE c n e with
      | some (.var _) => none
      | some m => some (.ret m)
      | none => none
    | .Return none _ => some (.ret .non)
    | .Pass _ => some .pass
    | .Break _ => some .brk
    | .Continue _ => some .cont
    | .Raise _ _ _ => some .raise
    | _ => none
def trSs (c : Ctx) : Nat → List Stmt → Option Ss
  | 0, _ => none
  | n + 1, [] => some .nil
  | n + 1, s :: r => match trS c n s, trSs c n r with
    | some s, some r => some (.cons s r)
    | _, _ => none
end
end BV

set_option Elab.async false
/-! Worlds: how data stand in the abstract heap. -/
namespace BV
open PySem (Str Addr)
open L2 (V HO Hp upd upd_same upd_ne SqL)

/-- what is fixed: the written part, the class Web -/
structure Tx where
  K : PySem.W.Frag
  C : Addr

/-- a world: what never changes, the caches of webs, the hand, what slots own -/
structure W where
  F : Addr → Prop
  L : Addr → Option (List (Nat × Nat))
  hd : Option Addr
  own : Addr → Option Nat
  lk : Addr → Prop
  /-- what was lent to this frame -/
  bor : Addr → Prop

def webFs (n : Nat) (l k : Addr) : List (Str × V) := [(("corners" : Str), V.int n), (("lines" : Str), V.ref l), (("looked" : Str), V.ref k)]
def DicAt (H : Hp) (a : Addr) (ks : List DKey) (vs : List V) : Prop :=
  ks.length = vs.length ∧ ((∃ l : List Key, ks = l.map .inl ∧ H a = some (.dK (l.zip vs))) ∨ ∃ l : List (List Key), ks = l.map .inr ∧ H a = some (.dT (l.zip vs)))
def RepPairs (w : W) (H : Hp) : List (Nat × Nat) → List V → Prop
  | [], [] => True
  | p :: r, v :: vs => (∃ b, v = .ref b ∧ w.F b ∧ H b = some (.tup [.int p.1, .int p.2])) ∧ RepPairs w H r vs
  | _, _ => False

mutual
/-- the value v is the datum d, for good -/
def Rep (T : Tx) (w : W) (H : Hp) : D → V → Prop
  | .non, v => v = .non
  | .bl b, v => v = .bl b
  | .int i, v => v = .int i
  | .str s, v => v = .str s
  | .tup l, v => ∃ a xs, v = .ref a ∧ w.F a ∧ H a = some (.tup xs) ∧ Reps T w H l xs
  | .lst l, v => ∃ a xs, v = .ref a ∧ w.F a ∧ H a = some (.lst xs) ∧ Reps T w H l xs
  | .dic l, v => ∃ a vs, v = .ref a ∧ w.F a ∧ DicAt H a (l.map (·.1)) vs ∧ RepVs T w H l vs
  | .web n ls, v => webOk n ls = true ∧ ∃ a dx l k xs, v = .ref a ∧ w.F a ∧ H a = some (.ins T.C dx (webFs n l k)) ∧ w.F l ∧ H l = some (.tup xs) ∧ RepPairs w H ls xs ∧ w.L k = some ls
  | .scr ns, v => ∃ a, v = .ref a ∧ (w.F a ∨ ∀ H2, SqL T.K H2 a (ns.map V.int)) ∧ SqL T.K H a (ns.map V.int)
  | .hand, v => ∃ a, v = .ref a ∧ w.hd = some a
def Reps (T : Tx) (w : W) (H : Hp) : List D → List V → Prop
  | [], vs => vs = []
  | d :: r, vs => ∃ v vs', vs = v :: vs' ∧ Rep T w H d v ∧ Reps T w H r vs'
def RepVs (T : Tx) (w : W) (H : Hp) : List (DKey × D) → List V → Prop
  | [], vs => vs = []
  | (_, d) :: r, vs => ∃ v vs', vs = v :: vs' ∧ Rep T w H d v ∧ RepVs T w H r vs'
end

/-- a list or a dict at an address -/
def Top (T : Tx) (w : W) (H : Hp) : D → Addr → Prop
  | .lst l, a => ∃ xs, H a = some (.lst xs) ∧ Reps T w H l xs
  | .dic l, a => ∃ vs, DicAt H a (l.map (·.1)) vs ∧ RepVs T w H l vs
  | _, _ => False
/-- readable -/
def RepU (T : Tx) (w : W) (H : Hp) (d : D) (v : V) : Prop := Rep T w H d v ∨ ∃ a, v = .ref a ∧ Top T w H d a

/-! ### growing -/
structure Gr (w : W) (H : Hp) (w' : W) (H' : Hp) : Prop where
  F : ∀ a, w.F a → w'.F a ∧ H' a = H a
  L : ∀ k ls, w.L k = some ls → w'.L k = some ls
  hd : ∀ a, w.hd = some a → w'.hd = some a

section
variable {T : Tx} {w w' : W} {H H' : Hp}
theorem SqL.same {K : PySem.W.Frag} {a : Addr} {xs : List V} (e : H' a = H a) (h : SqL K H a xs) : SqL K H' a xs := by
  rcases h with (h | ⟨o, h⟩) | h
  · exact .inl (.inl (e.trans h))
  · exact .inl (.inr ⟨o, e.trans h⟩)
  · exact .inr h
theorem DicAt.same {a : Addr} {ks : List DKey} {vs : List V} (e : H' a = H a) (h : DicAt H a ks vs) : DicAt H' a ks vs := by
  obtain ⟨hl, h⟩ := h
  refine ⟨hl, ?_⟩
  rcases h with ⟨l, e1, e2⟩ | ⟨l, e1, e2⟩
  · exact .inl ⟨l, e1, e.trans e2⟩
  · exact .inr ⟨l, e1, e.trans e2⟩
theorem RepPairs.mono (g : Gr w H w' H') : ∀ {ls : List (Nat × Nat)} {vs : List V}, RepPairs w H ls vs → RepPairs w' H' ls vs
  | [], [], _ => trivial
  | [], _ :: _, h => h.elim
  | _ :: _, [], h => h.elim
  | p :: r, v :: vs, h => by
    obtain ⟨⟨b, e, hf, hb⟩, h2⟩ := h
    exact ⟨⟨b, e, (g.F b hf).1, (g.F b hf).2.trans hb⟩, RepPairs.mono g h2⟩
mutual
theorem Rep.mono (g : Gr w H w' H') : ∀ {d : D} {v : V}, Rep T w H d v → Rep T w' H' d v
  | .non, _, h => by simp only [Rep] at h ⊢; exact h
  | .bl _, _, h => by simp only [Rep] at h ⊢; exact h
  | .int _, _, h => by simp only [Rep] at h ⊢; exact h
  | .str _, _, h => by simp only [Rep] at h ⊢; exact h
  | .tup l, _, h => by
    simp only [Rep] at h ⊢
    obtain ⟨a, xs, e, hf, ha, hr⟩ := h
    exact ⟨a, xs, e, (g.F a hf).1, (g.F a hf).2.trans ha, Reps.mono g hr⟩
  | .lst l, _, h => by
    simp only [Rep] at h ⊢
    obtain ⟨a, xs, e, hf, ha, hr⟩ := h
    exact ⟨a, xs, e, (g.F a hf).1, (g.F a hf).2.trans ha, Reps.mono g hr⟩
  | .dic l, _, h => by
    simp only [Rep] at h ⊢
    obtain ⟨a, xs, e, hf, ha, hr⟩ := h
    exact ⟨a, xs, e, (g.F a hf).1, ha.same (g.F a hf).2, RepVs.mono g hr⟩
  | .web n ls, _, h => by
    simp only [Rep] at h ⊢
    obtain ⟨hw, a, dx, l, k, xs, e, hf, ha, hl, hx, hp, hk⟩ := h
    exact ⟨hw, a, dx, l, k, xs, e, (g.F a hf).1, (g.F a hf).2.trans ha, (g.F l hl).1, (g.F l hl).2.trans hx, hp.mono g, g.L k ls hk⟩
  | .scr ns, _, h => by
    simp only [Rep] at h ⊢
    obtain ⟨a, e, hf, ha⟩ := h
    rcases hf with hf | hf
    · exact ⟨a, e, .inl (g.F a hf).1, SqL.same (g.F a hf).2 ha⟩
    · exact ⟨a, e, .inr hf, hf H'⟩
  | .hand, _, h => by
    simp only [Rep] at h ⊢
    obtain ⟨a, e, ha⟩ := h
    exact ⟨a, e, g.hd a ha⟩
theorem Reps.mono (g : Gr w H w' H') : ∀ {l : List D} {vs : List V}, Reps T w H l vs → Reps T w' H' l vs
  | [], _, h => by simp only [Reps] at h ⊢; exact h
  | d :: r, _, h => by
    simp only [Reps] at h ⊢
    obtain ⟨v, vs', e, h1, h2⟩ := h
    exact ⟨v, vs', e, Rep.mono g h1, Reps.mono g h2⟩
theorem RepVs.mono (g : Gr w H w' H') : ∀ {l : List (DKey × D)} {vs : List V}, RepVs T w H l vs → RepVs T w' H' l vs
  | [], _, h => by simp only [RepVs] at h ⊢; exact h
  | (_, d) :: r, _, h => by
    simp only [RepVs] at h ⊢
    obtain ⟨v, vs', e, h1, h2⟩ := h
    exact ⟨v, vs', e, Rep.mono g h1, RepVs.mono g h2⟩
end
theorem Top.mono (g : Gr w H w' H') {d : D} {a : Addr} (e : H' a = H a) (h : Top T w H d a) : Top T w' H' d a := by
  cases d <;> try exact h.elim
  · obtain ⟨xs, h1, h2⟩ := h
    exact ⟨xs, e.trans h1, h2.mono g⟩
  · obtain ⟨xs, h1, h2⟩ := h
    exact ⟨xs, h1.same e, h2.mono g⟩
end
theorem Gr.refl (w : W) (H : Hp) : Gr w H w H := ⟨fun _ h => ⟨h, rfl⟩, fun _ _ h => h, fun _ h => h⟩
theorem Gr.trans {w w1 w2 : W} {H H1 H2 : Hp} (a : Gr w H w1 H1) (b : Gr w1 H1 w2 H2) : Gr w H w2 H2 :=
  ⟨fun x h => ⟨(b.F x (a.F x h).1).1, (b.F x (a.F x h).1).2.trans (a.F x h).2⟩, fun k ls h => b.L k ls (a.L k ls h), fun x h => b.hd x (a.hd x h)⟩

/-! ### lists of values -/
section
variable {T : Tx} {w : W} {H : Hp}
theorem Reps.length : ∀ {l : List D} {vs : List V}, Reps T w H l vs → l.length = vs.length
  | [], _, h => by simp only [Reps] at h; subst h; rfl
  | d :: r, _, h => by
    simp only [Reps] at h
    obtain ⟨v, vs', e, _, h2⟩ := h
    subst e
    simp [Reps.length h2]
theorem RepVs.length : ∀ {l : List (DKey × D)} {vs : List V}, RepVs T w H l vs → l.length = vs.length
  | [], _, h => by simp only [RepVs] at h; subst h; rfl
  | (_, d) :: r, _, h => by
    simp only [RepVs] at h
    obtain ⟨v, vs', e, _, h2⟩ := h
    subst e
    simp [RepVs.length h2]
theorem Reps.append : ∀ {l k : List D} {vs us : List V}, Reps T w H l vs → Reps T w H k us → Reps T w H (l ++ k) (vs ++ us)
  | [], _, _, _, h, g => by simp only [Reps] at h; subst h; exact g
  | d :: r, _, _, _, h, g => by
    simp only [Reps] at h
    obtain ⟨v, vs', e, h1, h2⟩ := h
    subst e
    simp only [List.cons_append, Reps]
    exact ⟨v, _, rfl, h1, Reps.append h2 g⟩
theorem Reps.get : ∀ {l : List D} {vs : List V} {i : Nat} {d : D}, Reps T w H l vs → l[i]? = some d → ∃ v, vs[i]? = some v ∧ Rep T w H d v
  | [], _, _, _, _, e => by simp at e
  | x :: r, _, 0, d, h, e => by
    simp only [Reps] at h
    obtain ⟨v, vs', e2, h1, h2⟩ := h
    subst e2
    simp at e
    subst e
    exact ⟨v, rfl, h1⟩
  | x :: r, _, i + 1, d, h, e => by
    simp only [Reps] at h
    obtain ⟨v, vs', e2, h1, h2⟩ := h
    subst e2
    obtain ⟨u, a, b⟩ := Reps.get h2 (show r[i]? = some d by simpa using e)
    exact ⟨u, by simpa using a, b⟩
theorem Reps.take : ∀ {l : List D} {vs : List V} (n : Nat), Reps T w H l vs → Reps T w H (l.take n) (vs.take n)
  | [], _, n, h => by simp only [Reps] at h; subst h; simp [Reps]
  | _ :: _, _, 0, h => by simp [Reps]
  | x :: r, _, n + 1, h => by
    simp only [Reps] at h
    obtain ⟨v, vs', e2, h1, h2⟩ := h
    subst e2
    simp only [List.take_succ_cons, Reps]
    exact ⟨v, _, rfl, h1, Reps.take n h2⟩
theorem Reps.drop : ∀ {l : List D} {vs : List V} (n : Nat), Reps T w H l vs → Reps T w H (l.drop n) (vs.drop n)
  | [], _, n, h => by simp only [Reps] at h; subst h; simp [Reps]
  | _ :: _, _, 0, h => h
  | x :: r, _, n + 1, h => by
    simp only [Reps] at h
    obtain ⟨v, vs', e2, h1, h2⟩ := h
    subst e2
    simp only [List.drop_succ_cons]
    exact Reps.drop n h2
theorem Reps.set {d : D} {v : V} (hd : Rep T w H d v) : ∀ {l : List D} {vs : List V} (i : Nat), Reps T w H l vs → Reps T w H (l.set i d) (vs.set i v)
  | [], _, _, h => by simp only [Reps] at h; subst h; simp [Reps]
  | x :: r, _, 0, h => by
    simp only [Reps] at h
    obtain ⟨u, vs', e2, h1, h2⟩ := h
    subst e2
    simp only [List.set_cons_zero, Reps]
    exact ⟨v, _, rfl, hd, h2⟩
  | x :: r, _, i + 1, h => by
    simp only [Reps] at h
    obtain ⟨u, vs', e2, h1, h2⟩ := h
    subst e2
    simp only [List.set_cons_succ, Reps]
    exact ⟨u, _, rfl, h1, Reps.set hd i h2⟩
theorem Reps.reverse {l : List D} {vs : List V} (h : Reps T w H l vs) : Reps T w H l.reverse vs.reverse := by
  induction l generalizing vs with
  | nil => simp only [Reps] at h; subst h; simp [Reps]
  | cons d r ih =>
    simp only [Reps] at h
    obtain ⟨v, vs', e, h1, h2⟩ := h
    subst e
    rw [List.reverse_cons, List.reverse_cons]
    exact Reps.append (ih h2) (by simp only [Reps]; exact ⟨v, [], rfl, h1, rfl⟩)
theorem Reps.dropLast {l : List D} {vs : List V} (h : Reps T w H l vs) : Reps T w H l.dropLast vs.dropLast := by
  rw [List.dropLast_eq_take, List.dropLast_eq_take, h.length]
  exact h.take _
theorem Reps.eraseIdx : ∀ {l : List D} {vs : List V} (i : Nat), Reps T w H l vs → Reps T w H (l.eraseIdx i) (vs.eraseIdx i)
  | [], _, _, h => by simp only [Reps] at h; subst h; simp [Reps]
  | x :: r, _, 0, h => by
    simp only [Reps] at h
    obtain ⟨u, vs', e2, h1, h2⟩ := h
    subst e2
    exact h2
  | x :: r, _, i + 1, h => by
    simp only [Reps] at h
    obtain ⟨u, vs', e2, h1, h2⟩ := h
    subst e2
    simp only [List.eraseIdx_cons_succ, Reps]
    exact ⟨u, _, rfl, h1, Reps.eraseIdx i h2⟩
theorem Reps.rep {l : List D} {vs : List V} (h : Reps T w H l vs) : ∀ k : Nat, Reps T w H (List.replicate k l).flatten (List.replicate k vs).flatten
  | 0 => by simp [Reps]
  | k + 1 => by
    rw [List.replicate_succ, List.replicate_succ, List.flatten_cons, List.flatten_cons]
    exact h.append (Reps.rep h k)
theorem Reps.cut {l : List D} {vs : List V} (h : Reps T w H l vs) (lo hi : Option Int) : Reps T w H (BV.cut l lo hi) (BV.cut vs lo hi) := by
  unfold BV.cut
  rw [h.length]
  exact (h.drop _).take _
theorem Reps.ints : ∀ {l : List D} {ns : List Int} {vs : List V}, Reps T w H l vs → intsD l = some ns → vs = ns.map V.int
  | [], ns, _, h, e => by
    simp only [Reps] at h
    simp only [BV.intsD, Option.some.injEq] at e
    subst h e
    rfl
  | d :: r, ns, _, h, e => by
    simp only [Reps] at h
    obtain ⟨v, vs', e2, h1, h2⟩ := h
    subst e2
    cases d with
    | int i =>
      simp only [BV.intsD, Option.map_eq_some_iff] at e
      obtain ⟨ms, em, e3⟩ := e
      subst e3
      simp only [Rep] at h1
      subst h1
      rw [List.map_cons, Reps.ints h2 em]
    | _ => simp [BV.intsD] at e
theorem Reps.of_ints : ∀ (ns : List Int), Reps T w H (ns.map .int) (ns.map V.int)
  | [] => by simp [Reps]
  | n :: r => by
    simp only [List.map_cons, Reps]
    exact ⟨_, _, rfl, by simp [Rep], Reps.of_ints r⟩
theorem Reps.bools : ∀ {l : List D} {ns : List Bool} {vs : List V}, Reps T w H l vs → boolsD l = some ns → vs = ns.map V.bl
  | [], ns, _, h, e => by
    simp only [Reps] at h
    simp only [BV.boolsD, Option.some.injEq] at e
    subst h e
    rfl
  | d :: r, ns, _, h, e => by
    simp only [Reps] at h
    obtain ⟨v, vs', e2, h1, h2⟩ := h
    subst e2
    cases d with
    | bl i =>
      simp only [BV.boolsD, Option.map_eq_some_iff] at e
      obtain ⟨ms, em, e3⟩ := e
      subst e3
      simp only [Rep] at h1
      subst h1
      rw [List.map_cons, Reps.bools h2 em]
    | _ => simp [BV.boolsD] at e
end
end BV

/-! States of a frame, steps, readings. -/
namespace BV
open PySem (Str Addr Expr)
open L2 (V HO Hp upd upd_same upd_ne SqL Cx PE TE VK)

def thereV (ls : List (Nat × Nat)) : List (List Key × V) := ls.map fun p => ([Sum.inl (p.1 : Int), Sum.inl (p.2 : Int)], V.bl true)
def HandOk (T : Tx) (w : W) (H : Hp) : Option Addr → Option (List D) → Prop
  | none, none => True
  | some a, some l => ∃ xs, H a = some (.lst xs) ∧ Reps T w H l xs
  | _, _ => False
structure Wf (T : Tx) (w : W) (H : Hp) (h : Option (List D)) : Prop where
  exF : ∀ a, w.F a → H a ≠ none ∧ w.L a = none ∧ w.own a = none ∧ w.hd ≠ some a
  exL : ∀ a, w.L a ≠ none → w.own a = none ∧ w.hd ≠ some a
  exO : ∀ a i, w.own a = some i → H a ≠ none ∧ w.hd ≠ some a
  cache : ∀ k ls, w.L k = some ls → H k = some (.dK []) ∨ ∃ e, H k = some (.dK [(Sum.inr ("there" : Str), V.ref e)]) ∧ w.F e ∧ H e = some (.dT (thereV ls))
  hand : HandOk T w H w.hd h
  lkd : ∀ a, w.lk a → H a ≠ none
  bor : ∀ a, w.bor a → w.L a = none ∧ w.hd ≠ some a ∧ w.own a = none ∧ H a ≠ none
structure SR (T : Tx) (w : W) (σ : L2.St) (H : Hp) (z : Z) : Prop where
  wf : Wf T w H z.h
  len : z.g.length = σ.length
  frz : ∀ i d, z.at i = some (.frz, d) → ∃ v, σ[i]? = some (some v) ∧ Rep T w H d v
  own : ∀ i d, z.at i = some (.own, d) → ∃ a, σ[i]? = some (some (.ref a)) ∧ w.own a = some i ∧ Top T w H d a
  bor : ∀ i d, z.at i = some (.bor, d) → ∃ a, σ[i]? = some (some (.ref a)) ∧ w.bor a ∧ Top T w H d a
  lk : ∀ a i, w.own a = some i → w.lk a → i ∈ z.lk
structure Ext (w : W) (H : Hp) (w' : W) (H' : Hp) : Prop where
  F : ∀ a, w.F a → w'.F a
  Fn : ∀ a, w'.F a → w.F a ∨ H a = none ∨ ∃ i, w.own a = some i
  L : ∀ k ls, w.L k = some ls → w'.L k = some ls
  Ln : ∀ k, w'.L k ≠ none → w.L k ≠ none ∨ H k = none
  hd : ∀ a, w.hd = some a → w'.hd = some a
  hdn : ∀ a, w'.hd = some a → w.hd = some a ∨ H a = none
  own : ∀ a i, w'.own a = some i → w.own a = some i ∨ H a = none
  lk : w'.lk = w.lk
  bor : w'.bor = w.bor
  keep : ∀ a o, H a = some o → w.L a = none → w.hd ≠ some a → (w.own a = none ∨ w.lk a) → H' a = some o
  dom : ∀ a, H a ≠ none → H' a ≠ none

theorem Ext.refl (w : W) (H : Hp) : Ext w H w H := ⟨fun _ h => h, fun _ h => .inl h, fun _ _ h => h, fun _ h => .inl h, fun _ h => h, fun _ h => .inl h, fun _ i h => .inl h, rfl, rfl, fun _ _ h _ _ _ => h, fun _ h => h⟩
theorem Ext.trans {w w1 w2 : W} {H H1 H2 : Hp} (x : Ext w H w1 H1) (y : Ext w1 H1 w2 H2) : Ext w H w2 H2 where
  F := fun a h => y.F a (x.F a h)
  Fn := fun a h => by
    rcases y.Fn a h with h | h | ⟨i, h⟩
    · exact x.Fn a h
    · refine .inr (.inl ?_)
      cases e : H a with
      | none => rfl
      | some o => exact absurd h (x.dom a (by rw [e]; simp))
    · rcases x.own a i h with h | h
      · exact .inr (.inr ⟨i, h⟩)
      · exact .inr (.inl h)
  L := fun k ls h => y.L k ls (x.L k ls h)
  Ln := fun k h => by
    rcases y.Ln k h with h | h
    · exact x.Ln k h
    · refine .inr ?_
      cases e : H k with
      | none => rfl
      | some o => exact absurd h (x.dom k (by rw [e]; simp))
  hd := fun a h => y.hd a (x.hd a h)
  hdn := fun a h => by
    rcases y.hdn a h with h | h
    · exact x.hdn a h
    · refine .inr ?_
      cases e : H a with
      | none => rfl
      | some o => exact absurd h (x.dom a (by rw [e]; simp))
  lk := y.lk.trans x.lk
  bor := y.bor.trans x.bor
  own := fun a i h => by
    rcases y.own a i h with h | h
    · exact x.own a i h
    · refine .inr ?_
      cases e : H a with
      | none => rfl
      | some o => exact absurd h (x.dom a (by rw [e]; simp))
  keep := fun a o h1 h2 h3 h4 => by
    have e := x.keep a o h1 h2 h3 h4
    refine y.keep a o e ?_ ?_ ?_
    · cases q : w1.L a with
      | none => rfl
      | some ls =>
        rcases x.Ln a (by rw [q]; simp) with z | z
        · exact absurd h2 z
        · rw [h1] at z; cases z
    · intro q
      rcases x.hdn a q with z | z
      · exact h3 z
      · rw [h1] at z; cases z
    · rcases h4 with h4 | h4
      · left
        cases q : w1.own a with
        | none => rfl
        | some i =>
          rcases x.own a i q with z | z
          · rw [h4] at z; cases z
          · rw [h1] at z; cases z
      · right
        rw [x.lk]
        exact h4
  dom := fun a h => y.dom a (x.dom a h)

section
variable {T : Tx} {w w' : W} {H H' : Hp} {h : Option (List D)} {σ : L2.St} {z : Z}
/-- what never changes stays -/
theorem Ext.gr (x : Ext w H w' H') (f : Wf T w H h) : Gr w H w' H' where
  F := fun a ha => by
    obtain ⟨h1, h2, h3, h4⟩ := f.exF a ha
    refine ⟨x.F a ha, ?_⟩
    cases e : H a with
    | none => exact absurd e h1
    | some o => exact x.keep a o e h2 h4 (.inl h3)
  L := x.L
  hd := x.hd

def W.add (w : W) (p : Addr) : W := { w with F := fun a => a = p ∨ w.F a }
theorem Wf.L_some (f : Wf T w H h) {k : Addr} (q : w.L k ≠ none) : H k ≠ none := by
  cases e : w.L k with
  | none => exact absurd e q
  | some ls =>
    rcases f.cache k ls e with z | ⟨_, z, _⟩
    · rw [z]; simp
    · rw [z]; simp
theorem Wf.hd_some (f : Wf T w H h) {a : Addr} (q : w.hd = some a) : H a ≠ none := by
  have z := f.hand
  rw [q] at z
  cases h with
  | none => exact z.elim
  | some l =>
    obtain ⟨xs, e, _⟩ := z
    rw [e]; simp
theorem Wf.fresh (f : Wf T w H h) {p : Addr} (q : H p = none) : ¬ w.F p ∧ w.L p = none ∧ w.own p = none ∧ w.hd ≠ some p := by
  refine ⟨fun z => (f.exF p z).1 q, ?_, ?_, fun z => f.hd_some z q⟩
  · cases e : w.L p with
    | none => rfl
    | some ls => exact absurd q (f.L_some (by rw [e]; simp))
  · cases e : w.own p with
    | none => rfl
    | some i => exact absurd q (f.exO p i e).1
theorem gr_alloc (f : Wf T w H h) {p : Addr} {o : HO} (q : H p = none) : Gr w H w (upd H p o) :=
  ⟨fun a ha => ⟨ha, upd_ne (fun e => (f.exF a ha).1 (by rw [e]; exact q))⟩, fun _ _ x => x, fun _ x => x⟩
theorem gr_add {p : Addr} : Gr w H (w.add p) H := ⟨fun a ha => ⟨.inr ha, rfl⟩, fun _ _ x => x, fun _ x => x⟩
theorem gr_allocF (f : Wf T w H h) {p : Addr} {o : HO} (q : H p = none) : Gr w H (w.add p) (upd H p o) := (gr_alloc f q).trans gr_add
theorem ext_alloc (f : Wf T w H h) {p : Addr} {o : HO} (q : H p = none) : Ext w H w (upd H p o) :=
  ⟨fun _ x => x, fun _ x => .inl x, fun _ _ x => x, fun _ x => .inl x, fun _ x => x, fun _ x => .inl x, fun _ i x => .inl x, rfl, rfl,
    fun a u e _ _ _ => by rw [upd_ne (fun z => by rw [z, q] at e; cases e)]; exact e,
    fun a e => by
      by_cases z : a = p
      · subst z; exact absurd q e
      · rw [upd_ne z]; exact e⟩
theorem ext_allocF (f : Wf T w H h) {p : Addr} {o : HO} (q : H p = none) : Ext w H (w.add p) (upd H p o) :=
  ⟨fun _ x => .inr x, fun a x => by
    rcases x with x | x
    · subst x; exact .inr (.inl q)
    · exact .inl x, fun _ _ x => x, fun _ x => .inl x, fun _ x => x, fun _ x => .inl x, fun _ i x => .inl x, rfl, rfl, (ext_alloc f q).keep, (ext_alloc f q).dom⟩
theorem HandOk.mono (g : Gr w H w' H') {o : Option Addr} (k : ∀ a, o = some a → H' a = H a) (x : HandOk T w H o h) : HandOk T w' H' o h := by
  cases o with
  | none => cases h with
    | none => trivial
    | some l => exact x.elim
  | some a => cases h with
    | none => exact x.elim
    | some l =>
      obtain ⟨xs, e, r⟩ := x
      exact ⟨xs, (k a rfl).trans e, r.mono g⟩
theorem Wf.alloc (f : Wf T w H h) {p : Addr} {o : HO} (q : H p = none) : Wf T w (upd H p o) h where
  exF := fun a ha => by
    obtain ⟨h1, h2, h3, h4⟩ := f.exF a ha
    exact ⟨(ext_alloc f q).dom a h1, h2, h3, h4⟩
  exL := f.exL
  exO := fun a i ha => ⟨(ext_alloc f q).dom a (f.exO a i ha).1, (f.exO a i ha).2⟩
  cache := fun k ls e => by
    have nk : k ≠ p := fun z => f.L_some (k := k) (by rw [e]; simp) (by rw [z]; exact q)
    rcases f.cache k ls e with z | ⟨e2, z1, z2, z3⟩
    · exact .inl ((upd_ne nk).trans z)
    · exact .inr ⟨e2, (upd_ne nk).trans z1, z2, (upd_ne (fun x => (f.exF e2 z2).1 (by rw [x]; exact q))).trans z3⟩
  hand := f.hand.mono (gr_alloc f q) fun a e => upd_ne fun z => f.hd_some e (by rw [z]; exact q)
  lkd := fun a e => (ext_alloc f q).dom a (f.lkd a e)
  bor := fun a e => let ⟨h1, h2, h3, h4⟩ := f.bor a e; ⟨h1, h2, h3, (ext_alloc f q).dom a h4⟩
theorem Wf.allocF (f : Wf T w H h) {p : Addr} {o : HO} (q : H p = none) : Wf T (w.add p) (upd H p o) h where
  exF := fun a ha => by
    rcases ha with ha | ha
    · subst ha
      obtain ⟨h1, h2, h3, h4⟩ := f.fresh q
      exact ⟨by rw [upd_same]; simp, h2, h3, h4⟩
    · exact (f.alloc q).exF a ha
  exL := f.exL
  exO := (f.alloc q).exO
  cache := fun k ls e => by
    rcases (f.alloc (o := o) q).cache k ls e with z | ⟨e2, z1, z2, z3⟩
    · exact .inl z
    · exact .inr ⟨e2, z1, .inr z2, z3⟩
  hand := f.hand.mono (gr_allocF f q) fun a e => upd_ne fun z => f.hd_some e (by rw [z]; exact q)
  lkd := (f.alloc q).lkd
  bor := (f.alloc q).bor
theorem SR.alloc (s : SR T w σ H z) {p : Addr} {o : HO} (q : H p = none) : SR T w σ (upd H p o) z where
  wf := s.wf.alloc q
  len := s.len
  frz := fun i d e => let ⟨v, e1, r⟩ := s.frz i d e; ⟨v, e1, r.mono (gr_alloc s.wf q)⟩
  own := fun i d e => let ⟨a, e1, e2, r⟩ := s.own i d e; ⟨a, e1, e2, r.mono (gr_alloc s.wf q) (upd_ne fun x => (s.wf.exO a i e2).1 (by rw [x]; exact q))⟩
  bor := fun i d e => let ⟨a, e1, e2, r⟩ := s.bor i d e; ⟨a, e1, e2, r.mono (gr_alloc s.wf q) (upd_ne fun x => (s.wf.bor a e2).2.2.2 (by rw [x]; exact q))⟩
  lk := s.lk
theorem SR.allocF (s : SR T w σ H z) {p : Addr} {o : HO} (q : H p = none) : SR T (w.add p) σ (upd H p o) z where
  wf := s.wf.allocF q
  len := s.len
  frz := fun i d e => let ⟨v, e1, r⟩ := s.frz i d e; ⟨v, e1, r.mono (gr_allocF s.wf q)⟩
  own := fun i d e => let ⟨a, e1, e2, r⟩ := s.own i d e; ⟨a, e1, e2, r.mono (gr_allocF s.wf q) (upd_ne fun x => (s.wf.exO a i e2).1 (by rw [x]; exact q))⟩
  bor := fun i d e => let ⟨a, e1, e2, r⟩ := s.bor i d e; ⟨a, e1, e2, r.mono (gr_allocF s.wf q) (upd_ne fun x => (s.wf.bor a e2).2.2.2 (by rw [x]; exact q))⟩
  lk := s.lk
end

/-! ### results -/
/-- a result: for good, or a new list or dict that nothing else names; H0: the heap ahead -/
def RepR (T : Tx) (w : W) (H H0 : Hp) (o : Bool) (d : D) (v : V) : Prop :=
  match o with
  | false => Rep T w H d v
  | true => ∃ a, v = .ref a ∧ H0 a = none ∧ H a ≠ none ∧ ¬ w.F a ∧ w.L a = none ∧ w.hd ≠ some a ∧ w.own a = none ∧ Top T w H d a
section
variable {T : Tx} {w w' : W} {H H0 H' : Hp} {h : Option (List D)} {σ : L2.St} {z : Z} {o : Bool} {d : D} {v : V}
theorem Top.rep {a : Addr} (hf : w.F a) (t : Top T w H d a) : Rep T w H d (.ref a) := by
  cases d <;> try exact t.elim
  · obtain ⟨xs, h1, h2⟩ := t
    simp only [Rep]
    exact ⟨a, xs, rfl, hf, h1, h2⟩
  · obtain ⟨xs, h1, h2⟩ := t
    simp only [Rep]
    exact ⟨a, xs, rfl, hf, h1, h2⟩
theorem Wf.add (f : Wf T w H h) {p : Addr} (h1 : H p ≠ none) (h2 : w.L p = none) (h3 : w.own p = none) (h4 : w.hd ≠ some p) : Wf T (w.add p) H h where
  exF := fun a ha => by
    rcases ha with ha | ha
    · subst ha; exact ⟨h1, h2, h3, h4⟩
    · exact f.exF a ha
  exL := f.exL
  exO := f.exO
  cache := fun k ls e => by
    rcases f.cache k ls e with z | ⟨e2, z1, z2, z3⟩
    · exact .inl z
    · exact .inr ⟨e2, z1, .inr z2, z3⟩
  hand := f.hand.mono gr_add fun _ _ => rfl
  lkd := f.lkd
  bor := f.bor
theorem SR.add (s : SR T w σ H z) {p : Addr} (h1 : H p ≠ none) (h2 : w.L p = none) (h3 : w.own p = none) (h4 : w.hd ≠ some p) : SR T (w.add p) σ H z where
  wf := s.wf.add h1 h2 h3 h4
  len := s.len
  frz := fun i d e => let ⟨v, e1, r⟩ := s.frz i d e; ⟨v, e1, r.mono gr_add⟩
  own := fun i d e => let ⟨a, e1, e2, r⟩ := s.own i d e; ⟨a, e1, e2, r.mono gr_add rfl⟩
  bor := fun i d e => let ⟨a, e1, e2, r⟩ := s.bor i d e; ⟨a, e1, e2, r.mono gr_add rfl⟩
  lk := s.lk
/-- a new thing is kept for good -/
theorem RepR.freeze (s : SR T w' σ H' z) (x : Ext w H w' H') (r : RepR T w' H' H o d v) : ∃ w2, SR T w2 σ H' z ∧ Ext w H w2 H' ∧ Rep T w2 H' d v := by
  cases o with
  | false => exact ⟨w', s, x, r⟩
  | true =>
    obtain ⟨a, rfl, h0, h1, h2, h3, h4, h5, t⟩ := r
    refine ⟨w'.add a, s.add h1 h3 h5 h4, ⟨fun b q => .inr (x.F b q), fun b q => ?_, x.L, x.Ln, x.hd, x.hdn, x.own, x.lk, x.bor, x.keep, x.dom⟩, (t.mono gr_add rfl).rep (.inl rfl)⟩
    rcases q with q | q
    · subst q; exact .inr (.inl h0)
    · exact x.Fn b q
end

/-! ### readings -/
/-- an expression that does f -/
def tE (T : Tx) (f : EvT) : TE := fun σ H Q => ∃ w z z' o d, SR T w σ H z ∧ f z = some (z', o, d) ∧ ∀ v w' H', SR T w' σ H' z' → Ext w H w' H' → RepR T w' H' H o d v → Q v H'
def OpdRep (T : Tx) (w : W) (σ : L2.St) (H : Hp) : Opd → V → Prop
  | .slot i, v => σ[i]? = some (some v)
  | .val d, v => Rep T w H d v
def tO (T : Tx) (f : OpT) : TE := fun σ H Q => ∃ w z z' o, SR T w σ H z ∧ f z = some (z', o) ∧ ∀ v w' H', SR T w' σ H' z' → Ext w H w' H' → OpdRep T w' σ H' o v → Q v H'
theorem PE.imp {X : Cx} {e : Expr} {t u : TE} (h : PE X e t) (q : ∀ σ H Q, u σ H Q → t σ H Q) : PE X e u := ⟨fun pins s σ H Q I hw => h.run pins s σ H Q I (q σ H Q hw)⟩
section
variable {T : Tx} {w w' : W} {H H' : Hp} {σ : L2.St} {z : Z} {o : Opd} {d : D} {v : V}
theorem OpdRep.mono (g : Gr w H w' H') (r : OpdRep T w σ H o v) : OpdRep T w' σ H' o v := by
  cases o with
  | slot i => exact r
  | val d => exact Rep.mono g r
/-- at the use -/
theorem OpdRep.use (s : SR T w σ H z) (r : OpdRep T w σ H o v) (e : o.get z = some d) : RepU T w H d v := by
  cases o with
  | val d' =>
    simp only [Opd.get, Option.some.injEq] at e
    subst e
    exact .inl r
  | slot i =>
    simp only [Opd.get, Option.map_eq_some_iff] at e
    obtain ⟨⟨k, d'⟩, e1, e2⟩ := e
    simp only at e2
    subst e2
    have r : σ[i]? = some (some v) := r
    cases k with
    | frz =>
      obtain ⟨u, h1, h2⟩ := s.frz i d' e1
      rw [r] at h1
      cases h1
      exact .inl h2
    | own =>
      obtain ⟨a, h1, _, h2⟩ := s.own i d' e1
      rw [r] at h1
      cases h1
      exact .inr ⟨a, rfl, h2⟩
    | bor =>
      obtain ⟨a, h1, _, h2⟩ := s.bor i d' e1
      rw [r] at h1
      cases h1
      exact .inr ⟨a, rfl, h2⟩
/-- the slot of a name -/
theorem SR.slot (s : SR T w σ H z) {i : Nat} {k : Ow} (e : z.at i = some (k, d)) : ∃ v, σ[i]? = some (some v) := by
  cases k with
  | frz => obtain ⟨u, h1, _⟩ := s.frz i d e; exact ⟨u, h1⟩
  | own => obtain ⟨u, h1, _⟩ := s.own i d e; exact ⟨_, h1⟩
  | bor => obtain ⟨u, h1, _⟩ := s.bor i d e; exact ⟨_, h1⟩
/-- a name read where it stays -/
theorem pe_slot {X : Cx} {i : Nat} {x : Str} {pos : PySem.Pos} (h : PE X (.Name x pos) (L2.tVar i)) (r : EvT) : PE X (.Name x pos) (tO T (opd (.var i) r)) :=
  PE.imp h fun σ H Q ⟨w, z, z', o, s, e, q⟩ => by
    simp only [opd] at e
    split at e
    · rename_i p hp
      cases e
      obtain ⟨v, hv⟩ := s.slot (k := p.1) (d := p.2) hp
      exact ⟨v, hv, q v w H s (Ext.refl w H) hv⟩
    · cases e
/-- an operand that is no name -/
theorem pe_opd {X : Cx} {e : Expr} {m : E} {r : EvT} (hm : ∀ i, m ≠ .var i) (h : PE X e (tE T r)) : PE X e (tO T (opd m r)) :=
  PE.imp h fun σ H Q ⟨w, z, z', o, s, e, q⟩ => by
    have e' : (r z).map (fun x => (x.1, Opd.val x.2.2)) = some (z', o) := by
      cases m <;> first | exact e | exact absurd rfl (hm _)
    obtain ⟨⟨z1, b, d⟩, e1, e2⟩ := Option.map_eq_some_iff.mp e'
    cases e2
    refine ⟨w, z, z1, b, d, s, e1, fun v w' H' s' x r => ?_⟩
    obtain ⟨w2, s2, x2, r2⟩ := r.freeze s' x
    exact q v w2 H' s2 x2 r2
/-- read for good -/
theorem tE.frz {r : EvT} {z z' : Z} {b : Bool} {Q : VK} (s : SR T w σ H z) (e : r z = some (z', b, d)) (q : ∀ v w' H', SR T w' σ H' z' → Ext w H w' H' → Rep T w' H' d v → Q v H') : tE T r σ H Q := by
  refine ⟨w, z, z', b, d, s, e, fun v w' H' s' x r => ?_⟩
  obtain ⟨w2, s2, x2, r2⟩ := r.freeze s' x
  exact q v w2 H' s2 x2 r2
/-- a name's slot frozen -/
theorem at_put {z : Z} {i j : Nat} {k : Ow} {d : D} (hi : i < z.g.length) : (z.put i k d).at j = if j = i then some (k, d) else z.at j := by
  unfold Z.at Z.put
  by_cases h : j = i
  · subst h
    simp only [List.getElem?_set_self hi, if_true]
    rfl
  · simp only [if_neg h]
    rw [List.getElem?_set_ne (Ne.symm h)]
theorem at_lt {z : Z} {i : Nat} {p : Ow × D} (h : z.at i = some p) : i < z.g.length := by
  unfold Z.at at h
  by_cases q : i < z.g.length
  · exact q
  · rw [List.getElem?_eq_none (by omega)] at h
    cases h
/-- the world where slot i's thing is for good -/
theorem SR.freeze (s : SR T w σ H z) (i : Nat) {k : Ow} (e : z.at i = some (k, d)) (hk : k ≠ .bor) : ∃ w2 v, SR T w2 σ H (z.freeze i) ∧ Ext w H w2 H ∧ σ[i]? = some (some v) ∧ Rep T w2 H d v := by
  have main : z.at i = some (.own, d) → z.freeze i = z.put i .frz d → ∃ w2 v, SR T w2 σ H (z.freeze i) ∧ Ext w H w2 H ∧ σ[i]? = some (some v) ∧ Rep T w2 H d v := by
    intro hk hz
    rw [hz]
    obtain ⟨a, h1, h2, t⟩ := s.own i d hk
    have hi : i < z.g.length := at_lt hk
    -- the owner goes
    let w2 : W := { w with F := fun b => b = a ∨ w.F b, own := fun b => if b = a then none else w.own b }
    have hL : w.L a = none := by
      cases q : w.L a with
      | none => rfl
      | some ls => rw [(s.wf.exL a (by rw [q]; simp)).1] at h2; cases h2
    have g : Gr w H w2 H := ⟨fun b hb => ⟨.inr hb, rfl⟩, fun _ _ x => x, fun _ x => x⟩
    have own2 : ∀ b j, w2.own b = some j → w.own b = some j ∧ b ≠ a := fun b j hb => by
      have hb' : (if b = a then none else w.own b) = some j := hb
      by_cases z : b = a
      · rw [if_pos z] at hb'; cases hb'
      · rw [if_neg z] at hb'; exact ⟨hb', z⟩
    refine ⟨w2, .ref a, ⟨⟨fun b hb => ?_, fun b hb => ?_, fun b j hb => s.wf.exO b j (own2 b j hb).1, fun k ls q => ?_, s.wf.hand.mono g fun _ _ => rfl, s.wf.lkd, fun b hb => ?_⟩, by simpa [Z.put] using s.len, fun j d' q => ?_, fun j d' q => ?_, fun j d' q => ?_, fun b j hb hl => s.lk b j (own2 b j hb).1 hl⟩, ⟨fun b hb => .inr hb, fun b hb => ?_, fun _ _ x => x, fun _ x => .inl x, fun _ x => x, fun _ x => .inl x, fun b j hb => .inl (own2 b j hb).1, rfl, rfl, fun _ _ x _ _ _ => x, fun _ x => x⟩, h1, (t.mono g rfl).rep (.inl rfl)⟩
    · rcases hb with rfl | hb
      · exact ⟨(s.wf.exO b i h2).1, hL, by show (if b = b then none else w.own b) = none; rw [if_pos rfl], (s.wf.exO b i h2).2⟩
      · obtain ⟨q1, q2, q3, q4⟩ := s.wf.exF b hb
        refine ⟨q1, q2, ?_, q4⟩
        show (if b = a then none else w.own b) = none
        split
        · rfl
        · exact q3
    · refine ⟨?_, (s.wf.exL b hb).2⟩
      show (if b = a then none else w.own b) = none
      split
      · rfl
      · exact (s.wf.exL b hb).1
    · rcases s.wf.cache k ls q with z | ⟨e2, z1, z2, z3⟩
      · exact .inl z
      · exact .inr ⟨e2, z1, .inr z2, z3⟩
    · obtain ⟨b1, b2, b3, b4⟩ := s.wf.bor b hb
      refine ⟨b1, b2, ?_, b4⟩
      show (if b = a then none else w.own b) = none
      split
      · rfl
      · exact b3
    · rw [at_put hi] at q
      by_cases hj : j = i
      · rw [if_pos hj] at q
        cases q
        subst hj
        exact ⟨_, h1, (t.mono g rfl).rep (.inl rfl)⟩
      · rw [if_neg hj] at q
        obtain ⟨v, e1, r⟩ := s.frz j d' q
        exact ⟨v, e1, r.mono g⟩
    · rw [at_put hi] at q
      by_cases hj : j = i
      · rw [if_pos hj] at q
        cases q
      · rw [if_neg hj] at q
        obtain ⟨b, e1, e2, r⟩ := s.own j d' q
        refine ⟨b, e1, ?_, r.mono g rfl⟩
        show (if b = a then none else w.own b) = some j
        rw [if_neg ?_]
        · exact e2
        · rintro rfl
          rw [h2] at e2
          cases e2
          exact hj rfl
    · rw [at_put hi] at q
      by_cases hj : j = i
      · rw [if_pos hj] at q
        cases q
      · rw [if_neg hj] at q
        obtain ⟨b, e1, e2, r⟩ := s.bor j d' q
        exact ⟨b, e1, e2, r.mono g rfl⟩
    · rcases hb with rfl | hb
      · exact .inr (.inr ⟨i, h2⟩)
      · exact .inl hb
  cases k with
  | frz =>
    have hz : z.freeze i = z := by unfold Z.freeze; rw [e]
    obtain ⟨v, h1, h2⟩ := s.frz i d e
    exact ⟨w, v, by rw [hz]; exact s, Ext.refl w H, h1, h2⟩
  | own => exact main e (by unfold Z.freeze; rw [e])
  | bor => exact absurd rfl hk
theorem pe_varE {X : Cx} {i : Nat} {x : Str} {pos : PySem.Pos} (h : PE X (.Name x pos) (L2.tVar i)) : PE X (.Name x pos) (tE T (sVar i)) :=
  PE.imp h fun σ H Q ⟨w, z, z', o, d, s, e, q⟩ => by
    unfold sVar at e
    split at e
    · cases e
    · rename_i k d' hp nb
      cases e
      obtain ⟨w2, v, s2, x2, hv, r⟩ := s.freeze i nb (by rintro rfl; simp at hp)
      exact ⟨v, hv, q v w2 H s2 x2 r⟩
    · cases e
theorem pe_cE {X : Cx} {e : Expr} {v : V} {d : D} (h : PE X e (L2.tC v)) (r : ∀ w H, Rep T w H d v) : PE X e (tE T fun z => some (z, false, d)) :=
  PE.imp h fun σ H Q ⟨w, z, z', o, d', s, e, q⟩ => by
    cases e
    exact q v w H s (Ext.refl w H) (r w H)
end
end BV

set_option maxRecDepth 100000
/-! Operators. -/
namespace BV
open PySem (Str Addr Expr PyData Operator CmpOp cLine)
open L2 (V HO Hp upd upd_same upd_ne SqL SqT Cx PE TE VK OpR Dp DpAll)

section
variable {T : Tx} {w w' : W} {H H' : Hp} {v : V}
theorem repU_non (h : RepU T w H .non v) : v = .non := by
  rcases h with h | ⟨a, _, t⟩
  · simpa only [Rep] using h
  · exact t.elim
theorem repU_bl {b : Bool} (h : RepU T w H (.bl b) v) : v = .bl b := by
  rcases h with h | ⟨a, _, t⟩
  · simpa only [Rep] using h
  · exact t.elim
theorem repU_int {i : Int} (h : RepU T w H (.int i) v) : v = .int i := by
  rcases h with h | ⟨a, _, t⟩
  · simpa only [Rep] using h
  · exact t.elim
theorem repU_str {i : Str} (h : RepU T w H (.str i) v) : v = .str i := by
  rcases h with h | ⟨a, _, t⟩
  · simpa only [Rep] using h
  · exact t.elim
theorem repU_tup {l : List D} (h : RepU T w H (.tup l) v) : ∃ a xs, v = .ref a ∧ H a = some (.tup xs) ∧ Reps T w H l xs := by
  rcases h with h | ⟨a, _, t⟩
  · simp only [Rep] at h
    obtain ⟨a, xs, e, _, h1, h2⟩ := h
    exact ⟨a, xs, e, h1, h2⟩
  · exact t.elim
theorem repU_tupF {l : List D} (h : RepU T w H (.tup l) v) : Rep T w H (.tup l) v := by
  rcases h with h | ⟨a, _, t⟩
  · exact h
  · exact t.elim
theorem repU_lst {l : List D} (h : RepU T w H (.lst l) v) : ∃ a xs, v = .ref a ∧ H a = some (.lst xs) ∧ Reps T w H l xs := by
  rcases h with h | ⟨a, e, xs, h1, h2⟩
  · simp only [Rep] at h
    obtain ⟨a, xs, e, _, h1, h2⟩ := h
    exact ⟨a, xs, e, h1, h2⟩
  · exact ⟨a, xs, e, h1, h2⟩
theorem repU_dic {l : List (DKey × D)} (h : RepU T w H (.dic l) v) : ∃ a vs, v = .ref a ∧ DicAt H a (l.map (·.1)) vs ∧ RepVs T w H l vs := by
  rcases h with h | ⟨a, e, xs, h1, h2⟩
  · simp only [Rep] at h
    obtain ⟨a, xs, e, _, h1, h2⟩ := h
    exact ⟨a, xs, e, h1, h2⟩
  · exact ⟨a, xs, e, h1, h2⟩
theorem repU_web {n : Nat} {ls : List (Nat × Nat)} (h : RepU T w H (.web n ls) v) : Rep T w H (.web n ls) v := by
  rcases h with h | ⟨a, _, t⟩
  · exact h
  · exact t.elim
theorem Reps.nil_iff {l : List D} {xs : List V} (h : Reps T w H l xs) : xs = [] ↔ l = [] := by
  have e := h.length
  constructor
  · rintro rfl; exact List.eq_nil_of_length_eq_zero e
  · rintro rfl; exact List.eq_nil_of_length_eq_zero e.symm
end

/-! ### what an operation hands back -/
/-- a dict's content by its keys' kind -/
def DicHO (ks : List DKey) (vs : List V) (u : HO) : Prop :=
  ks.length = vs.length ∧ ((∃ l : List Key, ks = l.map .inl ∧ u = .dK (l.zip vs)) ∨ ∃ l : List (List Key), ks = l.map .inr ∧ u = .dT (l.zip vs))
structure Out1 (T : Tx) (w : W) (H : Hp) (o : Bool) (d : D) (Q : VK) : Prop where
  old : o = false → ∀ v, Rep T w H d v → Q v H
  more : o = false → ∀ v H', L2.Same H H' → Rep T w H' d v → Q v H'
  tup : ∀ l p xs, d = .tup l → o = false → H p = none → Reps T w H l xs → Q (.ref p) (upd H p (.tup xs))
  lst : ∀ l p xs, d = .lst l → o = true → H p = none → Reps T w H l xs → Q (.ref p) (upd H p (.lst xs))
  dic : ∀ l p vs u, d = .dic l → o = true → H p = none → RepVs T w H l vs → DicHO (l.map (·.1)) vs u → Q (.ref p) (upd H p u)
theorem DicHO.at {H : Hp} {p : Addr} {ks : List DKey} {vs : List V} {u : HO} (h : DicHO ks vs u) : DicAt (upd H p u) p ks vs := by
  obtain ⟨hl, h⟩ := h
  refine ⟨hl, ?_⟩
  rcases h with ⟨l, e1, e2⟩ | ⟨l, e1, e2⟩
  · exact .inl ⟨l, e1, by rw [upd_same, e2]⟩
  · exact .inr ⟨l, e1, by rw [upd_same, e2]⟩
theorem gr_same {T : Tx} {w : W} {H H' : Hp} {h : Option (List D)} (f : Wf T w H h) (k : L2.Same H H') : Gr w H w H' :=
  ⟨fun a ha => ⟨ha, by
    cases e : H a with
    | none => exact absurd e (f.exF a ha).1
    | some o => exact k a o e⟩, fun _ _ x => x, fun _ x => x⟩
theorem same_dom {H H' : Hp} (k : L2.Same H H') {a : Addr} (h : H a ≠ none) : H' a ≠ none := by
  cases e : H a with
  | none => exact absurd e h
  | some o => rw [k a o e]; simp
theorem ext_same {w : W} {H H' : Hp} (k : L2.Same H H') : Ext w H w H' :=
  ⟨fun _ x => x, fun _ x => .inl x, fun _ _ x => x, fun _ x => .inl x, fun _ x => x, fun _ x => .inl x, fun _ i x => .inl x, rfl, rfl, fun a o e _ _ _ => k a o e, fun _ e => same_dom k e⟩
theorem Wf.same {T : Tx} {w : W} {H H' : Hp} {h : Option (List D)} (f : Wf T w H h) (k : L2.Same H H') : Wf T w H' h where
  exF := fun a ha => let ⟨h1, h2⟩ := f.exF a ha; ⟨same_dom k h1, h2⟩
  exL := f.exL
  exO := fun a i ha => ⟨same_dom k (f.exO a i ha).1, (f.exO a i ha).2⟩
  cache := fun c ls e => by
    rcases f.cache c ls e with z | ⟨e2, z1, z2, z3⟩
    · exact .inl (k _ _ z)
    · exact .inr ⟨e2, k _ _ z1, z2, k _ _ z3⟩
  hand := f.hand.mono (gr_same f k) fun a e => by
    cases q : H a with
    | none => exact absurd q (f.hd_some e)
    | some o => exact k a o q
  lkd := fun a e => same_dom k (f.lkd a e)
  bor := fun a e => let ⟨h1, h2, h3, h4⟩ := f.bor a e; ⟨h1, h2, h3, same_dom k h4⟩
theorem SR.same {T : Tx} {w : W} {H H' : Hp} {σ : L2.St} {z : Z} (s : SR T w σ H z) (k : L2.Same H H') : SR T w σ H' z where
  wf := s.wf.same k
  len := s.len
  frz := fun i d e => let ⟨v, e1, r⟩ := s.frz i d e; ⟨v, e1, r.mono (gr_same s.wf k)⟩
  own := fun i d e => let ⟨a, e1, e2, r⟩ := s.own i d e; ⟨a, e1, e2, r.mono (gr_same s.wf k) (by
    cases q : H a with
    | none => exact absurd q (s.wf.exO a i e2).1
    | some o => exact k a o q)⟩
  bor := fun i d e => let ⟨a, e1, e2, r⟩ := s.bor i d e; ⟨a, e1, e2, r.mono (gr_same s.wf k) (by
    cases q : H a with
    | none => exact absurd q (s.wf.bor a e2).2.2.2
    | some o => exact k a o q)⟩
  lk := s.lk
theorem out1_of {T : Tx} {w : W} {H : Hp} {σ : L2.St} {z : Z} {o : Bool} {d : D} {Q : VK} (s : SR T w σ H z)
    (q : ∀ v w' H', SR T w' σ H' z → Ext w H w' H' → RepR T w' H' H o d v → Q v H') : Out1 T w H o d Q where
  old := fun e v r => by subst e; exact q v w H s (Ext.refl w H) r
  more := fun e v H' k r => by subst e; exact q v w H' (s.same k) (ext_same k) r
  tup := fun l p xs e eo hp r => by
    subst e eo
    refine q (.ref p) (w.add p) _ (s.allocF hp) (ext_allocF s.wf hp) ?_
    show Rep T _ _ _ _
    simp only [Rep]
    exact ⟨p, xs, rfl, .inl rfl, upd_same, r.mono (gr_allocF s.wf hp)⟩
  lst := fun l p xs e eo hp r => by
    subst e eo
    obtain ⟨h1, h2, h3, h4⟩ := s.wf.fresh hp
    exact q (.ref p) w _ (s.alloc hp) (ext_alloc s.wf hp) ⟨p, rfl, hp, by rw [upd_same]; simp, h1, h2, h4, h3, xs, upd_same, r.mono (gr_alloc s.wf hp)⟩
  dic := fun l p vs u e eo hp r hu => by
    subst e eo
    obtain ⟨h1, h2, h3, h4⟩ := s.wf.fresh hp
    exact q (.ref p) w _ (s.alloc hp) (ext_alloc s.wf hp) ⟨p, rfl, hp, by rw [upd_same]; simp, h1, h2, h4, h3, vs, hu.at, r.mono (gr_alloc s.wf hp)⟩

/-- a rule of values serves an operation on data -/
def Serves2 (T : Tx) (r : L2.R2) (f : D → D → Option (Bool × D)) : Prop := ∀ (w : W) (H : Hp) (h : Option (List D)) (da db : D) (x y : V) (o : Bool) (d : D) (Q : VK), Wf T w H h →
  f da db = some (o, d) → RepU T w H da x → RepU T w H db y → Out1 T w H o d Q → r x y H Q
/-- behind both operands -/
theorem two_ops {T : Tx} {a b : OpT} {f : D → D → Option (Bool × D)} {r : L2.R2} (hr : Serves2 T r f) {σ : L2.St} {H : Hp} {Q : VK} (h : tE T (sOp2 f a b) σ H Q) :
    tO T a σ H fun x H1 => tO T b σ H1 fun y H2 => r x y H2 Q := by
  obtain ⟨w, z, z', o, d, s, e, q⟩ := h
  unfold sOp2 at e
  split at e
  case h_2 => cases e
  case h_1 z1 oa ea =>
    split at e
    case h_2 => cases e
    case h_1 z2 ob eb =>
      refine ⟨w, z, z1, oa, s, ea, fun x w1 H1 s1 x1 r1 => ⟨w1, z1, z2, ob, s1, eb, fun y w2 H2 s2 x2 r2 => ?_⟩⟩
      split at e
      · rename_i da db ga gb
        obtain ⟨⟨o', d'⟩, ef, e2⟩ := Option.map_eq_some_iff.mp e
        cases e2
        refine hr w2 H2 _ da db x y o d Q s2.wf ef ((r1.mono (x2.gr s1.wf)).use s2 ga) (r2.use s2 gb) (out1_of s2 fun v w3 H3 s3 x3 r3 => ?_)
        refine q v w3 H3 s3 ((x1.trans x2).trans x3) ?_
        cases o with
        | false => exact r3
        | true =>
          obtain ⟨p, e1, h0, h⟩ := r3
          refine ⟨p, e1, ?_, h⟩
          cases q0 : H p with
          | none => rfl
          | some u => exact absurd h0 ((x1.trans x2).dom p (by rw [q0]; simp))
      · cases e
theorem pe_bin2 {X : Cx} {T : Tx} {op : Operator} {e1 e2 : Expr} {pos : PySem.Pos} {a b : OpT} {f : D → D → Option (Bool × D)} {r : L2.R2} (ho : OpR X (PySem.binaryOp op) r) (hr : Serves2 T r f)
    (ha : PE X e1 (tO T a)) (hb : PE X e2 (tO T b)) : PE X (.BinOp e1 op e2 pos) (tE T (sOp2 f a b)) := PE.imp (L2.pe_op ho ha hb) fun _ _ _ h => two_ops hr h
theorem pe_cmp2 {X : Cx} {T : Tx} {op : CmpOp} {e1 e2 : Expr} {pos : PySem.Pos} {a b : OpT} {f : D → D → Option (Bool × D)} {r : L2.R2} (ho : OpR X (PySem.compareOp op) r) (hr : Serves2 T r f)
    (hm : PySem.behindInMarks op e2 = false) (ha : PE X e1 (tO T a)) (hb : PE X e2 (tO T b)) : PE X (.Compare e1 [op] [e2] pos) (tE T (sOp2 f a b)) := PE.imp (L2.pe_cmpR ho ha hb hm) fun _ _ _ h => two_ops hr h

/-! ### arithmetic -/
section
variable {X : Cx} {T : Tx}
theorem small_mul {i j : Int} (h : (small i || small j) = true) : L2.CMul i j := by
  simp only [small, Bool.or_eq_true, Bool.and_eq_true, decide_eq_true_eq] at h
  exact h
theorem rep_int {w : W} {H : Hp} {i : Int} : Rep T w H (.int i) (.int i) := by simp [Rep]
theorem rep_bl {w : W} {H : Hp} {i : Bool} : Rep T w H (.bl i) (.bl i) := by simp [Rep]
def rBin : Operator → L2.R2
  | .Add => fun x y H Q => (∃ i j, x = .int i ∧ y = .int j ∧ Q (.int (i + j)) H) ∨ L2.rCatA T.K x y H Q ∨ L2.rCat x y H Q
  | .Sub => L2.rI0 fun i j => .int (i - j)
  | .Mult => fun x y H Q => L2.rI L2.CMul (fun i j => .int (i * j)) x y H Q ∨ L2.rRep x y H Q
  | .FloorDiv => L2.rI L2.CDiv fun i j => .int (i / j)
  | .Mod => L2.rI (fun _ j => 0 < j) fun i j => .int (i % j)
  | .Pow => L2.rI L2.CPow fun i j => .int (i ^ j.toNat)
  | _ => fun _ _ _ _ => False
theorem rBin_ok (hK : T.K = X.K) (op : Operator) : OpR X (PySem.binaryOp op) (rBin (T := T) op) := by
  cases op with
  | Add => exact L2.OpR.or L2.op_add (L2.OpR.or (hK ▸ L2.op_catA) L2.op_cat)
  | Sub => exact L2.op_sub
  | Mult => exact L2.OpR.or L2.op_mul L2.op_rep
  | FloorDiv => exact L2.op_fdiv
  | Mod => exact L2.op_mod
  | Pow => exact L2.op_pow
  | _ => exact fun _ _ _ _ _ _ _ _ _ _ _ _ h => h.elim
theorem lim_line : lim = PySem.sizeLine := by rw [PySem.sizeLine_eq]; rfl
theorem bin_serves {op : Operator} {m : Bop} (hm : BV.bopOf op = some m) : Serves2 T (rBin (T := T) op) (binop m) := by
  intro w H h da db x y o d Q wf e ra rb q
  cases op <;> simp only [BV.bopOf, Option.some.injEq, reduceCtorEq] at hm
  case Add =>
    subst hm
    cases da <;> cases db <;> simp only [binop, reduceCtorEq] at e
    case int.int =>
      cases e
      exact .inl ⟨_, _, repU_int ra, repU_int rb, q.old rfl _ rep_int⟩
    case tup.tup =>
      split at e
      · rename_i hl
        cases e
        obtain ⟨a, xs, rfl, h1, h2⟩ := repU_tup ra
        obtain ⟨b, ys, rfl, h3, h4⟩ := repU_tup rb
        refine .inr (.inl ⟨a, b, xs, ys, rfl, rfl, SqT.of h1, SqT.of h3, ?_, fun hx => ?_, fun hx hy => ?_, fun hx hy p hp => ?_⟩)
        · rw [← h2.length, ← h4.length, ← lim_line]; exact hl
        · rw [h2.nil_iff] at hx
          subst hx
          exact q.old rfl _ (repU_tupF rb)
        · rw [h4.nil_iff] at hy
          subst hy
          refine q.old rfl _ ?_
          rw [List.append_nil]
          exact repU_tupF ra
        · exact q.tup _ p _ rfl rfl hp (h2.append h4)
      · cases e
    case lst.lst =>
      split at e
      · rename_i hl
        cases e
        obtain ⟨a, xs, rfl, h1, h2⟩ := repU_lst ra
        obtain ⟨b, ys, rfl, h3, h4⟩ := repU_lst rb
        refine .inr (.inr ⟨a, b, xs, ys, rfl, rfl, h1, h3, ?_, fun p hp => ?_⟩)
        · rw [← h2.length, ← h4.length, ← lim_line]; exact hl
        · exact q.lst _ p _ rfl rfl hp (h2.append h4)
      · cases e
  case Sub =>
    subst hm
    cases da <;> cases db <;> simp only [binop, reduceCtorEq] at e
    cases e
    exact ⟨_, _, repU_int ra, repU_int rb, q.old rfl _ rep_int⟩
  case Mult =>
    subst hm
    cases da <;> cases db <;> simp only [binop, reduceCtorEq] at e
    case int.int =>
      split at e
      · rename_i hs
        cases e
        exact .inl ⟨_, _, repU_int ra, repU_int rb, small_mul hs, q.old rfl _ rep_int⟩
      · cases e
    case lst.int =>
      split at e
      · rename_i hs
        cases e
        simp only [Bool.and_eq_true, decide_eq_true_eq] at hs
        obtain ⟨a, xs, rfl, h1, h2⟩ := repU_lst ra
        refine .inr ⟨a, _, xs, rfl, repU_int rb, h1, hs.1.2, hs.2, ?_, fun p hp => q.lst _ p _ rfl rfl hp (h2.rep _)⟩
        rw [← h2.length, ← lim_line]
        exact hs.1.1
      · cases e
  case FloorDiv =>
    subst hm
    cases da <;> cases db <;> simp only [binop, reduceCtorEq] at e
    split at e
    · rename_i hs
      cases e
      simp only [Bool.and_eq_true, decide_eq_true_eq] at hs
      exact ⟨_, _, repU_int ra, repU_int rb, hs, q.old rfl _ rep_int⟩
    · cases e
  case Mod =>
    subst hm
    cases da <;> cases db <;> simp only [binop, reduceCtorEq] at e
    split at e
    · rename_i hs
      cases e
      exact ⟨_, _, repU_int ra, repU_int rb, hs, q.old rfl _ rep_int⟩
    · cases e
  case Pow =>
    subst hm
    cases da <;> cases db <;> simp only [binop, reduceCtorEq] at e
    split at e
    · rename_i hs
      cases e
      simp only [Bool.and_eq_true, decide_eq_true_eq] at hs
      exact ⟨_, _, repU_int ra, repU_int rb, ⟨hs.1.1, by omega, hs.2⟩, q.old rfl _ rep_int⟩
    · cases e
end
end BV

/-! Comparisons, in. -/
namespace BV
open PySem (Str Addr Expr PyData Operator CmpOp cLine Value Shared Around Program World wpAny model Reads ReadsAll)
open L2 (V HO Hp upd upd_same upd_ne SqL SqT Cx PE TE VK OpR Dp DpAll Inv Vals RelV)

mutual
def toPy : D → PyData
  | .non => .none
  | .bl b => .bool b
  | .int i => .int i
  | .str s => .str s
  | .tup l => .tuple (toPys l)
  | .lst l => .list (toPys l)
  | .dic _ => .none
  | .web _ _ => .none
  | .scr _ => .none
  | .hand => .none
def toPys : List D → List PyData
  | [] => []
  | d :: r => toPy d :: toPys r
end
theorem str_ok {s : Str} (h : (decide (s.cps.size ≤ 1000) && s.cps.all fun c => decide (c < 128)) = true) : PySem.PyData.strOk s = true := by
  rw [Bool.and_eq_true] at h
  have h2 := h.2
  unfold PySem.PyData.strOk
  rw [Array.all_eq_true] at h2 ⊢
  intro i hi
  have := h2 i hi
  simp only [decide_eq_true_eq] at this ⊢
  omega
mutual
theorem okd_lay : ∀ (n : Nat) (d : D), d.okd n = true → (toPy d).canLay0 = true ∧ (toPy d).depth ≤ n
  | _, .non, _ => by simp [toPy, PyData.canLay0, PyData.depth]
  | _, .bl _, _ => by simp [toPy, PyData.canLay0, PyData.depth]
  | _, .int _, _ => by simp [toPy, PyData.canLay0, PyData.depth]
  | _, .str s, h => by
    simp only [D.okd] at h
    simp only [toPy, PyData.canLay0, PyData.depth]
    exact ⟨str_ok h, Nat.zero_le _⟩
  | 0, .tup _, h => by simp [D.okd] at h
  | n + 1, .tup l, h => by
    simp only [D.okd] at h
    have := okds_lay n l h
    simp only [toPy, PyData.canLay0, PyData.depth]
    exact ⟨this.1, by omega⟩
  | 0, .lst _, h => by simp [D.okd] at h
  | n + 1, .lst l, h => by
    simp only [D.okd] at h
    have := okds_lay n l h
    simp only [toPy, PyData.canLay0, PyData.depth]
    exact ⟨this.1, by omega⟩
  | _, .dic _, h => by simp [D.okd] at h
  | _, .web _ _, h => by simp [D.okd] at h
  | _, .scr _, h => by simp [D.okd] at h
  | _, .hand, h => by simp [D.okd] at h
theorem okds_lay : ∀ (n : Nat) (l : List D), D.okds n l = true → PyData.canLayAll0 (toPys l) = true ∧ PyData.depthAll (toPys l) ≤ n
  | _, [], _ => by simp [toPys, PyData.canLayAll0, PyData.depthAll]
  | n, d :: r, h => by
    simp only [D.okds, Bool.and_eq_true] at h
    have h1 := okd_lay n d h.1
    have h2 := okds_lay n r h.2
    simp only [toPys, PyData.canLayAll0, PyData.depthAll, Bool.and_eq_true]
    exact ⟨⟨h1.1, h2.1⟩, by omega⟩
end
theorem ok_shaped {n : Nat} {d : D} (hn : n ≤ 64) (h : d.okd n = true) : PySem.SeqAt.shaped (toPy d) = true := by
  have := okd_lay n d h
  unfold PySem.SeqAt.shaped
  rw [Bool.and_eq_true]
  exact ⟨this.1, decide_eq_true (by omega)⟩
mutual
theorem eqv_py : ∀ (n m : Nat) (d e : D), d.okd n = true → e.okd m = true → d.eqv e = PyData.eqv (toPy d) (toPy e)
  | _, _, .non, e, _, h => by cases e <;> simp_all [D.eqv, toPy, PyData.eqv, D.okd]
  | _, _, .bl _, e, _, h => by cases e <;> simp_all [D.eqv, toPy, PyData.eqv, D.okd]
  | _, _, .int _, e, _, h => by cases e <;> simp_all [D.eqv, toPy, PyData.eqv, D.okd]
  | _, _, .str _, e, _, h => by cases e <;> simp_all [D.eqv, toPy, PyData.eqv, D.okd]
  | 0, _, .tup _, _, h, _ => by simp [D.okd] at h
  | n + 1, m, .tup l, e, h1, h2 => by
    cases e with
    | tup k =>
      cases m with
      | zero => simp [D.okd] at h2
      | succ m =>
        simp only [D.okd] at h1 h2
        simp only [D.eqv, toPy, PyData.eqv]
        exact eqvs_py n m l k h1 h2
    | dic _ => simp [D.okd] at h2
    | web _ _ => simp [D.okd] at h2
    | scr _ => simp [D.okd] at h2
    | hand => simp [D.okd] at h2
    | _ => simp [D.eqv, toPy, PyData.eqv]
  | 0, _, .lst _, _, h, _ => by simp [D.okd] at h
  | n + 1, m, .lst l, e, h1, h2 => by
    cases e with
    | lst k =>
      cases m with
      | zero => simp [D.okd] at h2
      | succ m =>
        simp only [D.okd] at h1 h2
        simp only [D.eqv, toPy, PyData.eqv]
        exact eqvs_py n m l k h1 h2
    | dic _ => simp [D.okd] at h2
    | web _ _ => simp [D.okd] at h2
    | scr _ => simp [D.okd] at h2
    | hand => simp [D.okd] at h2
    | _ => simp [D.eqv, toPy, PyData.eqv]
  | _, _, .dic _, _, h, _ => by simp [D.okd] at h
  | _, _, .web _ _, _, h, _ => by simp [D.okd] at h
  | _, _, .scr _, _, h, _ => by simp [D.okd] at h
  | _, _, .hand, _, h, _ => by simp [D.okd] at h
theorem eqvs_py : ∀ (n m : Nat) (l k : List D), D.okds n l = true → D.okds m k = true → D.eqvs l k = PyData.eqvAll (toPys l) (toPys k)
  | _, _, [], [], _, _ => by simp [D.eqvs, toPys, PyData.eqvAll]
  | _, _, [], _ :: _, _, _ => by simp [D.eqvs, toPys, PyData.eqvAll]
  | _, _, _ :: _, [], _, _ => by simp [D.eqvs, toPys, PyData.eqvAll]
  | n, m, d :: l, e :: k, h1, h2 => by
    simp only [D.okds, Bool.and_eq_true] at h1 h2
    simp only [D.eqvs, toPys, PyData.eqvAll]
    rw [eqv_py n m d e h1.1 h2.1, eqvs_py n m l k h1.2 h2.2]
end
section
variable {T : Tx} {w : W} {H : Hp} (K : PySem.W.Frag)
mutual
theorem rep_dp : ∀ (n : Nat) (d : D) (v : V), d.okd n = true → RepU T w H d v → Dp K H v (toPy d)
  | _, .non, v, _, r => by rw [repU_non r]; simp only [toPy]; exact .non
  | _, .bl b, v, _, r => by rw [repU_bl r]; simp only [toPy]; exact .bl b
  | _, .int i, v, _, r => by rw [repU_int r]; simp only [toPy]; exact .int i
  | _, .str s, v, _, r => by rw [repU_str r]; simp only [toPy]; exact .str s
  | 0, .tup _, _, h, _ => by simp [D.okd] at h
  | n + 1, .tup l, v, h, r => by
    simp only [D.okd] at h
    obtain ⟨a, xs, rfl, h1, h2⟩ := repU_tup r
    simp only [toPy]
    exact .tup (SqT.of h1) (reps_dp n l xs h h2)
  | 0, .lst _, _, h, _ => by simp [D.okd] at h
  | n + 1, .lst l, v, h, r => by
    simp only [D.okd] at h
    obtain ⟨a, xs, rfl, h1, h2⟩ := repU_lst r
    simp only [toPy]
    exact .lst (SqL.of h1) (reps_dp n l xs h h2)
  | _, .dic _, _, h, _ => by simp [D.okd] at h
  | _, .web _ _, _, h, _ => by simp [D.okd] at h
  | _, .scr _, _, h, _ => by simp [D.okd] at h
  | _, .hand, _, h, _ => by simp [D.okd] at h
theorem reps_dp : ∀ (n : Nat) (l : List D) (vs : List V), D.okds n l = true → Reps T w H l vs → DpAll K H vs (toPys l)
  | _, [], vs, _, r => by
    simp only [Reps] at r
    subst r
    simp only [toPys]
    exact .nil
  | n, d :: k, vs, h, r => by
    simp only [D.okds, Bool.and_eq_true] at h
    simp only [Reps] at r
    obtain ⟨v, vs', rfl, r1, r2⟩ := r
    simp only [toPys]
    exact .cons (rep_dp n d v h.1 (.inl r1)) (reps_dp n k vs' h.2 r2)
end
end
theorem toPys_map : ∀ l : List D, toPys l = l.map toPy
  | [] => rfl
  | d :: r => by rw [toPys, toPys_map r]; rfl

/-! ### <, <=, >, >= -/
def opC : Cop → CmpOp
  | .eq => .Eq
  | .ne => .NotEq
  | .lt => .Lt
  | .le => .LtE
  | .gt => .Gt
  | .ge => .GtE
  | .isin => .In
  | .notin => .NotIn
  | .is => .Is
  | .isnot => .IsNot
def isOrd : Cop → Bool
  | .lt => true
  | .le => true
  | .gt => true
  | .ge => true
  | _ => false
theorem lexAt_shift (e r : Nat → Bool) (z : Bool) : ∀ (k i : Nat), Ob.lexAt e r z (i + 1) k = Ob.lexAt (fun j => e (j + 1)) (fun j => r (j + 1)) z i k
  | 0, _ => rfl
  | k + 1, i => by rw [Ob.lexAt_succ, Ob.lexAt_succ, lexAt_shift e r z k (i + 1)]
theorem okds_get : ∀ {n : Nat} {l : List D} {i : Nat} {d : D}, D.okds n l = true → l[i]? = some d → d.okd n = true
  | _, [], _, _, _, e => by simp at e
  | n, x :: r, 0, d, h, e => by
    simp only [D.okds, Bool.and_eq_true] at h
    simp at e
    subst e
    exact h.1
  | n, x :: r, i + 1, d, h, e => by
    simp only [D.okds, Bool.and_eq_true] at h
    exact okds_get h.2 (by simpa using e)
/-- the pairs' answers -/
def eAt (xs ys : List D) (j : Nat) : Bool := match xs[j]?, ys[j]? with
  | some x, some y => x.eqv y
  | _, _ => false
def rAt (o : Cop) (n : Nat) (xs ys : List D) (j : Nat) : Bool := match xs[j]?, ys[j]? with
  | some x, some y => (D.cmpo o n x y).getD false
  | _, _ => false
theorem cmpos_lex (o : Cop) (n : Nat) : ∀ (xs ys : List D) (b : Bool), D.cmpos o n xs ys = some b → ∀ a c, Ob.lexAt (eAt xs ys) (rAt o n xs ys) (nop o (xs.length + a) (ys.length + a)) c (min xs.length ys.length - c) = b ∨ c ≠ 0 ∨ a ≠ 0
  | xs, ys, b, h, a, c => by
    by_cases hc : c = 0
    · by_cases ha : a = 0
      · left
        subst hc ha
        simp only [Nat.add_zero, Nat.sub_zero]
        induction xs generalizing ys b with
        | nil =>
          simp only [D.cmpos, Option.some.injEq] at h
          simpa [Ob.lexAt_zero] using h
        | cons x xs ih =>
          cases ys with
          | nil =>
            simp only [D.cmpos, Option.some.injEq] at h
            simpa [Ob.lexAt_zero] using h
          | cons y ys =>
            simp only [D.cmpos] at h
            split at h
            · rename_i r hr
              split at h
              · rename_i hok
                have e0 : eAt (x :: xs) (y :: ys) 0 = x.eqv y := rfl
                have r0 : rAt o n (x :: xs) (y :: ys) 0 = (D.cmpo o n x y).getD false := rfl
                have es : (fun j => eAt (x :: xs) (y :: ys) (j + 1)) = eAt xs ys := by funext j; simp [eAt]
                have rs : (fun j => rAt o n (x :: xs) (y :: ys) (j + 1)) = rAt o n xs ys := by funext j; simp [rAt]
                have hm : min (x :: xs).length (y :: ys).length = min xs.length ys.length + 1 := by simp [Nat.succ_min_succ]
                have hz : nop o (x :: xs).length (y :: ys).length = nop o xs.length ys.length := by
                  cases o <;> simp [nop]
                rw [hm, Ob.lexAt_succ, lexAt_shift, es, rs, e0, r0, hz]
                split at h
                · rename_i he
                  cases h
                  rw [if_pos he]
                  exact ih _ _ hr
                · rename_i he
                  rw [if_neg he, h]
                  rfl
              · cases h
            · cases h
      · exact .inr (.inr ha)
    · exact .inr (.inl hc)
theorem cmpos_all (o : Cop) (n : Nat) : ∀ {xs ys : List D} {b : Bool}, D.cmpos o n xs ys = some b → ∀ (j : Nat) (x y : D), xs[j]? = some x → ys[j]? = some y →
    x.okd n = true ∧ y.okd n = true ∧ (x.eqv y = false → ∃ r, D.cmpo o n x y = some r)
  | [], _, _, _, _, _, _, h1, _ => by simp at h1
  | _ :: _, [], _, _, _, _, _, _, h2 => by simp at h2
  | x :: xs, y :: ys, b, h, j, u, v, h1, h2 => by
    simp only [D.cmpos] at h
    split at h
    · rename_i r hr
      split at h
      · rename_i hok
        rw [Bool.and_eq_true] at hok
        cases j with
        | zero =>
          simp at h1 h2
          subst h1 h2
          refine ⟨hok.1, hok.2, fun he => ?_⟩
          rw [he] at h
          exact ⟨b, by simpa using h⟩
        | succ j => exact cmpos_all o n hr j u v (by simpa using h1) (by simpa using h2)
      · cases h
    · cases h
theorem rc_int {A : Around} {s : Shared} {o : Cop} (ho : isOrd o = true) (i j : Int) (t u : PySem.Tok) : Ob.RcOp (opC o) A s (.int i t) (.int j u) (iop o i j) :=
  match o, ho with
  | .lt, _ => Ob.RcOp.lt_int i j t u
  | .le, _ => Ob.RcOp.le_int i j t u
  | .gt, _ => Ob.RcOp.gt_int i j t u
  | .ge, _ => Ob.RcOp.ge_int i j t u
theorem rc_tups {A : Around} {s : Shared} {o : Cop} (ho : isOrd o = true) {l b : Addr} {items items2 : Array Value} {e r : Nat → Bool} (hl : s.heap.IsTuple l items) (hb : s.heap.IsTuple b items2) (hu : A.units < cLine)
    (he : ∀ j (h1 : j < items.size) (h2 : j < items2.size), PySem.SeqAt.EqAt A.in1 s items[j] items2[j] (e j))
    (hr : ∀ j (h1 : j < items.size) (h2 : j < items2.size), e j = false → Ob.RcOp (opC o) A.in1 s items[j] items2[j] (r j)) :
    Ob.RcOp (opC o) A s (.ref l) (.ref b) (Ob.lexAt e r (nop o items.size items2.size) 0 (min items.size items2.size)) :=
  match o, ho, hr with
  | .lt, _, hr => Ob.RcOp.tuples_lt hl hb hu he hr
  | .le, _, hr => Ob.RcOp.tuples_le hl hb hu he hr
  | .gt, _, hr => Ob.RcOp.tuples_gt hl hb hu he hr
  | .ge, _, hr => Ob.RcOp.tuples_ge hl hb hu he hr
section
variable {X : Cx} {T : Tx} {w : W} {H : Hp} {pins : List (Addr × PySem.Obj)} {σ : L2.St} {s : Shared}
theorem rc_data (I : Inv X pins σ H s) {o : Cop} (ho : isOrd o = true) : ∀ (n : Nat) (d e : D) (x y : V) (u v : Value) (b : Bool) (A : Around), D.cmpo o n d e = some b → RepU T w H d x → RepU T w H e y → RelV x u → RelV y v → A.units + 64 + n < cLine →
    Ob.RcOp (opC o) A s u v b := by
  intro n
  induction n with
  | zero =>
    intro d e x y u v b A h rd re ru rv hA
    cases d <;> cases e <;> simp only [D.cmpo, reduceCtorEq] at h
    case int.int i j =>
      cases h
      have ex := repU_int rd
      have ey := repU_int re
      subst ex ey
      obtain ⟨t, rfl⟩ := ru
      obtain ⟨t', rfl⟩ := rv
      exact rc_int ho _ _ _ _
  | succ n ih =>
    intro d e x y u v b A h rd re ru rv hA
    cases d <;> cases e <;> simp only [D.cmpo, reduceCtorEq] at h
    case int.int i j =>
      cases h
      have ex := repU_int rd
      have ey := repU_int re
      subst ex ey
      obtain ⟨t, rfl⟩ := ru
      obtain ⟨t', rfl⟩ := rv
      exact rc_int ho _ _ _ _
    case tup.tup l k =>
      obtain ⟨a, xs, rfl, ha, rl⟩ := repU_tup rd
      obtain ⟨c, ys, rfl, hc, rk⟩ := repU_tup re
      cases ru
      cases rv
      obtain ⟨its, r1, p1, _⟩ := I.tuple (SqT.of ha)
      obtain ⟨its2, r2, p2, _⟩ := I.tuple (SqT.of hc)
      have hl1 : its.toArray.size = l.length := by rw [List.size_toArray, ← r1.length, rl.length]
      have hl2 : its2.toArray.size = k.length := by rw [List.size_toArray, ← r2.length, rk.length]
      have lex := cmpos_lex o n l k b h 0 0
      simp only [ne_eq, not_true_eq_false, or_false, Nat.add_zero, Nat.sub_zero] at lex
      have item : ∀ (j : Nat) (h1 : j < its.toArray.size) (h2 : j < its2.toArray.size), ∃ d e x y, l[j]? = some d ∧ k[j]? = some e ∧ Rep T w H d x ∧ Rep T w H e y ∧ RelV x its.toArray[j] ∧ RelV y its2.toArray[j] := fun j h1 h2 => by
        have e1 : l[j]? = some l[j] := List.getElem?_eq_getElem (by omega)
        have e2 : k[j]? = some k[j] := List.getElem?_eq_getElem (by omega)
        obtain ⟨x, hx, rx⟩ := rl.get e1
        obtain ⟨y, hy, ry⟩ := rk.get e2
        obtain ⟨u, hu, ru⟩ := r1.get hx
        obtain ⟨v, hv, rv⟩ := r2.get hy
        refine ⟨_, _, x, y, e1, e2, rx, ry, ?_, ?_⟩
        · have : its.toArray[j] = u := by
            have q : its[j]? = some its[j] := List.getElem?_eq_getElem (by simpa using h1)
            rw [q] at hu
            simpa using Option.some.inj hu
          rw [this]; exact ru
        · have : its2.toArray[j] = v := by
            have q : its2[j]? = some its2[j] := List.getElem?_eq_getElem (by simpa using h2)
            rw [q] at hv
            simpa using Option.some.inj hv
          rw [this]; exact rv
      have he : ∀ (j : Nat) (h1 : j < its.toArray.size) (h2 : j < its2.toArray.size), PySem.SeqAt.EqAt A.in1 s its.toArray[j] its2.toArray[j] (eAt l k j) := fun j h1 h2 => by
        obtain ⟨d, e, x, y, e1, e2, rx, ry, ru, rv⟩ := item j h1 h2
        obtain ⟨k1, k2, _⟩ := cmpos_all o n h j d e e1 e2
        obtain ⟨as, q1⟩ := Dp.reads I _ _ _ (rep_dp X.K n d x k1 (.inl rx)) ru
        obtain ⟨bs, q2⟩ := Dp.reads I _ _ _ (rep_dp X.K n e y k2 (.inl ry)) rv
        have l1 := okd_lay n d k1
        have l2 := okd_lay n e k2
        have ee : eAt l k j = PyData.eqv (toPy d) (toPy e) := by unfold eAt; rw [e1, e2]; exact eqv_py n n d e k1 k2
        rw [ee]
        refine PySem.SeqAt.eqAt_reads _ _ _ _ _ _ _ _ q1 q2 l1.1 l2.1 ?_
        have : A.in1.units = A.units + 1 := rfl
        omega
      have hr : ∀ (j : Nat) (h1 : j < its.toArray.size) (h2 : j < its2.toArray.size), eAt l k j = false → Ob.RcOp (opC o) A.in1 s its.toArray[j] its2.toArray[j] (rAt o n l k j) := fun j h1 h2 hej => by
        obtain ⟨d, e, x, y, e1, e2, rx, ry, ru, rv⟩ := item j h1 h2
        obtain ⟨k1, k2, k3⟩ := cmpos_all o n h j d e e1 e2
        have ee : eAt l k j = d.eqv e := by unfold eAt; rw [e1, e2]
        obtain ⟨r, hr⟩ := k3 (by rw [← ee]; exact hej)
        have er : rAt o n l k j = r := by unfold rAt; rw [e1, e2]; show (D.cmpo o n d e).getD false = r; rw [hr]; rfl
        rw [er]
        refine ih d e x y _ _ r A.in1 hr (.inl rx) (.inl ry) ru rv ?_
        have : A.in1.units = A.units + 1 := rfl
        omega
      have hu : A.units < cLine := by omega
      rw [← lex, ← hl1, ← hl2]
      exact rc_tups ho p1 p2 hu he hr
/-- the rule of an order -/
def rOrd (T : Tx) (o : Cop) : L2.R2 := fun x y H Q => ∃ w d e b, D.cmpo o 20 d e = some b ∧ RepU T w H d x ∧ RepU T w H e y ∧ Q (.bl b) H
theorem op_ord {o : Cop} (ho : isOrd o = true) (hu : X.A.units + 90 < cLine) : OpR X (PySem.compareOp (opC o)) (rOrd T o) := by
  intro pins s σ H x y v u Q I rx ry h
  obtain ⟨w, d, e, b, hc, rd, re, q⟩ := h
  have R := rc_data I ho 20 d e x y v u b X.A hc rd re rx ry (by omega)
  have z : wpAny (model X.prog X.w) X.A (PySem.richCompare (opC o) v u) (L2.EP X pins σ Q) X.xe s := R X.prog X.w X.xe (L2.EP X pins σ Q) ⟨.bl _, H, I, rfl, q⟩
  match o, ho, z with
  | .lt, _, z => exact z
  | .le, _, z => exact z
  | .gt, _, z => exact z
  | .ge, _, z => exact z
end
end BV

/-! ==, in, is. -/
namespace BV
open PySem (Str Addr Expr PyData Operator CmpOp cLine Value Shared Around Program World wpAny model Reads ReadsAll)
open L2 (V HO Hp upd upd_same upd_ne SqL SqT Cx PE TE VK OpR Dp DpAll Inv Vals RelV)

/-- a web against another thing, by its own == -/
def rWeb (T : Tx) (neg : Bool) : L2.R2 := fun x y H Q => ∃ w h n ls d b, Wf T w H h ∧ Rep T w H (.web n ls) x ∧ RepU T w H d y ∧ deq (.web n ls) d = some b ∧ ∀ H', L2.Same H H' → Q (.bl (if neg then !b else b)) H'
def rInSeq (T : Tx) (neg : Bool) : L2.R2 := fun x y H Q => ∃ w d c b, isin d c = some b ∧ RepU T w H d x ∧ RepU T w H c y ∧ Q (.bl (if neg then !b else b)) H
section
variable {X : Cx} {T : Tx} {w : W} {H : Hp}
theorem okds_shaped {l : List D} (h : D.okds 62 l = true) : PySem.PyData.canLayAll0 (toPys l) = true ∧ PyData.depthAll (toPys l) ≤ 62 := okds_lay 62 l h
theorem any_eqv {d : D} {l : List D} (hd : d.ok = true) (hl : D.okds 62 l = true) : (l.any fun y => y.eqv d) = (toPys l).any fun z => PyData.eqv z (toPy d) := by
  rw [toPys_map, List.any_map]
  induction l with
  | nil => rfl
  | cons x r ih =>
    simp only [D.okds, Bool.and_eq_true] at hl
    simp only [List.any_cons, Function.comp]
    rw [eqv_py 62 63 x d hl.1 hd, ih hl.2]
theorem keys1_kD : ∀ {l : List D} {ks : List Key}, keys1 l = some ks → l = ks.map kD
  | [], _, h => by
    simp only [keys1, Option.some.injEq] at h
    subst h
    rfl
  | d :: r, ks, h => by
    simp only [keys1] at h
    split at h
    · rename_i k l h1 h2
      cases h
      rw [List.map_cons, ← keys1_kD h2]
      cases d <;> simp only [key1, Option.some.injEq, reduceCtorEq] at h1
      · subst h1; rfl
      · subst h1; rfl
    · cases h
theorem reps_keys : ∀ {ks : List Key} {vs : List V}, Reps T w H (ks.map kD) vs → vs = ks.map L2.kV
  | [], _, h => by simpa only [List.map_nil, Reps] using h
  | k :: r, _, h => by
    simp only [List.map_cons, Reps] at h
    obtain ⟨v, vs', e, h1, h2⟩ := h
    rw [e, List.map_cons, reps_keys h2]
    congr 1
    cases k with
    | inl i => simp only [kD, Rep] at h1; exact h1
    | inr i => simp only [kD, Rep] at h1; exact h1
/-- a key's value -/
theorem key_val {d : D} {k : DKey} {x : V} (h : key d = some k) (r : RepU T w H d x) : (∃ k1, k = .inl k1 ∧ x = L2.kV k1) ∨ ∃ ks b, k = .inr ks ∧ x = .ref b ∧ H b = some (.tup (ks.map L2.kV)) := by
  cases d <;> simp only [key, key1, Option.map_some, Option.map_none, Option.some.injEq, reduceCtorEq] at h
  · subst h; exact .inl ⟨_, rfl, repU_int r⟩
  · subst h; exact .inl ⟨_, rfl, repU_str r⟩
  · obtain ⟨ks, h1, h2⟩ := Option.map_eq_some_iff.mp h
    subst h2
    obtain ⟨b, xs, e, hb, hr⟩ := repU_tup r
    rw [keys1_kD h1] at hr
    exact .inr ⟨ks, b, rfl, e, by rw [hb, reps_keys hr]⟩
/-- looking up in both -/
theorem look_zip {κ : Type} [DecidableEq κ] (inj : κ → DKey) (hi : ∀ a b, inj a = inj b → a = b) : ∀ {ks : List κ} {l : List (DKey × D)} {vs : List V} (k : κ), l.map (·.1) = ks.map inj → RepVs T w H l vs →
    match valK l (inj k) with
    | some d => ∃ v, L2.valV (ks.zip vs) k = some v ∧ Rep T w H d v
    | none => L2.valV (ks.zip vs) k = none
  | [], [], _, k, _, h => by
    simp only [RepVs] at h
    subst h
    rfl
  | [], _ :: _, _, _, e, _ => by simp at e
  | _ :: _, [], _, _, e, _ => by simp at e
  | a :: ks, (c, d) :: l, vs, k, e, h => by
    simp only [List.map_cons, List.cons.injEq] at e
    obtain ⟨e1, e2⟩ := e
    simp only [RepVs] at h
    obtain ⟨v, vs', ev, h1, h2⟩ := h
    subst ev e1
    by_cases q : a = k
    · subst q
      have z1 : valK ((inj a, d) :: l) (inj a) = some d := by simp [valK]
      rw [z1]
      exact ⟨v, by rw [List.zip_cons_cons, L2.valV_pos rfl], h1⟩
    · have z1 : valK ((inj a, d) :: l) (inj k) = valK l (inj k) := by
        have : ¬ inj a = inj k := fun z => q (hi a k z)
        simp [valK, List.find?_cons, this]
      rw [z1, List.zip_cons_cons, L2.valV_neg q]
      exact look_zip inj hi k e2 h2
/-- an empty dict is of both kinds -/
theorem recastT {pins : List (Addr × PySem.Obj)} {σ : L2.St} {s : Shared} {a : Addr} (I : Inv X pins σ H s) (h : H a = some (.dK [])) : Inv X pins σ (upd H a (.dT [])) s := by
  obtain ⟨z, y, vs, r, o, es, ep, e, c1, c2, c3, c5, c4⟩ := (show L2.ObjOk X.prog X.w H s.heap a (.dK []) from I.hok a _ h)
  cases r
  have c6 : es.toList = [] := by
    generalize es.toList = l at c5
    cases c5
    rfl
  have I2 := I.write (h' := s.heap) (t' := s.toks) (x := a) (e := a) (o := .dT []) (by rw [h]; trivial) (.inl rfl) (fun b u _ q => q) ⟨o, e⟩ ⟨z, y, [], .nil, o, es, ep, e, c1, c2, by simpa using c6, List.nodup_nil⟩
  exact I2
theorem recastK {pins : List (Addr × PySem.Obj)} {σ : L2.St} {s : Shared} {a : Addr} (I : Inv X pins σ H s) (h : H a = some (.dT [])) : Inv X pins σ (upd H a (.dK [])) s := by
  obtain ⟨z, y, xs, r, o, es, ep, e, c1, c2, c3, c4⟩ := (show L2.ObjOk X.prog X.w H s.heap a (.dT []) from I.hok a _ h)
  cases r
  have c3' : es = #[] := by simpa using c3
  have I2 := I.write (h' := s.heap) (t' := s.toks) (x := a) (e := a) (o := .dK []) (by rw [h]; trivial) (.inl rfl) (fun b u _ q => q) ⟨o, e⟩ ⟨z, y, [], .nil, o, es, ep, e, c1, c2, fun q hq => by subst c3'; simp at hq, by subst c3'; exact .nil, List.nodup_nil⟩
  exact I2
theorem DicAt.nil_t {a : Addr} {vs : List V} (h : DicAt H a [] vs) : H a = some (.dK []) ∨ H a = some (.dT []) := by
  obtain ⟨hl, h⟩ := h
  have : vs = [] := List.eq_nil_of_length_eq_zero hl.symm
  subst this
  rcases h with ⟨l, e, h⟩ | ⟨l, e, h⟩
  · have : l = [] := by simpa using e.symm
    subst this
    exact .inl h
  · have : l = [] := by simpa using e.symm
    subst this
    exact .inr h
theorem upd_self {a : Addr} {o : HO} (h : H a = some o) : upd H a o = H := by
  funext b
  by_cases e : b = a
  · subst e; rw [upd_same, h]
  · rw [upd_ne e]
/-- what a dict holds at a key, in a heap that says the same -/
theorem dic_get {l : List (DKey × D)} {a : Addr} {vs : List V} {k : DKey} {y : V} {d : D} (hd : DicAt H a (l.map (·.1)) vs) (hr : RepVs T w H l vs) (hk : kinds l (isT k) = true) (hkey : key d = some k) (ry : RepU T w H d y) :
    ∃ H2, (∀ pins σ s, Inv X pins σ H s → Inv X pins σ H2 s) ∧ (∀ pins σ s, Inv X pins σ H2 s → Inv X pins σ H s) ∧ (match valK l k with
    | some d => ∃ v, L2.DGet H2 a y (some v) ∧ Rep T w H d v
    | none => L2.DGet H2 a y none) := by
  obtain ⟨hl, hd⟩ := hd
  rcases key_val hkey ry with ⟨k1, rfl, rfl⟩ | ⟨ks, b, rfl, rfl, hb⟩
  · rcases hd with ⟨kl, e1, e2⟩ | ⟨kl, e1, e2⟩
    · refine ⟨H, fun _ _ _ I => I, fun _ _ _ I => I, ?_⟩
      have := look_zip (T := T) (w := w) (H := H) (fun a : Key => (Sum.inl a : DKey)) (fun a b e => Sum.inl.inj e) k1 e1 hr
      revert this
      cases valK l (Sum.inl k1) with
      | none => intro q; rw [← q]; exact L2.DGet.k e2
      | some d => rintro ⟨v, q1, q2⟩; exact ⟨v, by rw [← q1]; exact L2.DGet.k e2, q2⟩
    · cases l with
      | nil =>
        have : kl = [] := by simpa using e1.symm
        subst this
        have e3 : H a = some (.dT []) := by simpa using e2
        refine ⟨upd H a (.dK []), fun _ _ _ I => recastK I e3, fun _ _ _ I => ?_, ?_⟩
        · have J := recastT I upd_same
          rw [L2.upd_upd, upd_self e3] at J
          exact J
        · exact L2.DGet.k (k := k1) upd_same
      | cons p r =>
        simp only [kinds, List.all_cons, Bool.and_eq_true, beq_iff_eq] at hk
        cases kl with
        | nil => simp at e1
        | cons c kl =>
          simp only [List.map_cons, List.cons.injEq] at e1
          rw [e1.1] at hk
          simp [isT] at hk
  · rcases hd with ⟨kl, e1, e2⟩ | ⟨kl, e1, e2⟩
    · cases l with
      | nil =>
        have : kl = [] := by simpa using e1.symm
        subst this
        have e3 : H a = some (.dK []) := by simpa using e2
        have hba : b ≠ a := fun z => by rw [z, e3] at hb; cases hb
        refine ⟨upd H a (.dT []), fun _ _ _ I => recastT I e3, fun _ _ _ I => ?_, ?_⟩
        · have J := recastK I upd_same
          rw [L2.upd_upd, upd_self e3] at J
          exact J
        · exact L2.DGet.t (k := ks) (b := b) upd_same (by rw [upd_ne hba]; exact hb)
      | cons p r =>
        simp only [kinds, List.all_cons, Bool.and_eq_true, beq_iff_eq] at hk
        cases kl with
        | nil => simp at e1
        | cons c kl =>
          simp only [List.map_cons, List.cons.injEq] at e1
          rw [e1.1] at hk
          simp [isT] at hk
    · refine ⟨H, fun _ _ _ I => I, fun _ _ _ I => I, ?_⟩
      have := look_zip (T := T) (w := w) (H := H) (fun a : List Key => (Sum.inr a : DKey)) (fun a b e => Sum.inr.inj e) ks e1 hr
      revert this
      cases valK l (Sum.inr ks) with
      | none => intro q; rw [← q]; exact L2.DGet.t e2 hb
      | some d => rintro ⟨v, q1, q2⟩; exact ⟨v, by rw [← q1]; exact L2.DGet.t e2 hb, q2⟩
/-- back to the heap -/
theorem EP.back {pins : List (Addr × PySem.Obj)} {σ : L2.St} {s' : Shared} {v : Value} {b : Bool} {Q : VK} {H2 : Hp} (I : Inv X pins σ H s') (e : v = Value.bool b) (q : Q (.bl b) H) : L2.EP X pins σ Q v s' := ⟨.bl b, H, I, e, q⟩
theorem op_inSeq (hu : X.A.units + 90 < cLine) : OpR X (PySem.compareOp .In) (rInSeq T false) := by
  intro pins s σ H x y v u Q I rx ry h
  obtain ⟨w, d, c, b, hb, rd, rc, q⟩ := h
  have q : Q (.bl b) H := by simpa using q
  cases c <;> simp only [isin, reduceCtorEq] at hb
  case tup l =>
    simp only [member, Option.ite_none_right_eq_some, Option.some.injEq, Bool.and_eq_true] at hb
    obtain ⟨⟨h1, h2⟩, rfl⟩ := hb
    obtain ⟨as, r1⟩ := Dp.reads I _ _ _ (rep_dp X.K 63 d x h1 rd) rx
    obtain ⟨bs, r2⟩ := Dp.reads I _ _ _ (rep_dp X.K 63 (.tup l) y (by simpa only [D.okd] using h2) rc) ry
    have l1 := okd_lay 63 d h1
    have l2 := okds_lay 62 l h2
    simp only [toPy] at r2
    rw [any_eqv h1 h2] at q
    exact PySem.SeqAt.in_tuple_reads r2 r1 l2.1 l1.1 (by omega) ⟨.bl _, H, I, rfl, q⟩
  case lst l =>
    simp only [member, Option.ite_none_right_eq_some, Option.some.injEq, Bool.and_eq_true] at hb
    obtain ⟨⟨h1, h2⟩, rfl⟩ := hb
    obtain ⟨as, r1⟩ := Dp.reads I _ _ _ (rep_dp X.K 63 d x h1 rd) rx
    obtain ⟨bs, r2⟩ := Dp.reads I _ _ _ (rep_dp X.K 63 (.lst l) y (by simpa only [D.okd] using h2) rc) ry
    have l1 := okd_lay 63 d h1
    have l2 := okds_lay 62 l h2
    simp only [toPy] at r2
    rw [any_eqv h1 h2] at q
    exact PySem.SeqAt.in_list_reads r2 r1 l2.1 l1.1 (by omega) ⟨.bl _, H, I, rfl, q⟩
  case dic l =>
    split at hb
    · rename_i k hk
      split at hb
      · rename_i hks
        cases hb
        obtain ⟨a, vs, rfl, hd, hr⟩ := repU_dic rc
        cases ry
        obtain ⟨H2, f, g, m⟩ := dic_get (X := X) hd hr hks hk rd
        cases hv : valK l k with
        | none =>
          rw [hv] at m q
          exact L2.d_in (by omega) (f _ _ _ I) m rx fun s' J => ⟨.bl _, H, g _ _ _ J, rfl, q⟩
        | some e =>
          rw [hv] at m q
          obtain ⟨v2, m, _⟩ := m
          exact L2.d_in (by omega) (f _ _ _ I) m rx fun s' J => ⟨.bl _, H, g _ _ _ J, rfl, q⟩
      · cases hb
    · cases hb
theorem op_notInSeq (hu : X.A.units + 90 < cLine) : OpR X (PySem.compareOp .NotIn) (rInSeq T true) := by
  intro pins s σ H x y v u Q I rx ry h
  obtain ⟨w, d, c, b, hb, rd, rc, q⟩ := h
  have q : Q (.bl (!b)) H := by simpa using q
  cases c <;> simp only [isin, reduceCtorEq] at hb
  case tup l =>
    simp only [member, Option.ite_none_right_eq_some, Option.some.injEq, Bool.and_eq_true] at hb
    obtain ⟨⟨h1, h2⟩, rfl⟩ := hb
    obtain ⟨as, r1⟩ := Dp.reads I _ _ _ (rep_dp X.K 63 d x h1 rd) rx
    obtain ⟨bs, r2⟩ := Dp.reads I _ _ _ (rep_dp X.K 63 (.tup l) y (by simpa only [D.okd] using h2) rc) ry
    have l1 := okd_lay 63 d h1
    have l2 := okds_lay 62 l h2
    simp only [toPy] at r2
    rw [any_eqv h1 h2] at q
    exact PySem.SeqAt.notIn_tuple_reads r2 r1 l2.1 l1.1 (by omega) ⟨.bl _, H, I, rfl, q⟩
  case lst l =>
    simp only [member, Option.ite_none_right_eq_some, Option.some.injEq, Bool.and_eq_true] at hb
    obtain ⟨⟨h1, h2⟩, rfl⟩ := hb
    obtain ⟨as, r1⟩ := Dp.reads I _ _ _ (rep_dp X.K 63 d x h1 rd) rx
    obtain ⟨bs, r2⟩ := Dp.reads I _ _ _ (rep_dp X.K 63 (.lst l) y (by simpa only [D.okd] using h2) rc) ry
    have l1 := okd_lay 63 d h1
    have l2 := okds_lay 62 l h2
    simp only [toPy] at r2
    rw [any_eqv h1 h2] at q
    exact PySem.SeqAt.notIn_list_reads r2 r1 l2.1 l1.1 (by omega) ⟨.bl _, H, I, rfl, q⟩
  case dic l =>
    split at hb
    · rename_i k hk
      split at hb
      · rename_i hks
        cases hb
        obtain ⟨a, vs, rfl, hd, hr⟩ := repU_dic rc
        cases ry
        obtain ⟨H2, f, g, m⟩ := dic_get (X := X) hd hr hks hk rd
        cases hv : valK l k with
        | none =>
          rw [hv] at m q
          exact L2.d_notIn (by omega) (f _ _ _ I) m rx fun s' J => ⟨.bl _, H, g _ _ _ J, rfl, q⟩
        | some e =>
          rw [hv] at m q
          obtain ⟨v2, m, _⟩ := m
          exact L2.d_notIn (by omega) (f _ _ _ I) m rx fun s' J => ⟨.bl _, H, g _ _ _ J, rfl, q⟩
      · cases hb
    · cases hb
theorem isNon_iff {d : D} {v : V} (r : RepU T w H d v) : decide (v = V.non) = isNon d := by
  cases d with
  | non => rw [repU_non r]; rfl
  | bl b => rw [repU_bl r]; rfl
  | int b => rw [repU_int r]; rfl
  | str b => rw [repU_str r]; rfl
  | tup l => obtain ⟨a, xs, rfl, _⟩ := repU_tup r; rfl
  | lst l => obtain ⟨a, xs, rfl, _⟩ := repU_lst r; rfl
  | dic l => obtain ⟨a, xs, rfl, _⟩ := repU_dic r; rfl
  | web n ls => have z := repU_web r; simp only [Rep] at z; obtain ⟨_, a, _, _, _, _, rfl, _⟩ := z; rfl
  | scr ns => rcases r with z | ⟨a, rfl, z⟩
              · simp only [Rep] at z; obtain ⟨a, rfl, _⟩ := z; rfl
              · rfl
  | hand => rcases r with z | ⟨a, rfl, z⟩
            · simp only [Rep] at z; obtain ⟨a, rfl, _⟩ := z; rfl
            · rfl
/-- the rule of a comparison -/
def rCmp (T : Tx) : Cop → L2.R2
  | .eq => fun x y H Q => L2.rEqD T.K x y H Q ∨ rWeb T false x y H Q
  | .ne => fun x y H Q => L2.rNeD T.K x y H Q ∨ rWeb T true x y H Q
  | .isin => rInSeq T false
  | .notin => rInSeq T true
  | .is => fun x y H Q => y = .non ∧ Q (.bl (decide (x = .non))) H
  | .isnot => fun x y H Q => y = .non ∧ Q (.bl (!decide (x = .non))) H
  | o => rOrd T o
theorem op_cmp (hK : T.K = X.K) (hu : X.A.units + 90 < cLine) (we : OpR X (PySem.compareOp .Eq) (rWeb T false)) (wn : OpR X (PySem.compareOp .NotEq) (rWeb T true)) : ∀ o : Cop, OpR X (PySem.compareOp (opC o)) (rCmp T o)
  | .eq => L2.OpR.or (hK ▸ L2.op_eqD (by omega)) we
  | .ne => L2.OpR.or (hK ▸ L2.op_neD (by omega)) wn
  | .lt => op_ord (o := .lt) rfl hu
  | .le => op_ord (o := .le) rfl hu
  | .gt => op_ord (o := .gt) rfl hu
  | .ge => op_ord (o := .ge) rfl hu
  | .isin => op_inSeq hu
  | .notin => op_notInSeq hu
  | .is => L2.op_isN
  | .isnot => L2.op_notN
theorem serve_ord {w : W} {H : Hp} {o : Cop} {da db : D} {x y : V} {b : Bool} {Q : VK} (e : D.cmpo o 20 da db = some b) (ra : RepU T w H da x) (rb : RepU T w H db y) (q : Out1 T w H false (.bl b) Q) : rOrd T o x y H Q :=
  ⟨w, da, db, b, e, ra, rb, q.old rfl _ rep_bl⟩
theorem deq_data {d e : D} {b : Bool} (h : deq d e = some b) (hw : d.isWeb = false) : d.ok = true ∧ e.ok = true ∧ b = d.eqv e := by
  cases d <;> first | cases hw | skip
  all_goals
    simp only [deq, Option.ite_none_right_eq_some, Option.some.injEq, Bool.and_eq_true] at h
    exact ⟨h.1.1, h.1.2, h.2.symm⟩
theorem cmp_serves (o : Cop) : Serves2 T (rCmp T o) (plainB2 (cmpop o)) := by
  intro w H h da db x y ob d Q wf e ra rb q
  obtain ⟨b, hb, e2⟩ := Option.map_eq_some_iff.mp e
  cases e2
  have eq_case : ∀ (neg : Bool) (b : Bool), deq da db = some b → Out1 T w H false (.bl (if neg then !b else b)) Q → (if neg then L2.rNeD T.K x y H Q else L2.rEqD T.K x y H Q) ∨ rWeb T neg x y H Q := by
    intro neg b hb q
    cases hw : da.isWeb with
    | false =>
      left
      obtain ⟨h1, h2, rfl⟩ := deq_data hb hw
      have e := eqv_py 63 63 da db h1 h2
      cases neg with
      | false => exact ⟨_, _, rep_dp T.K 63 da x h1 ra, rep_dp T.K 63 db y h2 rb, ok_shaped (by decide) h1, ok_shaped (by decide) h2, by rw [← e]; exact q.old rfl _ rep_bl⟩
      | true => exact ⟨_, _, rep_dp T.K 63 da x h1 ra, rep_dp T.K 63 db y h2 rb, ok_shaped (by decide) h1, ok_shaped (by decide) h2, by rw [← e]; exact q.old rfl _ rep_bl⟩
    | true =>
      right
      cases da <;> first | cases hw | skip
      exact ⟨w, h, _, _, db, b, wf, repU_web ra, rb, hb, fun H' k => q.more rfl _ H' k rep_bl⟩
  cases o with
  | eq => exact eq_case false b hb q
  | ne =>
    obtain ⟨c, hc, rfl⟩ := Option.map_eq_some_iff.mp hb
    exact eq_case true c hc q
  | lt => exact serve_ord hb ra rb q
  | le => exact serve_ord hb ra rb q
  | gt => exact serve_ord hb ra rb q
  | ge => exact serve_ord hb ra rb q
  | isin => exact ⟨w, da, db, b, hb, ra, rb, q.old rfl _ rep_bl⟩
  | notin =>
    obtain ⟨c, hc, rfl⟩ := Option.map_eq_some_iff.mp hb
    exact ⟨w, da, db, c, hc, ra, rb, q.old rfl _ rep_bl⟩
  | is =>
    cases db <;> simp only [cmpop, reduceCtorEq, Option.some.injEq] at hb
    subst hb
    exact ⟨repU_non rb, by rw [isNon_iff ra]; exact q.old rfl _ rep_bl⟩
  | isnot =>
    cases db <;> simp only [cmpop, reduceCtorEq, Option.some.injEq] at hb
    subst hb
    exact ⟨repU_non rb, by rw [isNon_iff ra]; exact q.old rfl _ rep_bl⟩
end
end BV

/-! Forms of expressions. -/
namespace BV
open PySem (Str Addr Expr PyData Operator CmpOp cLine Value Shared Around Program World wpAny model Reads ReadsAll)
open L2 (V HO Hp upd upd_same upd_ne SqL SqT Cx PE TE VK OpR Dp DpAll Inv Vals RelV PT PW TT PA TA)

/-- a test that does f -/
def tT (T : Tx) (f : EvT) : TT := fun σ H Q => ∃ w z z' o b, SR T w σ H z ∧ f z = some (z', o, .bl b) ∧ ∀ w' H', SR T w' σ H' z' → Ext w H w' H' → Q b H'
def tF (T : Tx) (f : EfT) : TA := fun σ H Q => ∃ w z z' ds, SR T w σ H z ∧ f z = some (z', ds) ∧ ∀ vs w' H', SR T w' σ H' z' → Ext w H w' H' → Reps T w' H' ds vs → Q vs H'
def OpdReps (T : Tx) (w : W) (σ : L2.St) (H : Hp) : List Opd → List V → Prop
  | [], vs => vs = []
  | o :: r, vs => ∃ v vs', vs = v :: vs' ∧ OpdRep T w σ H o v ∧ OpdReps T w σ H r vs'
def tOs (T : Tx) (f : OsT) : TA := fun σ H Q => ∃ w z z' os, SR T w σ H z ∧ f z = some (z', os) ∧ ∀ vs w' H', SR T w' σ H' z' → Ext w H w' H' → OpdReps T w' σ H' os vs → Q vs H'
def RepUs (T : Tx) (w : W) (H : Hp) : List D → List V → Prop
  | [], vs => vs = []
  | d :: r, vs => ∃ v vs', vs = v :: vs' ∧ RepU T w H d v ∧ RepUs T w H r vs'
theorem PT.imp {X : Cx} {e : Expr} {t u : TT} (h : PT X e t) (q : ∀ σ H Q, u σ H Q → t σ H Q) : PT X e u := ⟨fun pins s σ H Q I hw => h.run pins s σ H Q I (q σ H Q hw)⟩
theorem PW.imp {X : Cx} {e : Expr} {t u : TT} (h : PW X e t) (q : ∀ σ H Q, u σ H Q → t σ H Q) : PW X e u := ⟨fun wh pins s σ H Q I hw => h.run wh pins s σ H Q I (q σ H Q hw)⟩
theorem PA.imp {X : Cx} {es : List Expr} {t u : TA} (h : PA X es t) (q : ∀ σ H Q, u σ H Q → t σ H Q) : PA X es u := ⟨fun pos pins s σ H Q I hw => h.run pos pins s σ H Q I (q σ H Q hw)⟩

section
variable {T : Tx} {w w' : W} {H H' : Hp} {σ : L2.St} {z : Z}
theorem Opd.gets_use (s : SR T w σ H z) : ∀ {os : List Opd} {vs : List V} {ds : List D}, OpdReps T w σ H os vs → gets z os = some ds → RepUs T w H ds vs
  | [], vs, ds, r, e => by
    simp only [OpdReps] at r
    simp only [gets, Option.some.injEq] at e
    subst r e
    rfl
  | o :: r, vs, ds, h, e => by
    simp only [OpdReps] at h
    obtain ⟨v, vs', ev, h1, h2⟩ := h
    subst ev
    simp only [gets] at e
    split at e
    · rename_i d l e1 e2
      cases e
      exact ⟨v, vs', rfl, h1.use s e1, Opd.gets_use s h2 e2⟩
    · cases e
theorem OpdReps.mono (g : Gr w H w' H') : ∀ {os : List Opd} {vs : List V}, OpdReps T w σ H os vs → OpdReps T w' σ H' os vs
  | [], _, h => h
  | o :: r, _, h => by
    obtain ⟨v, vs', ev, h1, h2⟩ := h
    exact ⟨v, vs', ev, h1.mono g, OpdReps.mono g h2⟩
theorem repR_int {i : Int} {H0 : Hp} : RepR T w H H0 false (.int i) (.int i) := show Rep T w H (.int i) (.int i) from rep_int
theorem repR_bl {i : Bool} {H0 : Hp} : RepR T w H H0 false (.bl i) (.bl i) := show Rep T w H (.bl i) (.bl i) from rep_bl
/-- the result of a later step, seen from ahead -/
theorem RepR.back {w1 w2 : W} {H1 H2 : Hp} {o : Bool} {d : D} {v : V} (x : Ext w H w1 H1) (r : RepR T w2 H2 H1 o d v) : RepR T w2 H2 H o d v := by
  cases o with
  | false => exact r
  | true =>
    obtain ⟨p, e1, h0, h⟩ := r
    refine ⟨p, e1, ?_, h⟩
    cases q0 : H p with
    | none => rfl
    | some u => exact absurd h0 (x.dom p (by rw [q0]; simp))
end
def Serves1 (T : Tx) (r : V → Hp → VK → Prop) (f : D → Option (Bool × D)) : Prop := ∀ (w : W) (H : Hp) (h : Option (List D)) (da : D) (x : V) (o : Bool) (d : D) (Q : VK), Wf T w H h →
  f da = some (o, d) → RepU T w H da x → Out1 T w H o d Q → r x H Q
theorem one_op {T : Tx} {a : OpT} {f : D → Option (Bool × D)} {r : V → Hp → VK → Prop} (hr : Serves1 T r f) {σ : L2.St} {H : Hp} {Q : VK} (h : tE T (sOp1 f a) σ H Q) :
    tO T a σ H fun x H1 => r x H1 Q := by
  obtain ⟨w, z, z', o, d, s, e, q⟩ := h
  unfold sOp1 at e
  split at e
  case h_2 => cases e
  case h_1 z1 oa ea =>
    refine ⟨w, z, z1, oa, s, ea, fun x w1 H1 s1 x1 r1 => ?_⟩
    split at e
    · rename_i da ga
      obtain ⟨⟨o', d'⟩, ef, e2⟩ := Option.map_eq_some_iff.mp e
      cases e2
      exact hr w1 H1 _ da x o d Q s1.wf ef (r1.use s1 ga) (out1_of s1 fun v w3 H3 s3 x3 r3 => q v w3 H3 s3 (x1.trans x3) (r3.back x1))
    · cases e
def ServesN (T : Tx) (r : List V → Hp → VK → Prop) (f : List D → Option (Bool × D)) : Prop := ∀ (w : W) (H : Hp) (h : Option (List D)) (ds : List D) (xs : List V) (o : Bool) (d : D) (Q : VK), Wf T w H h →
  f ds = some (o, d) → RepUs T w H ds xs → Out1 T w H o d Q → r xs H Q
theorem n_ops {T : Tx} {l : OsT} {b : Blt} {r : List V → Hp → VK → Prop} (hr : ServesN T r (bltin b)) {σ : L2.St} {H : Hp} {Q : VK} (h : tE T (sBlt b l) σ H Q) :
    tOs T l σ H fun xs H1 => r xs H1 Q := by
  obtain ⟨w, z, z', o, d, s, e, q⟩ := h
  unfold sBlt at e
  split at e
  case h_2 => cases e
  case h_1 z1 os ea =>
    refine ⟨w, z, z1, os, s, ea, fun xs w1 H1 s1 x1 r1 => ?_⟩
    split at e
    · rename_i ds ga
      obtain ⟨⟨o', d'⟩, ef, e2⟩ := Option.map_eq_some_iff.mp e
      cases e2
      exact hr w1 H1 _ ds xs o d Q s1.wf ef (Opd.gets_use s1 r1 ga) (out1_of s1 fun v w3 H3 s3 x3 r3 => q v w3 H3 s3 (x1.trans x3) (r3.back x1))
    · cases e

section
variable {X : Cx} {T : Tx} {e e1 e2 e3 : Expr} {pos : PySem.Pos} {a b c : EvT}
/-- a value's bool -/
theorem pt_of_pe (h : PE X e (tE T a)) (he : ∀ whole, PySem.isTrue e X.env whole = (do let v ← whole; PySem.standAt e.pos; PySem.holding [v] (PySem.truthy v))) : PT X e (tT T a) :=
  PT.imp (L2.pt_val h he) fun σ H Q ⟨w, z, z', o, b, s, e, q⟩ => tE.frz s e fun v w' H' s' x r => by
    simp only [Rep] at r
    subst r
    exact ⟨b, rfl, q w' H' s' x⟩
theorem pe_neg (h : PE X e (tE T a)) : PE X (.UnaryOp .USub e pos) (tE T (sNeg a)) :=
  PE.imp (L2.pe_un L2.un_neg h) fun σ H Q ⟨w, z, z', o, d, s, ee, q⟩ => by
    unfold sNeg at ee
    split at ee
    · rename_i z1 o1 i e1
      cases ee
      exact tE.frz s e1 fun v w' H' s' x r => by
        simp only [Rep] at r
        subst r
        exact ⟨i, rfl, q _ w' H' s' x repR_int⟩
    · cases ee
theorem pe_notE (h : PE X e (tE T a)) : PE X (.UnaryOp .Not e pos) (tE T (sNot a)) :=
  PE.imp (L2.pe_not h) fun σ H Q ⟨w, z, z', o, d, s, ee, q⟩ => by
    unfold sNot at ee
    split at ee
    · rename_i z1 o1 i e1
      cases ee
      exact tE.frz s e1 fun v w' H' s' x r => by
        simp only [Rep] at r
        subst r
        exact ⟨i, rfl, q _ w' H' s' x repR_bl⟩
    · cases ee
/-- a form that hands back a bool has it as its test -/
theorem pt_notE (h : PT X e (tT T a)) : PT X (.UnaryOp .Not e pos) (tT T (sNot a)) :=
  PT.imp (L2.pt_not h) fun σ H Q ⟨w, z, z', o, b, s, ee, q⟩ => by
    unfold sNot at ee
    split at ee
    · rename_i z1 o1 i e1
      simp only [Option.some.injEq, Prod.mk.injEq, D.bl.injEq] at ee
      obtain ⟨rfl, rfl, rfl⟩ := ee
      exact ⟨w, z, z1, o1, i, s, e1, fun w' H' s' x => q w' H' s' x⟩
    · cases ee
theorem pe_andE {r : List Expr} {p2 : PySem.Pos} (ha : PE X e1 (tE T a)) (hb : PE X (.BoolOp .And (e2 :: r) pos) (tE T b)) : PE X (.BoolOp .And (e1 :: e2 :: r) pos) (tE T (sAnd a b)) :=
  PE.imp (L2.pe_and ha hb) fun σ H Q ⟨w, z, z', o, d, s, ee, q⟩ => by
    unfold sAnd at ee
    split at ee
    · rename_i z1 o1 e1
      split at ee
      · rename_i z2 o2 c e2
        cases ee
        refine tE.frz s e1 fun v w' H' s' x r => ?_
        simp only [Rep] at r
        subst r
        refine ⟨true, rfl, ?_⟩
        refine L2.iteT ?_
        refine tE.frz s' e2 fun v2 w2 H2 s2 x2 r2 => ?_
        simp only [Rep] at r2
        subst r2
        exact q _ w2 H2 s2 (x.trans x2) repR_bl
      · cases ee
    · rename_i z1 o1 e1
      cases ee
      refine tE.frz s e1 fun v w' H' s' x r => ?_
      simp only [Rep] at r
      subst r
      refine ⟨false, rfl, ?_⟩
      refine L2.iteF ?_
      exact q _ w' H' s' x repR_bl
    · cases ee
theorem pe_orE {r : List Expr} {p2 : PySem.Pos} (ha : PE X e1 (tE T a)) (hb : PE X (.BoolOp .Or (e2 :: r) pos) (tE T b)) : PE X (.BoolOp .Or (e1 :: e2 :: r) pos) (tE T (sOr a b)) :=
  PE.imp (L2.pe_or ha hb) fun σ H Q ⟨w, z, z', o, d, s, ee, q⟩ => by
    unfold sOr at ee
    split at ee
    · rename_i z1 o1 e1
      split at ee
      · rename_i z2 o2 c e2
        cases ee
        refine tE.frz s e1 fun v w' H' s' x r => ?_
        simp only [Rep] at r
        subst r
        refine ⟨false, rfl, ?_⟩
        refine L2.iteF ?_
        refine tE.frz s' e2 fun v2 w2 H2 s2 x2 r2 => ?_
        simp only [Rep] at r2
        subst r2
        exact q _ w2 H2 s2 (x.trans x2) repR_bl
      · cases ee
    · rename_i z1 o1 e1
      cases ee
      refine tE.frz s e1 fun v w' H' s' x r => ?_
      simp only [Rep] at r
      subst r
      refine ⟨true, rfl, ?_⟩
      refine L2.iteT ?_
      exact q _ w' H' s' x repR_bl
    · cases ee
theorem tand_of {σ : L2.St} {H : Hp} {Q : Bool → Hp → Prop} (h : tT T (sAnd a b) σ H Q) : L2.tAnd (tT T a) (tT T b) σ H Q := by
  obtain ⟨w, z, z', o, d, s, ee, q⟩ := h
  unfold sAnd at ee
  split at ee
  · rename_i z1 o1 e1
    split at ee
    · rename_i z2 o2 c e2
      simp only [Option.some.injEq, Prod.mk.injEq, D.bl.injEq] at ee
      obtain ⟨rfl, rfl, rfl⟩ := ee
      refine ⟨w, z, z1, o1, true, s, e1, fun w' H' s' x => ?_⟩
      refine L2.iteT ?_
      exact ⟨w', z1, z2, o2, c, s', e2, fun w2 H2 s2 x2 => q w2 H2 s2 (x.trans x2)⟩
    · cases ee
  · rename_i z1 o1 e1
    simp only [Option.some.injEq, Prod.mk.injEq, D.bl.injEq] at ee
    obtain ⟨rfl, rfl, rfl⟩ := ee
    refine ⟨w, z, z1, o1, false, s, e1, fun w' H' s' x => ?_⟩
    refine L2.iteF ?_
    exact q w' H' s' x
  · cases ee
theorem tor_of {σ : L2.St} {H : Hp} {Q : Bool → Hp → Prop} (h : tT T (sOr a b) σ H Q) : L2.tOr (tT T a) (tT T b) σ H Q := by
  obtain ⟨w, z, z', o, d, s, ee, q⟩ := h
  unfold sOr at ee
  split at ee
  · rename_i z1 o1 e1
    split at ee
    · rename_i z2 o2 c e2
      simp only [Option.some.injEq, Prod.mk.injEq, D.bl.injEq] at ee
      obtain ⟨rfl, rfl, rfl⟩ := ee
      refine ⟨w, z, z1, o1, false, s, e1, fun w' H' s' x => ?_⟩
      refine L2.iteF ?_
      exact ⟨w', z1, z2, o2, c, s', e2, fun w2 H2 s2 x2 => q w2 H2 s2 (x.trans x2)⟩
    · cases ee
  · rename_i z1 o1 e1
    simp only [Option.some.injEq, Prod.mk.injEq, D.bl.injEq] at ee
    obtain ⟨rfl, rfl, rfl⟩ := ee
    refine ⟨w, z, z1, o1, true, s, e1, fun w' H' s' x => ?_⟩
    refine L2.iteT ?_
    exact q w' H' s' x
  · cases ee
theorem pe_iteE (hc : PT X e (tT T c)) (ha : PE X e1 (tE T a)) (hb : PE X e2 (tE T b)) : PE X (.IfExp e e1 e2 pos) (tE T (sIte c a b)) :=
  PE.imp (L2.pe_ifExp hc ha hb) fun σ H Q ⟨w, z, z', o, d, s, ee, q⟩ => by
    unfold sIte at ee
    split at ee
    · rename_i z1 o1 e1
      refine ⟨w, z, z1, o1, true, s, e1, fun w' H' s' x => ?_⟩
      refine L2.iteT ?_
      exact ⟨w', z1, z', o, d, s', ee, fun v w2 H2 s2 x2 r => q v w2 H2 s2 (x.trans x2) (r.back x)⟩
    · rename_i z1 o1 e1
      refine ⟨w, z, z1, o1, false, s, e1, fun w' H' s' x => ?_⟩
      refine L2.iteF ?_
      exact ⟨w', z1, z', o, d, s', ee, fun v w2 H2 s2 x2 r => q v w2 H2 s2 (x.trans x2) (r.back x)⟩
    · cases ee
theorem pt_iteE (hc : PT X e (tT T c)) (ha : PT X e1 (tT T a)) (hb : PT X e2 (tT T b)) : PT X (.IfExp e e1 e2 pos) (tT T (sIte c a b)) := by
  refine ⟨fun pins s σ H Q I ⟨w, z, z', o, d, sr, ee, q⟩ => ?_⟩
  unfold sIte at ee
  refine PyProof.Rows.isTrue_IfExp ?_
  split at ee
  · rename_i z1 o1 e1
    refine L2.thn (hc.run pins s σ H (fun k H1 => k = true ∧ tT T a σ H1 Q) I ⟨w, z, z1, o1, true, sr, e1, fun w' H' s' x => ⟨rfl, w', z1, z', o, d, s', ee, fun w2 H2 s2 x2 => q w2 H2 s2 (x.trans x2)⟩⟩) fun k s1 ⟨H1, I1, hb1, q1⟩ => ?_
    subst hb1
    exact L2.iteT (ha.run pins s1 σ H1 Q I1 q1)
  · rename_i z1 o1 e1
    refine L2.thn (hc.run pins s σ H (fun k H1 => k = false ∧ tT T b σ H1 Q) I ⟨w, z, z1, o1, false, sr, e1, fun w' H' s' x => ⟨rfl, w', z1, z', o, d, s', ee, fun w2 H2 s2 x2 => q w2 H2 s2 (x.trans x2)⟩⟩) fun k s1 ⟨H1, I1, hb1, q1⟩ => ?_
    subst hb1
    exact L2.iteF (hb.run pins s1 σ H1 Q I1 q1)
  · cases ee
/-! ### comparisons as tests, chains -/
theorem pt_cmp2 {op : CmpOp} {oa ob : OpT} {f : D → D → Option Bool} {r : L2.R2} (ho : OpR X (PySem.compareOp op) r) (hr : Serves2 T r (plainB2 f))
    (hm : PySem.behindInMarks op e2 = false) (ha : PE X e1 (tO T oa)) (hb : PE X e2 (tO T ob)) : PT X (.Compare e1 [op] [e2] pos) (tT T (sOp2 (plainB2 f) oa ob)) :=
  PT.imp (L2.pt_cmpR ho ha hb hm) fun σ H Q ⟨w, z, z', o, b, s, ee, q⟩ => by
    refine two_ops (Q := fun x H' => ∃ k, x = .bl k ∧ Q k H') hr ⟨w, z, z', o, .bl b, s, ee, fun v w' H' s' x r => ?_⟩
    have ho : o = false := by
      unfold sOp2 at ee
      split at ee
      · split at ee
        · split at ee
          · obtain ⟨⟨o', d'⟩, ef, e2⟩ := Option.map_eq_some_iff.mp ee
            obtain ⟨k, _, ek⟩ := Option.map_eq_some_iff.mp ef
            cases e2
            cases ek
            rfl
          · cases ee
        · cases ee
      · cases ee
    subst ho
    have r : Rep T w' H' (.bl b) v := r
    simp only [Rep] at r
    subst r
    exact ⟨b, rfl, q w' H' s' x⟩
theorem chain_of {o p : Cop} {oa ob oc : OpT} (h1 : Serves2 T (rCmp T o) (plainB2 (cmpop o))) (h2 : Serves2 T (rCmp T p) (plainB2 (cmpop p))) {σ : L2.St} {H : Hp} {Q : VK} (h : tE T (sCmp2 o p oa ob oc) σ H Q) :
    L2.tChain (rCmp T o) (rCmp T p) (tO T oa) (tO T ob) (tO T oc) σ H Q := by
  obtain ⟨w, z, z', o', d, s, ee, q⟩ := h
  unfold sCmp2 at ee
  split at ee
  case h_2 => cases ee
  case h_1 z1 va ea =>
    split at ee
    case h_2 => cases ee
    case h_1 z2 vb eb =>
      refine ⟨w, z, z1, va, s, ea, fun x w1 H1 s1 x1 r1 => ⟨w1, z1, z2, vb, s1, eb, fun y w2 H2 s2 x2 r2 => ?_⟩⟩
      split at ee
      · rename_i da db ga gb
        have go : ∀ b, cmpop o da db = some b → (∀ w3 H3, SR T w3 σ H3 z2 → Ext w2 H2 w3 H3 → if b = true then tO T oc σ H3 (fun w' H4 => rCmp T p y w' H4 Q) else Q (V.bl false) H3) →
            rCmp T o x y H2 fun z H3 => ∃ k, z = V.bl k ∧ if k = true then tO T oc σ H3 fun w' H4 => rCmp T p y w' H4 Q else Q (V.bl false) H3 := fun b hb k => by
          refine h1 w2 H2 _ da db x y false (.bl b) _ s2.wf (by unfold plainB2; rw [hb]; rfl) ((r1.mono (x2.gr s1.wf)).use s2 ga) (r2.use s2 gb) (out1_of s2 fun v w3 H3 s3 x3 r3 => ?_)
          have r3 : Rep T w3 H3 (.bl b) v := r3
          simp only [Rep] at r3
          subst r3
          exact ⟨b, rfl, k w3 H3 s3 x3⟩
        split at ee
        · rename_i hb
          cases ee
          refine go false hb fun w3 H3 s3 x3 => L2.iteF (q _ w3 H3 s3 ((x1.trans x2).trans x3) repR_bl)
        · rename_i hb
          refine go true hb fun w3 H3 s3 x3 => L2.iteT ?_
          split at ee
          case h_2 => cases ee
          case h_1 z3 vc ec =>
            refine ⟨w3, z2, z3, vc, s3, ec, fun y2 w4 H4 s4 x4 r4 => ?_⟩
            split at ee
            · rename_i db' dc gb' gc
              obtain ⟨k, ek, e2⟩ := Option.map_eq_some_iff.mp ee
              cases e2
              refine h2 w4 H4 _ db' dc y y2 false (.bl k) Q s4.wf (by unfold plainB2; rw [ek]; rfl) (((r2.mono (x3.gr s2.wf)).mono (x4.gr s3.wf)).use s4 gb') (r4.use s4 gc) (out1_of s4 fun v w5 H5 s5 x5 r5 => ?_)
              exact q v w5 H5 s5 ((((x1.trans x2).trans x3).trans x4).trans x5) r5
            · cases ee
        · cases ee
      · cases ee
theorem lastMarks2 {op op' : CmpOp} (h : notSet e3 = true) : PySem.lastMarks [op, op'] [e2, e3] = false := by
  show PySem.behindInMarks op' e3 = false
  cases e3 <;> first | rfl | cases h
theorem behind_no {op : CmpOp} (h : notSet e2 = true) : PySem.behindInMarks op e2 = false := by
  cases e2 <;> first | rfl | cases h
end
/-! ### displays -/
section
variable {X : Cx} {T : Tx} {e : Expr} {es : List Expr} {pos : PySem.Pos} {a : EvT} {l : EfT} {ol : OpT} {os : OsT}
theorem star_no (h : notStar e = true) : PySem.starEach (e :: es) X.env = (false, PySem.eval e X.env) :: PySem.starEach es X.env := by
  cases e <;> first | rfl | cases h
theorem paF_nil : PA X [] (tF T sEfNil) := PA.imp L2.pa_nil fun σ H Q ⟨w, z, z', ds, s, ee, q⟩ => by
  cases ee
  exact q [] w H s (Ext.refl w H) (by simp [Reps])
theorem paF_cons (h : notStar e = true) (ha : PE X e (tE T a)) (hr : PA X es (tF T l)) : PA X (e :: es) (tF T (sEfCons a l)) := PA.imp (L2.pa_cons ha hr (star_no h)) fun σ H Q ⟨w, z, z', ds, s, ee, q⟩ => by
  unfold sEfCons at ee
  split at ee
  · rename_i z1 o d e1
    split at ee
    · rename_i z2 dr e2
      cases ee
      refine tE.frz s e1 fun v w1 H1 s1 x1 r1 => ⟨w1, z1, _, dr, s1, e2, fun vs w2 H2 s2 x2 r2 => q (v :: vs) w2 H2 s2 (x1.trans x2) ?_⟩
      simp only [Reps]
      exact ⟨v, vs, rfl, r1.mono (x2.gr s1.wf), r2⟩
    · cases ee
  · cases ee
theorem paO_nil : PA X [] (tOs T sOsNil) := PA.imp L2.pa_nil fun σ H Q ⟨w, z, z', ds, s, ee, q⟩ => by
  cases ee
  exact q [] w H s (Ext.refl w H) rfl
theorem paO_cons (h : notStar e = true) (ha : PE X e (tO T ol)) (hr : PA X es (tOs T os)) : PA X (e :: es) (tOs T (sOsCons ol os)) := PA.imp (L2.pa_cons ha hr (star_no h)) fun σ H Q ⟨w, z, z', ds, s, ee, q⟩ => by
  unfold sOsCons at ee
  split at ee
  · rename_i z1 o e1
    split at ee
    · rename_i z2 dr e2
      cases ee
      exact ⟨w, z, z1, o, s, e1, fun v w1 H1 s1 x1 r1 => ⟨w1, z1, _, dr, s1, e2, fun vs w2 H2 s2 x2 r2 => q (v :: vs) w2 H2 s2 (x1.trans x2) ⟨v, vs, rfl, r1.mono (x2.gr s1.wf), r2⟩⟩⟩
    · cases ee
  · cases ee
theorem pe_tupE {k : Nat} (h : PA X es (tF T l)) : PE X (.Tuple es k pos) (tE T (sTup l)) := PE.imp (L2.pe_tup h) fun σ H Q ⟨w, z, z', o, d, s, ee, q⟩ => by
  unfold sTup at ee
  split at ee
  · rename_i z1 ds e1
    split at ee
    · rename_i hl
      cases ee
      refine ⟨w, z, _, ds, s, e1, fun vs w1 H1 s1 x1 r1 => ⟨by rw [← r1.length, ← lim_line]; exact hl, fun p hp => ?_⟩⟩
      exact (out1_of (o := false) (d := .tup ds) s1 fun v w3 H3 s3 x3 r3 => q v w3 H3 s3 (x1.trans x3) (r3.back x1)).tup ds p vs rfl rfl hp r1
    · cases ee
  · cases ee
theorem pe_lstE (h : PA X es (tF T l)) : PE X (.List es pos) (tE T (sLst l)) := PE.imp (L2.pe_lst h) fun σ H Q ⟨w, z, z', o, d, s, ee, q⟩ => by
  unfold sLst at ee
  split at ee
  · rename_i z1 ds e1
    split at ee
    · rename_i hl
      cases ee
      refine ⟨w, z, _, ds, s, e1, fun vs w1 H1 s1 x1 r1 => ⟨by rw [← r1.length, ← lim_line]; exact hl, fun p hp => ?_⟩⟩
      exact (out1_of (o := true) (d := .lst ds) s1 fun v w3 H3 s3 x3 r3 => q v w3 H3 s3 (x1.trans x3) (r3.back x1)).lst ds p vs rfl rfl hp r1
    · cases ee
  · cases ee
theorem pe_dic0 : PE X (.Dict [] [] pos) (tE T fun z => some (z, true, .dic [])) := PE.imp L2.pe_dnewK fun σ H Q ⟨w, z, z', o, d, s, ee, q⟩ => by
  cases ee
  intro p hp
  exact (out1_of (o := true) (d := .dic []) s fun v w3 H3 s3 x3 r3 => q v w3 H3 s3 x3 r3).dic [] p [] _ rfl rfl hp (by simp [RepVs]) ⟨rfl, .inl ⟨[], rfl, rfl⟩⟩
end
end BV

/-! Subscripts, slices, fields. -/
namespace BV
open PySem (Str Addr Expr PyData Operator CmpOp cLine Value Shared Around Program World wpAny model Reads ReadsAll)
open L2 (V HO Hp upd upd_same upd_ne SqL SqT Cx PE TE VK OpR Dp DpAll Inv Vals RelV PT PW TT PA TA IxR SlR PO)

section
variable {T : Tx} {w : W} {H : Hp}
theorem ixN_eq (n : Nat) (i : Int) : BV.ixN n i = L2.ixN n i := rfl
theorem Reps.atI {l : List D} {xs : List V} {i : Int} {d : D} (h : Reps T w H l xs) (e : BV.atI l i = some d) : ∃ v, L2.atI xs i = some v ∧ Rep T w H d v := by
  unfold BV.atI at e
  obtain ⟨j, e1, e2⟩ := Option.bind_eq_some_iff.mp e
  obtain ⟨v, h1, h2⟩ := h.get e2
  refine ⟨v, ?_, h2⟩
  unfold L2.atI
  rw [← h.length, ← ixN_eq, e1]
  exact h1
theorem Reps.cutV {l : List D} {xs : List V} (h : Reps T w H l xs) (lo hi : Option Int) : Reps T w H (BV.cut l lo hi) (L2.cutV xs lo hi) := by
  have := h.cut lo hi
  exact this
def rIxD (T : Tx) : L2.R2 := fun x y H Q => ∃ w l d k dv, RepU T w H (.dic l) x ∧ key d = some k ∧ RepU T w H d y ∧ kinds l (isT k) = true ∧ valK l k = some dv ∧ ∀ v, Rep T w H dv v → Q v H
theorem ix_dic {X : Cx} (hu : X.A.units + 1 < cLine) : IxR X (rIxD T) := by
  intro value slice pins s σ H x y v u Q I rx ry h hs
  obtain ⟨w, l, d, k, dv, rl, hk, rd, hks, hv, q⟩ := h
  obtain ⟨a, vs, rfl, hd, hr⟩ := repU_dic rl
  cases rx
  obtain ⟨H2, f, g, m⟩ := dic_get (X := X) hd hr hks hk rd
  rw [hv] at m
  obtain ⟨v2, m, rv⟩ := m
  refine PyProof.Rows.tail_any (L2.dict_typeIs (f _ _ _ I) m) PySem.F.slot_dict_getitem.lookup (L2.d_getItem hu (f _ _ _ I) m ry fun w' s' J rw' => ⟨v2, H, g _ _ _ J, rw', q v2 rv⟩) hs
def rItem (T : Tx) : L2.R2 := fun x y H Q => L2.rIxL T.K x y H Q ∨ L2.rIxT T.K x y H Q ∨ rIxD T x y H Q
theorem ix_item {X : Cx} (hK : T.K = X.K) (hu : X.A.units + 1 < cLine) : IxR X (rItem T) := L2.IxR.or (hK ▸ L2.ix_list) (L2.IxR.or (hK ▸ L2.ix_tup) (ix_dic hu))
theorem item_serve {h : Option (List D)} {da db d : D} {x y : V} {Q : VK} (e : ixop da db = some d) (ra : RepU T w H da x) (rb : RepU T w H db y) (q : ∀ v, Rep T w H d v → Q v H) : rItem T x y H Q := by
  cases da with
  | tup l =>
    cases db <;> simp only [ixop, reduceCtorEq] at e
    obtain ⟨a, xs, rfl, h1, h2⟩ := repU_tup ra
    obtain ⟨v, e1, r1⟩ := h2.atI e
    exact .inr (.inl ⟨a, xs, _, v, rfl, repU_int rb, SqT.of h1, e1, q v r1⟩)
  | lst l =>
    cases db <;> simp only [ixop, reduceCtorEq] at e
    obtain ⟨a, xs, rfl, h1, h2⟩ := repU_lst ra
    obtain ⟨v, e1, r1⟩ := h2.atI e
    exact .inl ⟨a, xs, _, v, rfl, repU_int rb, SqL.of h1, e1, q v r1⟩
  | dic l =>
    have e : (match key db with
      | some k => if kinds l (isT k) then valK l k else none
      | none => none) = some d := by
      cases db <;> exact e
    split at e
    · rename_i k hk
      split at e
      · rename_i hks
        exact .inr (.inr ⟨w, l, db, k, d, ra, hk, rb, hks, e, q⟩)
      · cases e
    · cases e
  | _ => cases db <;> simp only [ixop, reduceCtorEq] at e
end
section
variable {X : Cx} {T : Tx} {e e1 e2 e3 : Expr} {pos p1 p2 p3 : PySem.Pos} {a b c : OpT}
theorem item_of {σ : L2.St} {H : Hp} {Q : VK} (h : tE T (sItem a b) σ H Q) : tO T a σ H fun x H1 => tO T b σ H1 fun y H2 => rItem T x y H2 Q := by
  obtain ⟨w, z, z', o, d, s, e, q⟩ := h
  unfold sItem at e
  split at e
  case h_2 => cases e
  case h_1 z1 oa ea =>
    split at e
    case h_2 => cases e
    case h_1 z2 ob eb =>
      refine ⟨w, z, z1, oa, s, ea, fun x w1 H1 s1 x1 r1 => ⟨w1, z1, z2, ob, s1, eb, fun y w2 H2 s2 x2 r2 => ?_⟩⟩
      split at e
      · rename_i i ga gb
        split at e
        · rename_i l hl
          obtain ⟨d', e1, e2⟩ := Option.map_eq_some_iff.mp e
          cases e2
          have ra := (r1.mono (x2.gr s1.wf)).use s2 ga
          have rb := r2.use s2 gb
          rcases ra with z | ⟨_, _, z⟩
          · simp only [Rep] at z
            obtain ⟨p, rfl, hp⟩ := z
            have hh := s2.wf.hand
            rw [hp, hl] at hh
            obtain ⟨xs, h1, h2⟩ := hh
            obtain ⟨v, e3, r3⟩ := h2.atI e1
            exact .inl ⟨p, xs, _, v, rfl, repU_int rb, SqL.of h1, e3, q v w2 H2 s2 (x1.trans x2) r3⟩
          · exact z.elim
        · cases e
      · rename_i da di nh ga gb
        obtain ⟨d', e1, e2⟩ := Option.map_eq_some_iff.mp e
        cases e2
        exact item_serve (h := none) e1 ((r1.mono (x2.gr s1.wf)).use s2 ga) (r2.use s2 gb) fun v r => q v w2 H2 s2 (x1.trans x2) r
      · cases e
theorem plainIx_of (h : notSlice e = true) : L2.PlainIx e := by
  intro o i
  cases e <;> first | rfl | cases h
theorem pe_itemE (hK : T.K = X.K) (hu : X.A.units + 1 < cLine) (hs : notSlice e2 = true) (ha : PE X e1 (tO T a)) (hb : PE X e2 (tO T b)) : PE X (.Subscript e1 e2 pos) (tE T (sItem a b)) :=
  PE.imp (L2.pe_ix (ix_item hK hu) ha hb (plainIx_of hs)) fun _ _ _ h => item_of h

/-! ### slices -/
def tPo (T : Tx) (f : EoT) : L2.TO := fun σ H Q => ∃ w z z' d, SR T w σ H z ∧ f z = some (z', d) ∧ ∀ o w' H', SR T w' σ H' z' → Ext w H w' H' → optI d = some o → Q o H'
theorem po_no : PO X none (tPo T sEoNone) := by
  refine ⟨fun pins s σ H Q I ⟨w, z, z', d, sr, e, q⟩ => L2.po_none.run pins s σ H Q I ?_⟩
  cases e
  exact q none w H sr (Ext.refl w H) rfl
/-- a part that is an int -/
def tPi (T : Tx) (f : EvT) : L2.TO := fun σ H Q => ∃ w z z' o i, SR T w σ H z ∧ f z = some (z', o, .int i) ∧ ∀ w' H', SR T w' σ H' z' → Ext w H w' H' → Q (some i) H'
theorem po_yes {f : EvT} (h : PE X e (tE T f)) : PO X (some e) (tPi T f) := by
  refine ⟨fun pins s σ H Q I ⟨w, z, z', o, i, sr, e, q⟩ => (L2.po_some h).run pins s σ H Q I ?_⟩
  exact tE.frz sr e fun v w' H' s' x r => by
    simp only [Rep] at r
    exact ⟨i, r, q w' H' s' x⟩
def tPx (T : Tx) : Option EvT → L2.TO
  | none => L2.tNoPart
  | some f => tPi T f
def sEoOf : Option EvT → EoT
  | none => sEoNone
  | some f => sEoSome f
/-- a part that is left out or an int -/
theorem px_step {T : Tx} {f : Option EvT} {w : W} {z z' : Z} {d : Option D} {o : Option Int} {σ : L2.St} {H : Hp} {Q : Option Int → Hp → Prop} (s : SR T w σ H z) (e : sEoOf f z = some (z', d)) (eo : optI d = some o)
    (q : ∀ w' H', SR T w' σ H' z' → Ext w H w' H' → Q o H') : tPx T f σ H Q := by
  cases f with
  | none =>
    cases e
    cases eo
    exact q w H s (Ext.refl w H)
  | some f =>
    simp only [sEoOf, sEoSome] at e
    split at e
    · rename_i zz ob d1 e1
      cases e
      cases d1 <;> simp only [optI, reduceCtorEq, Option.some.injEq] at eo
      subst eo
      exact ⟨w, z, _, ob, _, s, e1, fun w' H' s' x => q w' H' s' x⟩
    · cases e
def rSl (T : Tx) : V → Option Int → Option Int → Hp → VK → Prop := fun x lo hi H Q => L2.rSlL T.K x lo hi H Q ∨ L2.rSlA T.K x lo hi H Q
theorem cut_whole {α : Type} {l : List α} {lo hi : Option Int} (h : BV.sIx l.length 0 lo = 0 ∧ BV.sIx l.length l.length hi = l.length) : BV.cut l lo hi = l := by
  unfold BV.cut
  rw [h.1, h.2]
  simp
theorem sIx_eq (n d : Nat) (i : Option Int) : BV.sIx n d i = HT.sIx n d i := by
  cases i <;> rfl
theorem serve_sl {w : W} {H : Hp} {da d : D} {lo hi : Option Int} {x : V} {o : Bool} {Q : VK} (e : slop da lo hi = some (o, d)) (ra : RepU T w H da x) (q : Out1 T w H o d Q) : rSl T x lo hi H Q := by
  cases da <;> simp only [slop, reduceCtorEq, Option.some.injEq, Prod.mk.injEq] at e
  case tup l =>
    obtain ⟨rfl, rfl⟩ := e
    have ra' := repU_tupF ra
    obtain ⟨a, xs, rfl, h1, h2⟩ := repU_tup ra
    refine .inr ⟨a, xs, rfl, SqT.of h1, fun hw => ?_, fun _ p hp => q.tup _ p _ rfl rfl hp (h2.cutV lo hi)⟩
    refine q.old rfl _ ?_
    rw [cut_whole (by rw [sIx_eq, sIx_eq, h2.length]; exact hw)]
    exact ra'
  case lst l =>
    obtain ⟨rfl, rfl⟩ := e
    obtain ⟨a, xs, rfl, h1, h2⟩ := repU_lst ra
    exact .inl ⟨a, xs, rfl, SqL.of h1, fun p hp => q.lst _ p _ rfl rfl hp (h2.cutV lo hi)⟩
  case scr ns =>
    obtain ⟨rfl, rfl⟩ := e
    rcases ra with z | ⟨_, _, z⟩
    · simp only [Rep] at z
      obtain ⟨a, rfl, hf, h1⟩ := z
      refine .inl ⟨a, _, rfl, h1, fun p hp => q.lst _ p _ rfl rfl hp ?_⟩
      have := (Reps.of_ints (T := T) (w := w) (H := H) ns).cutV lo hi
      have e2 : BV.cut (ns.map D.int) lo hi = (BV.cut ns lo hi).map D.int := by
        unfold BV.cut
        rw [List.length_map, List.map_take, List.map_drop]
      rw [e2] at this
      exact this
    · exact z.elim
theorem sl_of {fl fh : Option EvT} {σ : L2.St} {H : Hp} {Q : VK} (h : tE T (sSl a (sEoOf fl) (sEoOf fh)) σ H Q) : L2.tSl (rSl T) (tO T a) (tPx T fl) (tPx T fh) σ H Q := by
  obtain ⟨w, z, z', o, d, s, e, q⟩ := h
  unfold sSl at e
  split at e
  case h_2 => cases e
  case h_1 z1 oa ea =>
    split at e
    case h_2 => cases e
    case h_1 z2 dl el =>
      split at e
      case h_2 => cases e
      case h_1 z3 dh eh =>
        split at e
        · rename_i da l hh ga gl gh
          obtain ⟨⟨o', d'⟩, e1, e2⟩ := Option.map_eq_some_iff.mp e
          cases e2
          refine ⟨w, z, z1, oa, s, ea, fun x w1 H1 s1 x1 r1 => px_step s1 el gl fun w2 H2 s2 x2 => px_step s2 eh gh fun w3 H3 s3 x3 => ?_⟩
          exact serve_sl e1 (((r1.mono (x2.gr s1.wf)).mono (x3.gr s2.wf)).use s3 ga) (out1_of s3 fun v w4 H4 s4 x4 r4 => q v w4 H4 s4 (((x1.trans x2).trans x3).trans x4) (r4.back ((x1.trans x2).trans x3)))
        · cases e
theorem po_px {e : Option Expr} {f : Option EvT} (h : match e, f with
    | none, none => True
    | some e, some f => PE X e (tE T f)
    | _, _ => False) : PO X e (tPx T f) := by
  cases e with
  | none => cases f with
    | none => exact L2.po_none
    | some f => exact h.elim
  | some e => cases f with
    | none => exact h.elim
    | some f => exact po_yes h
theorem pe_slE {lo hi : Option Expr} {fl fh : Option EvT} (hK : T.K = X.K) (ha : PE X e (tO T a)) (hl : PO X lo (tPx T fl)) (hh : PO X hi (tPx T fh)) : PE X (.Subscript e (.Slice lo hi none p2) pos) (tE T (sSl a (sEoOf fl) (sEoOf fh))) :=
  PE.imp (L2.pe_slice (L2.SlR.or (hK ▸ L2.sl_list) (hK ▸ L2.sl_tupA)) ha hl hh) fun _ _ _ h => sl_of h
end
end BV

/-! Built-ins by values. -/
namespace BV
open PySem (Str Addr Expr PyData Operator CmpOp cLine Value Shared Around Program World wpAny model Reads ReadsAll)
open L2 (V HO Hp upd upd_same upd_ne SqL SqT Cx PE TE VK OpR Dp DpAll Inv Vals RelV PT PW TT PA TA CallR EP)

def rBlt (T : Tx) (b : Blt) : List V → Hp → VK → Prop := fun xs H Q => ∃ w h ds o d, Wf T w H h ∧ bltin b ds = some (o, d) ∧ RepUs T w H ds xs ∧ Out1 T w H o d Q
def fBlt : Blt → Value
  | .abs => .builtin "abs"
  | .all => .builtin "all"
  | .any => .builtin "any"
  | .int => .type "int"
  | .len => .builtin "len"
  | .max => .builtin "max"
  | .min => .builtin "min"
  | .sorted => .builtin "sorted"
  | .sum => .builtin "sum"
  | .list => .type "list"
  | .tuple => .type "tuple"
  | .repr => .builtin "repr"
  | .dict => .type "dict"
theorem blt_serves (T : Tx) (b : Blt) : ServesN T (rBlt T b) (bltin b) := fun w H h ds xs o d Q wf e r q => ⟨w, h, ds, o, d, wf, e, r, q⟩
section
variable {T : Tx} {w : W} {H : Hp} {X : Cx}
theorem repUs1 {d : D} {xs : List V} (h : RepUs T w H [d] xs) : ∃ v, xs = [v] ∧ RepU T w H d v := by
  obtain ⟨v, vs, e, h1, h2⟩ := h
  have h2 : vs = [] := h2
  subst h2
  exact ⟨v, e, h1⟩
theorem repUs2 {d e : D} {xs : List V} (h : RepUs T w H [d, e] xs) : ∃ v u, xs = [v, u] ∧ RepU T w H d v ∧ RepU T w H e u := by
  obtain ⟨v, vs, e1, h1, h2⟩ := h
  obtain ⟨u, e2, h3⟩ := repUs1 h2
  subst e2
  exact ⟨v, u, e1, h1, h3⟩
/-- ints as data of a heap -/
theorem reads_ints {h : PySem.Heap} : ∀ {us : List Value} {ns : List Int}, Vals (ns.map V.int) us → ReadsAll h us (ns.map .int) []
  | us, [], r => by cases r; exact .nil
  | us, n :: ns, r => by
    rw [List.map_cons] at r
    cases r with
    | cons r1 r2 =>
      obtain ⟨t, rfl⟩ := r1
      exact .cons (as := []) (bs := []) (.int n t) (reads_ints r2)
theorem alike_ints_all (ns : List Int) : PySem.W.AlikeAll (ns.map PyData.int) := by
  constructor
  · intro x hx y hy
    obtain ⟨i, _, rfl⟩ := List.mem_map.mp hx
    obtain ⟨j, _, rfl⟩ := List.mem_map.mp hy
    rfl
  · intro x hx
    obtain ⟨i, _, rfl⟩ := List.mem_map.mp hx
    simp
theorem depth_ints0 (ns : List Int) : PyData.depthAll (ns.map .int) = 0 := PySem.W.depth_ints ns
/-- the greatest of a list or tuple of ints, the least -/
theorem call_seqMM {mx : Bool} (hc : X.calm = true) (hu : X.A.units + 90 < cLine) {pins : List (Addr × PySem.Obj)} {s : Shared} {σ : L2.St} {a : Addr} {i : Int} {r : List Int} {Q : VK} (I : Inv X pins σ H s)
    (hs : SqL X.K H a ((i :: r).map V.int) ∨ SqT X.K H a ((i :: r).map V.int)) (q : Q (.int (if mx then r.foldl max i else r.foldl min i)) H) :
    wpAny (model X.prog X.w) X.A (PySem.call (.builtin (if mx then "max" else "min")) [.ref a]) (EP X pins σ Q) X.xe s := by
  have dep : X.A.units + 1 + PyData.depthAll (PyData.int i :: r.map .int) < cLine := by
    have e : PyData.depthAll (PyData.int i :: r.map .int) = 0 := depth_ints0 (i :: r)
    rw [e]
    omega
  have al : PySem.W.AlikeAll (PyData.int i :: r.map .int) := alike_ints_all (i :: r)
  have fin : ∀ {h' : PySem.Heap} {tk : Nat} {v : Value} {bs : List Addr} {m : Int}, Reads h' v (.int m) bs → (∀ b o, s.heap.get? b = some o → h'.get? b = some o) → Q (.int m) H → EP X pins σ Q v { s with heap := h', toks := tk } := by
    intro h' tk v bs m rd kp qq
    cases rd
    exact ⟨.int m, H, I.kept kp, ⟨_, rfl⟩, qq⟩
  rcases hs with hs | hs
  · obtain ⟨its, rv, hl, hz⟩ := I.list hs
    have rd : ReadsAll s.heap its.toArray.toList (PyData.int i :: r.map .int) [] := reads_ints (ns := i :: r) rv
    cases mx with
    | true => exact PySem.W.max_list_data (I.ok.hd hc) hl.isList rd al dep fun j v h' tk bs _ r2 kp => fin (by rw [PySem.W.maxD_ints] at r2; exact r2) kp q
    | false => exact PySem.W.min_list_data (I.ok.hd hc) hl.isList rd al dep fun j v h' tk bs _ r2 kp => fin (by rw [PySem.W.minD_ints] at r2; exact r2) kp q
  · obtain ⟨its, rv, hl, hz⟩ := I.tuple hs
    have rd : ReadsAll s.heap its.toArray.toList (PyData.int i :: r.map .int) [] := reads_ints (ns := i :: r) rv
    cases mx with
    | true => exact PySem.W.max_tuple_data (I.ok.hd hc) hl rd al dep fun j v h' tk bs _ r2 kp => fin (by rw [PySem.W.maxD_ints] at r2; exact r2) kp q
    | false => exact PySem.W.min_tuple_data (I.ok.hd hc) hl rd al dep fun j v h' tk bs _ r2 kp => fin (by rw [PySem.W.minD_ints] at r2; exact r2) kp q
theorem seqOf_is {x : D} {l : List D} (h : seqOf x = some l) : x = .lst l ∨ x = .tup l := by
  cases x <;> simp only [seqOf, reduceCtorEq, Option.some.injEq] at h
  · subst h; exact .inr rfl
  · subst h; exact .inl rfl
theorem mmop_is {f : Int → Int → Int} {x : D} {o : Bool} {d : D} (e : mmop f x = some (o, d)) : ∃ l i r, (x = .lst l ∨ x = .tup l) ∧ intsD l = some (i :: r) ∧ o = false ∧ d = .int (r.foldl f i) := by
  unfold mmop at e
  split at e
  · rename_i l hl
    split at e
    · rename_i i r hi
      cases e
      exact ⟨l, i, r, seqOf_is hl, hi, rfl, rfl⟩
    · cases e
  · cases e
theorem int2_is {f : Int → Int → Int} {x y : D} {o : Bool} {d : D} (e : int2 f x y = some (o, d)) : ∃ i j, x = .int i ∧ y = .int j ∧ o = false ∧ d = .int (f i j) := by
  cases x <;> cases y <;> simp only [int2, reduceCtorEq] at e
  cases e
  exact ⟨_, _, rfl, rfl, rfl, rfl⟩
theorem bltin_cases {b : Blt} {ds : List D} {r : Bool × D} (e : bltin b ds = some r) : (∃ x, ds = [x] ∧ bltin1 b x = some r) ∨ ∃ x y, ds = [x, y] ∧ bltin2 b x y = some r := by
  match ds with
  | [] => cases e
  | [x] => exact .inl ⟨x, rfl, e⟩
  | [x, y] => exact .inr ⟨x, y, rfl, e⟩
  | _ :: _ :: _ :: _ => cases e
theorem seq_ints {x : D} {l : List D} {ns : List Int} {v : V} {K : PySem.W.Frag} (hx : x = .lst l ∨ x = .tup l) (hn : intsD l = some ns) (r : RepU T w H x v) : ∃ a, v = .ref a ∧ (SqL K H a (ns.map V.int) ∨ SqT K H a (ns.map V.int)) := by
  rcases hx with rfl | rfl
  · obtain ⟨a, xs, rfl, h1, h2⟩ := repU_lst r
    have e := h2.ints hn
    subst e
    exact ⟨a, rfl, .inl (SqL.of h1)⟩
  · obtain ⟨a, xs, rfl, h1, h2⟩ := repU_tup r
    have e := h2.ints hn
    subst e
    exact ⟨a, rfl, .inr (SqT.of h1)⟩
theorem call_max (hc : X.calm = true) (hu : X.A.units + 90 < cLine) : CallR X (.builtin "max") (rBlt T .max) := by
  intro pins s σ H xs us Q I rs ⟨w, h, ds, o, d, wf, e, r, q⟩
  rcases bltin_cases e with ⟨x, rfl, e'⟩ | ⟨x, y, rfl, e'⟩
  · obtain ⟨l, i, t, hx, hi, rfl, rfl⟩ := mmop_is e'
    obtain ⟨v, rfl, r1⟩ := repUs1 r
    obtain ⟨a, rfl, hs⟩ := seq_ints (K := X.K) hx hi r1
    rw [L2.Vals.ref1 rs]
    exact call_seqMM (mx := true) hc hu I hs (q.old rfl _ rep_int)
  · obtain ⟨i, j, rfl, rfl, rfl, rfl⟩ := int2_is e'
    obtain ⟨v, u, rfl, r1, r2⟩ := repUs2 r
    have e1 := repU_int r1
    have e2 := repU_int r2
    subst e1 e2
    refine L2.call_max2 hc pins s σ H _ us Q I rs ⟨i, j, rfl, ?_⟩
    have e3 : (if j > i then j else i) = max i j := by rw [Int.max_def]; split <;> split <;> omega
    rw [e3]
    exact q.old rfl _ rep_int
theorem call_min (hc : X.calm = true) (hu : X.A.units + 90 < cLine) : CallR X (.builtin "min") (rBlt T .min) := by
  intro pins s σ H xs us Q I rs ⟨w, h, ds, o, d, wf, e, r, q⟩
  rcases bltin_cases e with ⟨x, rfl, e'⟩ | ⟨x, y, rfl, e'⟩
  · obtain ⟨l, i, t, hx, hi, rfl, rfl⟩ := mmop_is e'
    obtain ⟨v, rfl, r1⟩ := repUs1 r
    obtain ⟨a, rfl, hs⟩ := seq_ints (K := X.K) hx hi r1
    rw [L2.Vals.ref1 rs]
    exact call_seqMM (mx := false) hc hu I hs (q.old rfl _ rep_int)
  · obtain ⟨i, j, rfl, rfl, rfl, rfl⟩ := int2_is e'
    obtain ⟨v, u, rfl, r1, r2⟩ := repUs2 r
    have e1 := repU_int r1
    have e2 := repU_int r2
    subst e1 e2
    refine L2.call_min2 hc pins s σ H _ us Q I rs ⟨i, j, rfl, ?_⟩
    have e3 : (if j < i then j else i) = min i j := by rw [Int.min_def]; split <;> split <;> omega
    rw [e3]
    exact q.old rfl _ rep_int
theorem one_is {b : Blt} {ds : List D} {r : Bool × D} (e : bltin b ds = some r) (h2 : ∀ x y, bltin2 b x y = none) : ∃ x, ds = [x] ∧ bltin1 b x = some r := by
  rcases bltin_cases e with h | ⟨x, y, rfl, e'⟩
  · exact h
  · rw [h2] at e'; cases e'
theorem lstop_is {f : List D → Option (Bool × D)} {x : D} {r : Bool × D} (e : lstop f x = some r) : ∃ l, x = .lst l ∧ f l = some r := by
  cases x <;> simp only [lstop, reduceCtorEq] at e
  exact ⟨_, rfl, e⟩
theorem call_absB : CallR X (.builtin "abs") (rBlt T .abs) := by
  intro pins s σ H xs us Q I rs ⟨w, h, ds, o, d, wf, e, r, q⟩
  obtain ⟨x, rfl, e'⟩ := one_is e fun _ _ => rfl
  obtain ⟨v, rfl, r1⟩ := repUs1 r
  cases x <;> simp only [bltin1, absop, reduceCtorEq] at e'
  cases e'
  have e1 := repU_int r1
  subst e1
  exact L2.call_abs pins s σ H _ us Q I rs ⟨_, rfl, q.old rfl _ rep_int⟩
theorem call_intB : CallR X (.type "int") (rBlt T .int) := by
  intro pins s σ H xs us Q I rs ⟨w, h, ds, o, d, wf, e, r, q⟩
  obtain ⟨x, rfl, e'⟩ := one_is e fun _ _ => rfl
  obtain ⟨v, rfl, r1⟩ := repUs1 r
  cases x <;> simp only [bltin1, intop, reduceCtorEq] at e'
  · cases e'
    have e1 := repU_bl r1
    subst e1
    exact L2.call_int1 pins s σ H _ us Q I rs (.inr ⟨_, rfl, q.old rfl _ rep_int⟩)
  · cases e'
    have e1 := repU_int r1
    subst e1
    exact L2.call_int1 pins s σ H _ us Q I rs (.inl ⟨_, rfl, q.old rfl _ rep_int⟩)
theorem call_allB (hK : T.K = X.K) (hc : X.calm = true) : CallR X (.builtin "all") (rBlt T .all) := by
  intro pins s σ H xs us Q I rs ⟨w, h, ds, o, d, wf, e, r, q⟩
  obtain ⟨x, rfl, e'⟩ := one_is e fun _ _ => rfl
  obtain ⟨v, rfl, r1⟩ := repUs1 r
  obtain ⟨l, rfl, e2⟩ := lstop_is e'
  obtain ⟨bs, hb, e3⟩ := Option.map_eq_some_iff.mp e2
  cases e3
  obtain ⟨a, ys, rfl, h1, h2⟩ := repU_lst r1
  have e1 := h2.bools hb
  subst e1
  exact L2.cr_all hc pins s σ H _ us Q I rs ⟨a, bs, rfl, SqL.of h1, q.old rfl _ rep_bl⟩
theorem call_anyB (hK : T.K = X.K) (hc : X.calm = true) : CallR X (.builtin "any") (rBlt T .any) := by
  intro pins s σ H xs us Q I rs ⟨w, h, ds, o, d, wf, e, r, q⟩
  obtain ⟨x, rfl, e'⟩ := one_is e fun _ _ => rfl
  obtain ⟨v, rfl, r1⟩ := repUs1 r
  obtain ⟨l, rfl, e2⟩ := lstop_is e'
  obtain ⟨bs, hb, e3⟩ := Option.map_eq_some_iff.mp e2
  cases e3
  obtain ⟨a, ys, rfl, h1, h2⟩ := repU_lst r1
  have e1 := h2.bools hb
  subst e1
  exact L2.cr_any hc pins s σ H _ us Q I rs ⟨a, bs, rfl, SqL.of h1, q.old rfl _ rep_bl⟩
theorem call_sumB (hc : X.calm = true) : CallR X (.builtin "sum") (rBlt T .sum) := by
  intro pins s σ H xs us Q I rs ⟨w, h, ds, o, d, wf, e, r, q⟩
  obtain ⟨x, rfl, e'⟩ := one_is e fun _ _ => rfl
  obtain ⟨v, rfl, r1⟩ := repUs1 r
  obtain ⟨l, rfl, e2⟩ := lstop_is e'
  obtain ⟨bs, hb, e3⟩ := Option.map_eq_some_iff.mp e2
  cases e3
  obtain ⟨a, ys, rfl, h1, h2⟩ := repU_lst r1
  have e1 := h2.ints hb
  subst e1
  exact L2.cr_sum hc pins s σ H _ us Q I rs ⟨a, bs, rfl, SqL.of h1, q.old rfl _ rep_int⟩
theorem zip_len {κ : Type} {l : List κ} {vs : List V} (h : l.length = vs.length) : (l.zip vs).length = l.length := by rw [List.length_zip]; omega
theorem call_lenB : CallR X (.builtin "len") (rBlt T .len) := by
  intro pins s σ H xs us Q I rs ⟨w, h, ds, o, d, wf, e, r, q⟩
  obtain ⟨x, rfl, e'⟩ := one_is e fun _ _ => rfl
  obtain ⟨v, rfl, r1⟩ := repUs1 r
  obtain ⟨n, hn, e3⟩ := Option.map_eq_some_iff.mp e'
  cases e3
  cases x <;> simp only [lenop, reduceCtorEq, Option.some.injEq] at hn
  · obtain ⟨a, ys, rfl, h1, h2⟩ := repU_tup r1
    rw [h2.length] at hn
    subst hn
    exact L2.call_len_seq pins s σ H _ us Q I rs ⟨a, ys, rfl, .inr (SqT.of h1), q.old rfl _ rep_int⟩
  · obtain ⟨a, ys, rfl, h1, h2⟩ := repU_lst r1
    rw [h2.length] at hn
    subst hn
    exact L2.call_len_seq pins s σ H _ us Q I rs ⟨a, ys, rfl, .inl (SqL.of h1), q.old rfl _ rep_int⟩
  · obtain ⟨a, vs, rfl, ⟨hl, h1⟩, h2⟩ := repU_dic r1
    rename_i l
    rcases h1 with ⟨k, e1, e2⟩ | ⟨k, e1, e2⟩
    · have e3 := congrArg List.length e1
      rw [List.length_map, List.length_map] at e3
      rw [List.length_map] at hl
      refine L2.call_lenD pins s σ H _ us Q I rs ⟨a, _, rfl, e2, ?_⟩
      rw [zip_len (by omega), ← e3, hn]
      exact q.old rfl _ rep_int
    · have e3 := congrArg List.length e1
      rw [List.length_map, List.length_map] at e3
      rw [List.length_map] at hl
      refine L2.call_len_dT pins s σ H _ us Q I rs ⟨a, _, rfl, e2, ?_⟩
      rw [zip_len (by omega), ← e3, hn]
      exact q.old rfl _ rep_int
theorem call_listB : CallR X (.type "list") (rBlt T .list) := by
  intro pins s σ H xs us Q I rs ⟨w, h, ds, o, d, wf, e, r, q⟩
  obtain ⟨x, rfl, e'⟩ := one_is e fun _ _ => rfl
  obtain ⟨v, rfl, r1⟩ := repUs1 r
  obtain ⟨l, hl, e3⟩ := Option.map_eq_some_iff.mp e'
  cases e3
  rcases seqOf_is hl with rfl | rfl
  · obtain ⟨a, ys, rfl, h1, h2⟩ := repU_lst r1
    exact L2.call_list_of pins s σ H _ us Q I rs ⟨a, ys, rfl, .inl (SqL.of h1), fun p hp => q.lst l p ys rfl rfl hp h2⟩
  · obtain ⟨a, ys, rfl, h1, h2⟩ := repU_tup r1
    exact L2.call_list_of pins s σ H _ us Q I rs ⟨a, ys, rfl, .inr (SqT.of h1), fun p hp => q.lst l p ys rfl rfl hp h2⟩
theorem call_tupleB : CallR X (.type "tuple") (rBlt T .tuple) := by
  intro pins s σ H xs us Q I rs ⟨w, h, ds, o, d, wf, e, r, q⟩
  obtain ⟨x, rfl, e'⟩ := one_is e fun _ _ => rfl
  obtain ⟨v, rfl, r1⟩ := repUs1 r
  obtain ⟨l, hl, e3⟩ := Option.map_eq_some_iff.mp e'
  cases e3
  rcases seqOf_is hl with rfl | rfl
  · obtain ⟨a, ys, rfl, h1, h2⟩ := repU_lst r1
    exact L2.call_tuple_of pins s σ H _ us Q I rs ⟨a, ys, rfl, .inl ⟨SqL.of h1, fun p hp => q.tup l p ys rfl rfl hp h2⟩⟩
  · have r2 := repU_tupF r1
    obtain ⟨a, ys, rfl, h1, h2⟩ := repU_tup r1
    exact L2.call_tuple_of pins s σ H _ us Q I rs ⟨a, ys, rfl, .inr ⟨SqT.of h1, q.old rfl _ r2⟩⟩
theorem leI_decide : ∀ x y : List Int, leI x y = decide (x ≤ y)
  | [], y => by simp [leI]
  | x :: xs, [] => by simp [leI]
  | x :: xs, y :: ys => by
    rw [leI]
    by_cases h : x = y
    · subst h
      rw [if_pos rfl, leI_decide xs ys]
      simp [List.cons_le_cons_iff]
    · rw [if_neg h]
      simp only [List.cons_le_cons_iff, h, false_and, or_false]
theorem dataLe_tups : PySem.W.dataLe false (fun b : List Int => .tuple (b.map .int)) = leI := by
  funext p q
  show (!PySem.W.dataLt (.tuple (q.map .int)) (.tuple (p.map .int))) = _
  rw [PySem.W.dataLt_tuple]
  show (!PySem.W.rowLt (q.map .int) (p.map .int)) = _
  rw [PySem.W.dataLt_ints, leI_decide]
  by_cases h : q < p
  · have h' : ¬ p ≤ q := fun r => List.not_lt.mpr r h
    simp [h, h']
  · have h' : p ≤ q := List.not_lt.mp h
    simp [h, h']
end
end BV

/-! sorted, isinstance, fields. -/
namespace BV
open PySem (Str Addr Expr PyData Operator CmpOp cLine Value Shared Around Program World wpAny model Reads ReadsAll)
open L2 (V HO Hp upd upd_same upd_ne SqL SqT Cx PE TE VK OpR Dp DpAll Inv Vals RelV PT PW TT PA TA CallR EP)
open PySem.W (EachIs)

section
variable {T : Tx} {w : W} {H : Hp} {X : Cx}
theorem tups_map : ∀ {l : List D} {b : List (List Int)}, tups l = some b → l = b.map tupI
  | [], b, h => by
    simp only [tups, Option.some.injEq] at h
    subst h
    rfl
  | .tup k :: r, b, h => by
    simp only [tups] at h
    split at h
    · rename_i a b' h1 h2
      cases h
      rw [List.map_cons, ← tups_map h2]
      have e : k = a.map .int := by
        clear h2
        induction k generalizing a with
        | nil =>
          simp only [intsD, Option.some.injEq] at h1
          subst h1
          rfl
        | cons x k ih =>
          cases x <;> simp only [intsD, reduceCtorEq] at h1
          obtain ⟨a', h2, h3⟩ := Option.map_eq_some_iff.mp h1
          subst h3
          rw [List.map_cons, ← ih _ h2]
      rw [tupI, ← e]
    · cases h
  | .non :: _, _, h => by cases h
  | .bl _ :: _, _, h => by cases h
  | .int _ :: _, _, h => by cases h
  | .str _ :: _, _, h => by cases h
  | .lst _ :: _, _, h => by cases h
  | .dic _ :: _, _, h => by cases h
  | .web _ _ :: _, _, h => by cases h
  | .scr _ :: _, _, h => by cases h
  | .hand :: _, _, h => by cases h
def RTup (T : Tx) (w : W) (H : Hp) (v : Value) (b : List Int) : Prop := ∃ x : V, RelV x v ∧ Rep T w H (tupI b) x
theorem each_tups : ∀ {bs : List (List Int)} {xs : List V} {us : List Value}, Reps T w H (bs.map tupI) xs → Vals xs us → EachIs (RTup T w H) us bs
  | [], xs, us, h, r => by
    simp only [List.map_nil, Reps] at h
    subst h
    cases r
    exact .nil
  | b :: bs, xs, us, h, r => by
    simp only [List.map_cons, Reps] at h
    obtain ⟨x, xs', e, h1, h2⟩ := h
    subst e
    cases r with
    | cons r1 r2 => exact .cons ⟨x, r1, h1⟩ (each_tups h2 r2)
theorem tups_each : ∀ {bs : List (List Int)} {us : List Value}, EachIs (RTup T w H) us bs → ∃ xs, Reps T w H (bs.map tupI) xs ∧ Vals xs us
  | _, _, .nil => ⟨[], by simp [Reps], .nil⟩
  | _, _, .cons ⟨x, r1, h1⟩ t => by
    obtain ⟨xs, h2, r2⟩ := tups_each t
    exact ⟨x :: xs, by simp only [List.map_cons, Reps]; exact ⟨x, xs, rfl, h1, h2⟩, .cons r1 r2⟩
theorem rtup_reads {pins : List (Addr × PySem.Obj)} {s : Shared} {σ : L2.St} (I : Inv X pins σ H s) {v : Value} {b : List Int} (h : RTup T w H v b) : ∃ as, Reads s.heap v (.tuple (b.map .int)) as := by
  obtain ⟨x, rx, h⟩ := h
  simp only [tupI, Rep] at h
  obtain ⟨a, xs, rfl, _, ha, hr⟩ := h
  have e := hr.ints (ns := b) (by
    clear rx hr ha
    induction b with
    | nil => rfl
    | cons i b ih => simp only [List.map_cons, intsD, ih, Option.map_some])
  subst e
  cases rx
  obtain ⟨its, rv, ⟨o, ho, hc, n, hd⟩, _⟩ := I.tuple (SqT.of ha)
  exact ⟨_, .tuple ho hc hd (reads_ints rv)⟩
theorem sortI_eq {ns ns' : List Int} (p : ns'.Perm ns) (s : ns'.Pairwise (· ≤ ·)) : ns' = sortI ns := by
  refine List.Perm.eq_of_pairwise (le := (· ≤ ·)) (fun a b _ _ h1 h2 => by omega) s ?_ (p.trans (List.mergeSort_perm ns _).symm)
  refine (List.pairwise_mergeSort (fun a b c h1 h2 => ?_) (fun a b => ?_) ns).imp fun {a b} h => of_decide_eq_true h
  · have h1 := of_decide_eq_true h1
    have h2 := of_decide_eq_true h2
    exact decide_eq_true (by omega)
  · by_cases h : a ≤ b
    · simp [h]
    · have : b ≤ a := by omega
      simp [this]
theorem call_sortedB (hu : X.A.units + 90 < cLine) : CallR X (.builtin "sorted") (rBlt T .sorted) := by
  intro pins s σ H xs us Q I rs ⟨w, h, ds, o, d, wf, e, r, q⟩
  obtain ⟨x, rfl, e'⟩ := one_is e fun _ _ => rfl
  obtain ⟨v, rfl, r1⟩ := repUs1 r
  obtain ⟨l, rfl, e2⟩ := lstop_is e'
  obtain ⟨out, ho, e3⟩ := Option.map_eq_some_iff.mp e2
  cases e3
  obtain ⟨a, ys, rfl, h1, h2⟩ := repU_lst r1
  unfold dsort at ho
  split at ho
  · rename_i ns hn
    cases ho
    have e1 := h2.ints hn
    subst e1
    refine L2.cr_sortedI pins s σ H _ us Q I rs ⟨a, ns, rfl, SqL.of h1, fun ns' p hp hs hn => ?_⟩
    rw [sortI_eq hp hs]
    exact q.lst _ p _ rfl rfl hn (Reps.of_ints _)
  · split at ho
    · rename_i b hb
      split at ho
      · rename_i hne
        cases ho
        have e1 := tups_map hb
        subst e1
        obtain ⟨its, rv, hl, hz⟩ := I.list (SqL.of (K := X.K) h1)
        rw [L2.Vals.ref1 rs]
        have ea : EachIs (RTup T w H) its b := each_tups h2 rv
        refine PySem.W.sorted_data (enc := fun b : List Int => .tuple (b.map .int)) hl.isList ea (ea.mono fun v b hv => rtup_reads I hv) ?_ ?_ (by rw [← ea.length, ← rv.length]; exact hz) (fun b hb => ?_) fun outs hlen he => ?_
        · exact PySem.W.AllAlike.of fun b b' => PySem.W.alike_ints b b'
        · refine .inl fun d hd => ?_
          obtain ⟨c, hc, rfl⟩ := List.mem_map.mp hd
          have hc' := List.all_eq_true.mp hne c hc
          cases c with
          | nil => cases hc'
          | cons i c => exact ⟨_, _, rfl⟩
        · have : PyData.depth (.tuple (b.map .int)) ≤ 1 := by
            simp only [PyData.depth, depth_ints0]
            omega
          omega
        · rw [dataLe_tups] at he
          obtain ⟨zs, h3, rz⟩ := tups_each he
          obtain ⟨ep, he'⟩ := PyProof.Rows.sortedAll_at s.heap its outs.toArray
          have hlen2 : zs.length ≤ PySem.sizeLine := by rw [rz.length, hlen, ← ea.length, ← rv.length]; exact hz
          exact ⟨.ref _, upd H (s.heap.objs.size + 1) (.lst zs), I.laid (t' := s.toks) (fun _ _ => PyProof.Rows.sortedAll_old) (Nat.le_succ _) ⟨hlen2, outs, ep, rz, he'⟩, rfl, q.lst _ _ zs rfl rfl (I.hok.fresh (Nat.le_succ _)) h3⟩
      · cases ho
    · cases ho
end
end BV

/-! isinstance, fields, calls of built-ins. -/
namespace BV
open PySem (Str Addr Expr PyData Operator CmpOp cLine Value Shared Around Program World wpAny model Reads ReadsAll bootBuiltins)
open L2 (V HO Hp upd upd_same upd_ne SqL SqT Cx PE TE VK OpR Dp DpAll Inv Vals RelV PT PW TT PA TA CallR EP Gl)
open PySem.W (EachIs)

def cvV (C : Addr) : Ty → V
  | .int => .ty "int"
  | .bool => .ty "bool"
  | .tuple => .ty "tuple"
  | .list => .ty "list"
  | .dict => .ty "dict"
  | .str => .ty "str"
  | .web => .ref C
def cvU (C : Addr) : Ty → Value
  | .int => .type "int"
  | .bool => .type "bool"
  | .tuple => .type "tuple"
  | .list => .type "list"
  | .dict => .type "dict"
  | .str => .type "str"
  | .web => .ref C
def tysB : List String := ["int", "bool", "tuple", "list", "dict", "str"]
def tysA : List String := ["NoneType", "int", "bool", "tuple", "list", "dict", "str"]
/-- what is asked of the class Web in the written part -/
def webB (K : PySem.W.Frag) (C : Addr) : Bool :=
  decide (PySem.W.findIn K (.ref C) "__class__" = some (some (.builtin "object.__class__"))) &&
  decide (PySem.W.specialIn K (.builtin "object.__class__") "__get__" = some (some (.builtin "getset_descriptor.__get__"))) &&
  decide (PySem.W.takesIn K (.builtin "object.__class__") = some true) && decide (PySem.W.mroIn K C (.type "object") = some true) &&
  (tysB.all fun t => decide (PySem.W.kitOne K (.ref C) (.type t) = some false)) && (tysA.all fun t => decide (PySem.W.kitOne K (.type t) (.ref C) = some false))
structure WebK (K : PySem.W.Frag) (C : Addr) : Prop where
  cls : L2.Cls K C
  corners : L2.NoAttr K C "corners"
  lines : L2.NoAttr K C "lines"
  looked : L2.NoAttr K C "looked"
  ok : webB K C = true
section
variable {T : Tx} {w : W} {H : Hp} {X : Cx}
theorem WebK.isT {K : PySem.W.Frag} {C : Addr} (h : WebK K C) {t : String} (m : t ∈ tysB) : PySem.W.kitOne K (.ref C) (.type t) = some false := by
  have q := h.ok
  unfold webB at q
  simp only [Bool.and_eq_true, decide_eq_true_eq] at q
  exact of_decide_eq_true (List.all_eq_true.mp q.1.2 t m)
theorem WebK.isC {K : PySem.W.Frag} {C : Addr} (h : WebK K C) {t : String} (m : t ∈ tysA) : PySem.W.kitOne K (.type t) (.ref C) = some false := by
  have q := h.ok
  unfold webB at q
  simp only [Bool.and_eq_true, decide_eq_true_eq] at q
  exact of_decide_eq_true (List.all_eq_true.mp q.2 t m)
theorem WebK.ins {K : PySem.W.Frag} {C : Addr} (h : WebK K C) {a dx : Addr} {fs : List (Str × V)} (e : H a = some (.ins C dx fs)) : L2.TyOf K H (.ref a) (.ref C) := by
  have q := h.ok
  unfold webB at q
  simp only [Bool.and_eq_true, decide_eq_true_eq] at q
  exact .ins e h.cls q.1.1.1.1.1 q.1.1.1.1.2 q.1.1.1.2 q.1.1.2
theorem kitS {a b : String} {r : Bool} (h : L2.kitB a b = some r) {K : PySem.W.Frag} : PySem.W.kitOne K (.type a) (.type b) = some r := L2.kit_ty h
theorem isi_ty (hK : T.K = X.K) (wk : WebK X.K T.C) {ty : Ty} {d : D} {b : Bool} {x : V} (e : isInst ty d = some b) (r : RepU T w H d x) : ∃ t, L2.TyX X.K H x t ∧ PySem.W.kitOne X.K t (cvU T.C ty) = some b := by
  cases d with
  | non =>
    rw [repU_non r]
    refine ⟨_, .base .non, ?_⟩
    cases ty <;> simp only [isInst, Option.some.injEq] at e <;> subst e
    all_goals first | exact wk.isC (by decide) | exact kitS (by decide +kernel)
  | bl k =>
    rw [repU_bl r]
    refine ⟨_, .base (.bl k), ?_⟩
    cases ty <;> simp only [isInst, Option.some.injEq] at e <;> subst e
    all_goals first | exact wk.isC (by decide) | exact kitS (by decide +kernel)
  | int k =>
    rw [repU_int r]
    refine ⟨_, .base (.int k), ?_⟩
    cases ty <;> simp only [isInst, Option.some.injEq] at e <;> subst e
    all_goals first | exact wk.isC (by decide) | exact kitS (by decide +kernel)
  | str k =>
    rw [repU_str r]
    refine ⟨_, .base (.str k), ?_⟩
    cases ty <;> simp only [isInst, Option.some.injEq] at e <;> subst e
    all_goals first | exact wk.isC (by decide) | exact kitS (by decide +kernel)
  | tup l =>
    obtain ⟨a, xs, rfl, h1, h2⟩ := repU_tup r
    refine ⟨_, .base (.tup h1), ?_⟩
    cases ty <;> simp only [isInst, Option.some.injEq] at e <;> subst e
    all_goals first | exact wk.isC (by decide) | exact kitS (by decide +kernel)
  | lst l =>
    obtain ⟨a, xs, rfl, h1, h2⟩ := repU_lst r
    refine ⟨_, .base (.lst h1), ?_⟩
    cases ty <;> simp only [isInst, Option.some.injEq] at e <;> subst e
    all_goals first | exact wk.isC (by decide) | exact kitS (by decide +kernel)
  | dic l =>
    obtain ⟨a, vs, rfl, ⟨_, h1⟩, h2⟩ := repU_dic r
    have hty : L2.TyX X.K H (.ref a) (.type "dict") := by
      rcases h1 with ⟨_, _, h1⟩ | ⟨_, _, h1⟩
      · exact .base (.dK h1)
      · exact .base (.dT h1)
    refine ⟨_, hty, ?_⟩
    cases ty <;> simp only [isInst, Option.some.injEq] at e <;> subst e
    all_goals first | exact wk.isC (by decide) | exact kitS (by decide +kernel)
  | web n ls =>
    have z := repU_web r
    simp only [Rep] at z
    obtain ⟨_, a, dx, l, k, xs, rfl, _, h1, _⟩ := z
    refine ⟨_, .base (wk.ins h1), ?_⟩
    cases ty <;> simp only [isInst, Option.some.injEq] at e <;> subst e
    all_goals first | exact wk.isT (by decide) | (unfold PySem.W.kitOne cvU; simp)
  | scr ns => cases ty <;> cases e
  | hand => cases ty <;> cases e
def rIsi1 (C : Addr) (K : PySem.W.Frag) (ty : Ty) : V → Hp → VK → Prop := fun x H Q => L2.rIsi K [x, cvV C ty] H Q
theorem isi_serves (hK : T.K = X.K) (wk : WebK X.K T.C) (ty : Ty) : Serves1 T (rIsi1 T.C X.K ty) (plainB (isInsts [ty])) := by
  intro w H h da x o d Q wf e r q
  obtain ⟨b, hb, e2⟩ := Option.map_eq_some_iff.mp e
  cases e2
  simp only [isInsts] at hb
  split at hb
  · rename_i a b' e1 e3
    cases hb
    cases e3
    obtain ⟨t, h1, h2⟩ := isi_ty hK wk e1 r
    have hcv : L2.ClsV (cvV T.C ty) (cvU T.C ty) := by
      cases ty
      all_goals first | exact .ty _ | exact .own _
    refine ⟨x, _, t, _, a, rfl, hcv, h1, h2, ?_⟩
    have := q.old rfl _ rep_bl
    rw [Bool.or_false] at this
    exact this
  · cases hb
end
section
variable {X : Cx} {T : Tx} {e e1 e2 : Expr} {es : List Expr} {x : Str} {p pos : PySem.Pos} {oa : OpT} {os : OsT}
theorem pe_isiE (hK : T.K = X.K) (wk : WebK X.K T.C) {ty : Ty} (hg : Gl X "isinstance") (hm : X.mg "isinstance" = none) (h1 : notStar e1 = true) (ha : PE X e1 (tO T oa)) (ht : PE X e2 (L2.tC (cvV T.C ty))) (h2 : notStar e2 = true) :
    PE X (.Call (.Name "isinstance" p) [e1, e2] [] pos) (tE T (sOp1 (plainB (isInsts [ty])) oa)) :=
  PE.imp (L2.pe_callB (L2.call_isi (X := X)) hg hm (by kernel_rfl) (L2.pa_cons ha (L2.pa_cons ht L2.pa_nil (star_no h2)) (star_no h1)) (he := star_no h1) (hpl := by rw [star_no h2]; rfl)) fun σ H Q h => one_op (isi_serves hK wk ty) h
/-- no star -/
theorem plain_any : ∀ {es : List Expr}, (∀ e ∈ es, notStar e = true) → (PySem.backTo pos (PySem.starEach es X.env)).any (·.1) = false
  | [], _ => rfl
  | e :: es, h => by
    rw [star_no (h e List.mem_cons_self)]
    show (false || (PySem.backTo pos (PySem.starEach es X.env)).any (·.1)) = false
    rw [plain_any fun e he => h e (List.mem_cons_of_mem _ he)]
    rfl
theorem plain_all : ∀ {es : List Expr}, (∀ e ∈ es, notStar e = true) → (PySem.backTo pos (PySem.starEach es X.env)).all (fun x => !x.1) = true
  | [], _ => rfl
  | e :: es, h => by
    rw [star_no (h e List.mem_cons_self)]
    show (!false && (PySem.backTo pos (PySem.starEach es X.env)).all (fun x => !x.1)) = true
    rw [plain_all fun e he => h e (List.mem_cons_of_mem _ he)]
    rfl
theorem pe_bltB {b : Blt} {id : String} (hf : fBlt b = .builtin id) (hc : CallR X (.builtin id) (rBlt T b)) (hg : Gl X x) (hm : X.mg x = none) (hv : bootBuiltins x = some (.builtin id)) (hn : x ≠ "__name__") (hdb : (x == ("__debug__" : Str)) = false) (hs : ∀ u ∈ e :: es, notStar u = true)
    (ha : PA X (e :: es) (tOs T os)) : PE X (.Call (.Name x p) (e :: es) [] pos) (tE T (sBlt b os)) :=
  PE.imp (L2.pe_callB hc hg hm hv ha hn hdb (star_no (hs e List.mem_cons_self)) (plain_any fun u hu => hs u (List.mem_cons_of_mem _ hu))) fun σ H Q h => n_ops (blt_serves T b) h
theorem pe_bltT {b : Blt} {id : String} (hf : fBlt b = .type id) (hc : CallR X (.type id) (rBlt T b)) (hg : Gl X x) (hm : X.mg x = none) (hv : bootBuiltins x = some (.type id)) (hn : x ≠ "__name__") (hdb : (x == ("__debug__" : Str)) = false) (hs : ∀ u ∈ e :: es, notStar u = true)
    (ha : PA X (e :: es) (tOs T os)) : PE X (.Call (.Name x p) (e :: es) [] pos) (tE T (sBlt b os)) :=
  PE.imp (L2.pe_callTy hc hg hm hv ha hn hdb (star_no (hs e List.mem_cons_self)) (plain_any fun u hu => hs u (List.mem_cons_of_mem _ hu))) fun σ H Q h => n_ops (blt_serves T b) h
/-! ### fields -/
theorem pairs_reps {T : Tx} {w : W} {H : Hp} : ∀ {ls : List (Nat × Nat)} {xs : List V}, RepPairs w H ls xs → Reps T w H (ls.map pairD) xs
  | [], [], _ => by simp [Reps]
  | [], _ :: _, h => h.elim
  | _ :: _, [], h => h.elim
  | c :: ls, v :: vs, h => by
    obtain ⟨⟨b, e1, hb, h2⟩, h3⟩ := h
    simp only [List.map_cons, Reps]
    refine ⟨v, vs, rfl, ?_, pairs_reps h3⟩
    simp only [pairD, Rep]
    exact ⟨b, _, e1, hb, h2, by simp [Reps, Rep]⟩
def fldName : Fld → Str
  | .corners => "corners"
  | .lines => "lines"
theorem field_step {f : Fld} (wk : WebK X.K T.C) {σ : L2.St} {H : Hp} {Q : VK} (h : tE T (sOp1 (plain1 fun d => fldop d f) oa) σ H Q) : L2.tFld X.K (tO T oa) (fldName f) σ H Q := by
  obtain ⟨w, z, z', o, d, s, e, q⟩ := h
  unfold sOp1 at e
  split at e
  case h_2 => cases e
  case h_1 z1 oa' ea =>
    refine ⟨w, z, z1, oa', s, ea, fun x w1 H1 s1 x1 r1 => ?_⟩
    split at e
    · rename_i da ga
      obtain ⟨⟨o', d'⟩, ef, e2⟩ := Option.map_eq_some_iff.mp e
      cases e2
      obtain ⟨d2, ef2, e3⟩ := Option.map_eq_some_iff.mp ef
      cases e3
      cases da <;> simp only [fldop, reduceCtorEq] at ef2
      rename_i n ls
      have r := repU_web (r1.use s1 ga)
      simp only [Rep] at r
      obtain ⟨_, a, dx, l, k, xs, rfl, hf, h1, hl, h2, hp, hk⟩ := r
      cases f with
      | corners =>
        simp only [fldop, Option.some.injEq] at ef2
        subst ef2
        exact ⟨a, T.C, dx, _, .int n, rfl, h1, wk.cls, wk.corners, rfl, q _ w1 H1 s1 x1 repR_int⟩
      | lines =>
        simp only [fldop, Option.some.injEq] at ef2
        subst ef2
        refine ⟨a, T.C, dx, _, .ref l, rfl, h1, wk.cls, wk.lines, rfl, q _ w1 H1 s1 x1 ?_⟩
        show Rep T w1 H1 _ _
        simp only [Rep]
        exact ⟨l, xs, rfl, hl, h2, pairs_reps hp⟩
    · cases e
theorem base_of {f : Str} (h : notCall0 e = true) : PySem.attributeBase e f X.env (PySem.eval e X.env) = PySem.eval e X.env := by
  unfold PySem.attributeBase
  split
  · cases h
  · rfl
theorem pe_fldE (wk : WebK X.K T.C) {f : Fld} (h0 : notCall0 e = true) (ha : PE X e (tO T oa)) : PE X (.Attribute e (fldName f) pos) (tE T (sOp1 (plain1 fun d => fldop d f) oa)) :=
  PE.imp (L2.pe_fld ha (base_of h0)) fun σ H Q h => field_step wk h
end
end BV

/-! Methods that change a list that a slot owns. -/
namespace BV
open PySem (Str Addr Expr PyData Operator CmpOp cLine Value Shared Around Program World wpAny model Reads ReadsAll bootBuiltins)
open L2 (V HO Hp upd upd_same upd_ne SqL SqT Cx PE TE VK OpR Dp DpAll Inv Vals RelV PT PW TT PA TA CallR EP Gl MtR)
open PySem.W (EachIs)

section
variable {T : Tx} {w : W} {H : Hp} {σ : L2.St} {z : Z} {i : Nat} {d : D}
theorem gr_mut (f : Wf T w H h) {a : Addr} {u : HO} (ho : w.own a = some i) : Gr w H w (upd H a u) :=
  ⟨fun b hb => ⟨hb, upd_ne fun e => by
    have := (f.exF b hb).2.2.1
    rw [e, ho] at this
    cases this⟩, fun _ _ x => x, fun _ x => x⟩
theorem ext_mut {a : Addr} {u : HO} (ho : w.own a = some i) (hk : ¬ w.lk a) (hn : H a ≠ none) : Ext w H w (upd H a u) :=
  ⟨fun _ x => x, fun _ x => .inl x, fun _ _ x => x, fun _ x => .inl x, fun _ x => x, fun _ x => .inl x, fun _ j x => .inl x, rfl, rfl, fun b o e _ _ h => by
    rw [upd_ne fun q => by
      subst q
      rcases h with h | h
      · rw [ho] at h; cases h
      · exact hk h]
    exact e, fun b e => by
    by_cases q : b = a
    · subst q; rw [upd_same]; simp
    · rw [upd_ne q]; exact e⟩
theorem SR.mut (s : SR T w σ H z) (e : z.at i = some (.own, d)) : ∃ a, σ[i]? = some (some (.ref a)) ∧ w.own a = some i ∧ Top T w H d a ∧ H a ≠ none ∧ (i ∉ z.lk → ¬ w.lk a) ∧
    ∀ (u : HO) (d' : D), Top T w (upd H a u) d' a → SR T w σ (upd H a u) (z.put i .own d') := by
  obtain ⟨a, h1, h2, t⟩ := s.own i d e
  have hn := (s.wf.exO a i h2).1
  have hi := at_lt e
  refine ⟨a, h1, h2, t, hn, fun hi hl => hi (s.lk a i h2 hl), fun u d' t' => ?_⟩
  have g := gr_mut (u := u) s.wf h2
  have xd : ∀ b, H b ≠ none → upd H a u b ≠ none := fun b e => by
    by_cases q : b = a
    · subst q; rw [upd_same]; simp
    · rw [upd_ne q]; exact e
  refine ⟨⟨fun b hb => ?_, s.wf.exL, fun b j hb => ⟨xd b (s.wf.exO b j hb).1, (s.wf.exO b j hb).2⟩, fun k ls q => ?_, s.wf.hand.mono g fun b q => upd_ne fun q2 => ?_, fun b hb => xd b (s.wf.lkd b hb), fun b hb => let ⟨b1, b2, b3, b4⟩ := s.wf.bor b hb; ⟨b1, b2, b3, xd b b4⟩⟩, by simpa [Z.put] using s.len, fun j d2 q => ?_, fun j d2 q => ?_, fun j d2 q => ?_, s.lk⟩
  · obtain ⟨q1, q2⟩ := s.wf.exF b hb
    exact ⟨xd b q1, q2⟩
  · have nk : k ≠ a := fun q2 => by
      have := (s.wf.exL k (by rw [q]; simp)).1
      rw [q2, h2] at this
      cases this
    rcases s.wf.cache k ls q with c | ⟨e2, c1, c2, c3⟩
    · exact .inl ((upd_ne nk).trans c)
    · exact .inr ⟨e2, (upd_ne nk).trans c1, c2, (g.F e2 c2).2.trans c3⟩
  · rw [q2] at q
    exact (s.wf.exO a i h2).2 q
  · rw [at_put hi] at q
    by_cases hj : j = i
    · rw [if_pos hj] at q
      cases q
    · rw [if_neg hj] at q
      obtain ⟨v, e1, r⟩ := s.frz j d2 q
      exact ⟨v, e1, r.mono g⟩
  · rw [at_put hi] at q
    by_cases hj : j = i
    · rw [if_pos hj] at q
      subst hj
      cases q
      exact ⟨a, h1, h2, t'⟩
    · rw [if_neg hj] at q
      obtain ⟨b, e1, e2, r⟩ := s.own j d2 q
      refine ⟨b, e1, e2, r.mono g (upd_ne fun q2 => ?_)⟩
      rw [q2, h2] at e2
      cases e2
      exact hj rfl
  · rw [at_put hi] at q
    by_cases hj : j = i
    · rw [if_pos hj] at q
      cases q
    · rw [if_neg hj] at q
      obtain ⟨b, e1, e2, r⟩ := s.bor j d2 q
      refine ⟨b, e1, e2, r.mono g (upd_ne fun q2 => ?_)⟩
      have e4 := (s.wf.bor b e2).2.2.1
      rw [q2, h2] at e4
      cases e4
end
/-- the rule of a method with an argument -/
def rMt1 : Mt → V → List V → Hp → VK → Prop
  | .append => L2.rAppend
  | .extend => L2.rExtend
  | .pop => L2.rPopAt
  | .remove => L2.rRemI
def mtId : Mt → String
  | .append => "list.append"
  | .extend => "list.extend"
  | .pop => "list.pop"
  | .remove => "list.remove"
def mtName : Mt → Str
  | .append => "append"
  | .extend => "extend"
  | .pop => "pop"
  | .remove => "remove"
section
variable {T : Tx} {X : Cx}
theorem mt1_ok : ∀ m : Mt, MtR X (mtId m) (rMt1 m)
  | .append => L2.mt_append
  | .extend => L2.mt_extend
  | .pop => L2.mt_popAt
  | .remove => L2.mt_remove
theorem repR_non {w : W} {H H0 : Hp} : RepR T w H H0 false .non .non := show Rep T w H .non .non by simp [Rep]
theorem reps1 {w : W} {H : Hp} {d : D} {xs : List V} (h : Reps T w H [d] xs) : ∃ v, xs = [v] ∧ Rep T w H d v := by
  simp only [Reps] at h
  obtain ⟨v, vs, e, h1, h2⟩ := h
  subst h2
  exact ⟨v, e, h1⟩
theorem serve_mt1 {m : Mt} {w : W} {σ : L2.St} {H H0 : Hp} {z : Z} {i : Nat} {l : List D} {d d' r : D} {v : V} {Q : VK} (s : SR T w σ H z) (e : z.at i = some (.own, .lst l)) (nl : i ∉ z.lk) (em : mtop1 m l d = some (d', r)) (rv : Rep T w H d v)
    {a : Addr} (ha : σ[i]? = some (some (.ref a))) (q : ∀ v w' H', SR T w' σ H' (z.put i .own d') → Ext w H w' H' → RepR T w' H' H0 false r v → Q v H') : rMt1 m (.ref a) [v] H Q := by
  obtain ⟨a', h1, h2, ⟨xs, h3, h4⟩, h5, h7, h6⟩ := s.mut e
  have h7 := h7 nl
  rw [ha] at h1
  cases h1
  have g : ∀ u, Gr w H w (upd H a u) := fun u => gr_mut s.wf h2
  cases m with
  | append =>
    simp only [mtop1, Option.ite_none_right_eq_some, Option.some.injEq, Prod.mk.injEq] at em
    obtain ⟨hl, rfl, rfl⟩ := em
    refine ⟨a, xs, v, rfl, rfl, h3, by rw [← h4.length, ← lim_line]; exact hl, ?_⟩
    refine q .non w _ (h6 _ _ ⟨_, upd_same, (h4.mono (g _)).append ?_⟩) (ext_mut h2 h7 h5) repR_non
    simp only [Reps]
    exact ⟨v, [], rfl, rv.mono (g _), rfl⟩
  | extend =>
    cases d <;> simp only [mtop1, extop, reduceCtorEq, Option.ite_none_right_eq_some, Option.some.injEq, Prod.mk.injEq] at em
    rename_i k
    obtain ⟨hl, rfl, rfl⟩ := em
    simp only [Rep] at rv
    obtain ⟨b, ys, rfl, hf, hb, hr⟩ := rv
    refine ⟨a, b, xs, ys, rfl, rfl, h3, hb, by rw [← h4.length, ← hr.length, ← lim_line]; exact hl, ?_⟩
    exact q .non w _ (h6 _ _ ⟨_, upd_same, (h4.mono (g _)).append (hr.mono (g _))⟩) (ext_mut h2 h7 h5) repR_non
  | pop =>
    cases d <;> simp only [mtop1, popAt, reduceCtorEq, Option.ite_none_right_eq_some] at em
    rename_i k
    obtain ⟨hl, em⟩ := em
    split at em
    · rename_i j hj
      obtain ⟨d2, hd, e2⟩ := Option.map_eq_some_iff.mp em
      cases e2
      simp only [Rep] at rv
      subst rv
      rw [ixN_eq, h4.length] at hj
      obtain ⟨k1, k2, k3, k4⟩ := L2.ixN_seq hj
      obtain ⟨y, hy, ry⟩ := h4.get hd
      have hlx : xs.length ≤ 16777216 := by rw [← h4.length]; exact hl
      refine ⟨a, xs, k, j, y, rfl, rfl, h3, by omega, by omega, k1, hy, ?_⟩
      exact q y w _ (h6 _ _ ⟨_, upd_same, (h4.mono (g _)).eraseIdx j⟩) (ext_mut h2 h7 h5) (show Rep T w _ _ _ from ry.mono (g _))
    · cases em
  | remove =>
    cases d <;> simp only [mtop1, remop, reduceCtorEq] at em
    rename_i k
    split at em
    · rename_i ns hn
      split at em
      · rename_i hk
        cases em
        simp only [Rep] at rv
        subst rv
        have e1 := h4.ints hn
        subst e1
        obtain ⟨j, j1, j2, j3, j4⟩ := L2.first_at hk
        refine ⟨a, ns, k, j, rfl, rfl, h3, j2, j3, ?_⟩
        rw [j4]
        exact q .non w _ (h6 _ _ ⟨_, upd_same, Reps.of_ints _⟩) (ext_mut h2 h7 h5) repR_non
      · cases em
    · cases em
theorem serve_pop {w : W} {σ : L2.St} {H H0 : Hp} {z : Z} {i : Nat} {l : List D} {d' r : D} {Q : VK} (s : SR T w σ H z) (e : z.at i = some (.own, .lst l)) (nl : i ∉ z.lk) (em : popop l = some (d', r))
    {a : Addr} (ha : σ[i]? = some (some (.ref a))) (q : ∀ v w' H', SR T w' σ H' (z.put i .own d') → Ext w H w' H' → RepR T w' H' H0 false r v → Q v H') : L2.rPop (.ref a) [] H Q := by
  obtain ⟨a', h1, h2, ⟨xs, h3, h4⟩, h5, h7, h6⟩ := s.mut e
  have h7 := h7 nl
  rw [ha] at h1
  cases h1
  have g : ∀ u, Gr w H w (upd H a u) := fun u => gr_mut s.wf h2
  obtain ⟨d2, hd, e2⟩ := Option.map_eq_some_iff.mp em
  cases e2
  obtain ⟨y, hy, ry⟩ := h4.get hd
  rw [h4.length] at hy
  refine ⟨a, xs, y, rfl, rfl, h3, hy, ?_⟩
  exact q y w _ (h6 _ _ ⟨_, upd_same, (h4.mono (g _)).dropLast⟩) (ext_mut h2 h7 h5) (show Rep T w _ _ _ from ry.mono (g _))
/-- what sMt does -/
theorem sMt_is {m : Mt} {i : Nat} {f : EfT} {z z' : Z} {o : Bool} {r : D} (e : sMt m i f z = some (z', o, r)) : ∃ l0 z1 ds d d', z.at i = some (.own, .lst l0) ∧ f z = some (z1, ds) ∧ i ∉ z1.lk ∧ z1.at i = some (.own, d) ∧ mtop m d ds = some (d', r) ∧ z' = z1.put i .own d' ∧ o = false := by
  unfold sMt at e
  split at e
  · rename_i l0 h0
    split at e
    · rename_i z1 ds h1
      split at e
      · cases e
      · rename_i hc
        split at e
        · rename_i d h2
          split at e
          · rename_i d' r' h3
            cases e
            exact ⟨l0, z1, ds, d, d', h0, h1, by simpa using hc, h2, h3, rfl, rfl⟩
          · cases e
        · cases e
    · cases e
  · cases e
theorem pa_type : ∀ m : Mt, PySem.typeOf (.builtin (mtId m)) = pure (.type "method_descriptor")
  | .append => PySem.F.type_list_append
  | .extend => PySem.F.type_list_extend
  | .pop => PySem.F.type_list_pop
  | .remove => PySem.F.type_list_remove
theorem pa_slot : ∀ m : Mt, PySem.Slot "list" (mtName m) (mtId m)
  | .append => PySem.F.slot_list_append
  | .extend => PySem.F.slot_list_extend
  | .pop => PySem.F.slot_list_pop
  | .remove => PySem.F.slot_list_remove
theorem sEf1 {a : EvT} {z z1 : Z} {ds : List D} (h : sEfCons a sEfNil z = some (z1, ds)) : ∃ d, ds = [d] := by
  unfold sEfCons at h
  split at h
  · split at h
    · rename_i h2
      cases h2
      cases h
      exact ⟨_, rfl⟩
    · cases h
  · cases h
theorem pe_mt1 {m : Mt} {e : Expr} {y : Str} {i : Nat} {a : EvT} {np apos cpos : PySem.Pos} (hy : PE X (.Name y np) (L2.tVar i)) (hl : (apos.endLine == cpos.line) = true) (hs : notStar e = true) (ha : PE X e (tE T a)) :
    PE X (.Call (.Attribute (.Name y np) (mtName m) apos) [e] [] cpos) (tE T (sMt m i (sEfCons a sEfNil))) := by
  have hst := star_no (X := X) (es := []) hs
  refine PE.imp (L2.pe_bm PySem.F.plainAttrs_list (pa_slot m) (pa_type m) (mt1_ok m) hy (paF_cons hs ha paF_nil) (hbase := rfl) (hfew := by rw [hst]; rfl) (hline := hl) (hs := hst) (hplain := rfl)) ?_
  rintro σ H Q ⟨w, z, z', o, r, s, ee, q⟩
  obtain ⟨l0, z1, ds, d, d', h0, h1, hn, h2, h3, rfl, rfl⟩ := sMt_is ee
  obtain ⟨p, k1, k2, ⟨xs, k3, _⟩, _⟩ := s.mut h0
  refine ⟨.ref p, k1, .inl ⟨rfl, xs, SqL.of k3⟩, w, z, z1, ds, s, h1, fun vs w1 H1 s1 x1 r1 => ?_⟩
  obtain ⟨d0, rfl⟩ := sEf1 h1
  cases d <;> try (cases h3)
  rename_i l
  obtain ⟨v, rfl, rv⟩ := reps1 r1
  exact serve_mt1 (H0 := H) s1 h2 hn h3 rv k1 fun v w2 H2 s2 x2 r2 => q v w2 H2 s2 (x1.trans x2) r2
theorem pe_pop {y : Str} {i : Nat} {np apos cpos : PySem.Pos} (hy : PE X (.Name y np) (L2.tVar i)) (hl : (apos.endLine == cpos.line) = true) :
    PE X (.Call (.Attribute (.Name y np) "pop" apos) [] [] cpos) (tE T (sMt .pop i sEfNil)) := by
  refine PE.imp (L2.pe_bm0 PySem.F.plainAttrs_list PySem.F.slot_list_pop PySem.F.type_list_pop L2.mt_pop hy (hbase := rfl) (hline := hl)) ?_
  rintro σ H Q ⟨w, z, z', o, r, s, ee, q⟩
  obtain ⟨l0, z1, ds, d, d', h0, h1, hn, h2, h3, rfl, rfl⟩ := sMt_is ee
  obtain ⟨p, k1, k2, ⟨xs, k3, _⟩, _⟩ := s.mut h0
  cases h1
  refine ⟨.ref p, k1, .inl ⟨rfl, xs, SqL.of k3⟩, ?_⟩
  cases d <;> try (cases h3)
  rename_i l
  exact serve_pop (H0 := H) s h2 hn h3 k1 q
end
end BV

/-! States: stores, blocks, locks. -/
namespace BV
open PySem (Str Addr Expr PyData Operator CmpOp cLine Value Shared Around Program World wpAny model Reads ReadsAll bootBuiltins)
open L2 (V HO Hp upd upd_same upd_ne SqL SqT Cx PE TE VK OpR Dp DpAll Inv Vals RelV PT PW TT PA TA CallR EP Gl MtR)
open PySem.W (EachIs)

section
variable {T : Tx} {w w' : W} {H H' H0 : Hp} {σ : L2.St} {z : Z} {i : Nat} {d : D} {v : V} {h : Option (List D)}
theorem set_at {σ : L2.St} {i j : Nat} {v : V} (hi : i < σ.length) : (σ.set i (some v))[j]? = if j = i then some (some v) else σ[j]? := by
  by_cases q : j = i
  · subst q
    rw [List.getElem?_set_self hi, if_pos rfl]
  · rw [List.getElem?_set_ne (Ne.symm q), if_neg q]
/-- a store of what is for good -/
theorem SR.put (s : SR T w σ H z) (hi : i < z.g.length) (r : Rep T w H d v) : SR T w (σ.set i (some v)) H (z.put i .frz d) where
  wf := s.wf
  len := by simpa [Z.put] using s.len
  frz := fun j d' e => by
    have hs : i < σ.length := by rw [← s.len]; exact hi
    rw [at_put hi] at e
    rw [set_at hs]
    by_cases q : j = i
    · rw [if_pos q] at e ⊢
      cases e
      exact ⟨v, rfl, r⟩
    · rw [if_neg q] at e ⊢
      exact s.frz j d' e
  own := fun j d' e => by
    have hs : i < σ.length := by rw [← s.len]; exact hi
    rw [at_put hi] at e
    rw [set_at hs]
    by_cases q : j = i
    · rw [if_pos q] at e
      cases e
    · rw [if_neg q] at e ⊢
      exact s.own j d' e
  bor := fun j d' e => by
    have hs : i < σ.length := by rw [← s.len]; exact hi
    rw [at_put hi] at e
    rw [set_at hs]
    by_cases q : j = i
    · rw [if_pos q] at e
      cases e
    · rw [if_neg q] at e ⊢
      exact s.bor j d' e
  lk := s.lk
/-- the new owner of a -/
def W.give (w : W) (a : Addr) (i : Nat) : W := { w with own := fun b => if b = a then some i else w.own b }
theorem gr_give {a : Addr} : Gr w H (w.give a i) H := ⟨fun _ x => ⟨x, rfl⟩, fun _ _ x => x, fun _ x => x⟩
/-- a store of a new thing -/
theorem SR.putOwn {w0 : W} {a : Addr} (s0 : ∀ b, w0.lk b → H0 b ≠ none) (s0b : ∀ b, w0.bor b → H0 b ≠ none) (s : SR T w σ H z) (x : Ext w0 H0 w H) (hi : i < z.g.length) (h0 : H0 a = none) (h1 : H a ≠ none) (h2 : ¬ w.F a) (h3 : w.L a = none) (h4 : w.hd ≠ some a) (h5 : w.own a = none) (t : Top T w H d a) :
    SR T (w.give a i) (σ.set i (some (.ref a))) H (z.put i .own d) ∧ Ext w0 H0 (w.give a i) H := by
  have hs : i < σ.length := by rw [← s.len]; exact hi
  have own' : ∀ b j, (w.give a i).own b = some j → (b = a ∧ j = i) ∨ (b ≠ a ∧ w.own b = some j) := fun b j e => by
    have e : (if b = a then some i else w.own b) = some j := e
    by_cases q : b = a
    · rw [if_pos q] at e
      cases e
      exact .inl ⟨q, rfl⟩
    · rw [if_neg q] at e
      exact .inr ⟨q, e⟩
  have ownne : ∀ b, b ≠ a → (w.give a i).own b = w.own b := fun b q => if_neg q
  have owna : (w.give a i).own a = some i := if_pos rfl
  have g : Gr w H (w.give a i) H := gr_give
  refine ⟨⟨⟨fun b hb => ?_, fun b hb => ?_, fun b j hb => ?_, fun k ls q => ?_, s.wf.hand.mono g fun _ _ => rfl, s.wf.lkd, fun b hb => ?_⟩, by simpa [Z.put] using s.len, fun j d' e => ?_, fun j d' e => ?_, fun j d' e => ?_, fun b j e hl => ?_⟩, ⟨x.F, x.Fn, x.L, x.Ln, x.hd, x.hdn, fun b j e => ?_, x.lk, x.bor, x.keep, x.dom⟩⟩
  · obtain ⟨q1, q2, q3, q4⟩ := s.wf.exF b hb
    exact ⟨q1, q2, by rw [ownne b fun e => h2 (e ▸ hb)]; exact q3, q4⟩
  · obtain ⟨q1, q2⟩ := s.wf.exL b hb
    exact ⟨by rw [ownne b fun e => hb (e ▸ h3)]; exact q1, q2⟩
  · rcases own' b j hb with ⟨rfl, rfl⟩ | ⟨_, e⟩
    · exact ⟨h1, h4⟩
    · exact s.wf.exO b j e
  · rcases s.wf.cache k ls q with c | ⟨e2, c1, c2, c3⟩
    · exact .inl c
    · exact .inr ⟨e2, c1, c2, c3⟩
  · obtain ⟨b1, b2, b3, b4⟩ := s.wf.bor b hb
    refine ⟨b1, b2, ?_, b4⟩
    rw [ownne b fun e => ?_]
    · exact b3
    · subst e
      have hb : w.bor b := hb
      rw [x.bor] at hb
      exact s0b b hb h0
  · rw [at_put hi] at e
    rw [set_at hs]
    by_cases q : j = i
    · rw [if_pos q] at e
      cases e
    · rw [if_neg q] at e ⊢
      obtain ⟨v, e1, r⟩ := s.frz j d' e
      exact ⟨v, e1, r.mono g⟩
  · rw [at_put hi] at e
    rw [set_at hs]
    by_cases q : j = i
    · rw [if_pos q] at e ⊢
      cases e
      subst q
      exact ⟨a, rfl, owna, t.mono g rfl⟩
    · rw [if_neg q] at e ⊢
      obtain ⟨b, e1, e2, r⟩ := s.own j d' e
      refine ⟨b, e1, ?_, r.mono g rfl⟩
      rw [ownne b fun q2 => ?_]
      · exact e2
      · rw [q2, h5] at e2; cases e2
  · rw [at_put hi] at e
    rw [set_at hs]
    by_cases q : j = i
    · rw [if_pos q] at e
      cases e
    · rw [if_neg q] at e ⊢
      obtain ⟨b, e1, e2, r⟩ := s.bor j d' e
      exact ⟨b, e1, e2, r.mono g rfl⟩
  · rcases own' b j e with ⟨rfl, rfl⟩ | ⟨_, e⟩
    · have hl : w.lk b := hl
      rw [x.lk] at hl
      exact absurd h0 (s0 b hl)
    · exact s.lk b j e hl
  · rcases own' b j e with ⟨rfl, rfl⟩ | ⟨_, e⟩
    · exact .inr h0
    · exact x.own b j e
/-- an address that no one names -/
structure Loose (w : W) (H : Hp) (a : Addr) : Prop where
  F : ¬ w.F a
  L : w.L a = none
  hd : w.hd ≠ some a
  own : w.own a = none
  bor : ¬ w.bor a
theorem Loose.of (f : Wf T w H h) {p : Addr} (q : H p = none) : Loose w H p := by
  obtain ⟨h1, h2, h3, h4⟩ := f.fresh q
  exact ⟨h1, h2, h4, h3, fun e => (f.bor p e).2.2.2 q⟩
theorem Loose.ext {a : Addr} (l : Loose w H a) (hn : H a ≠ none) (x : Ext w H w' H') : Loose w' H' a where
  F := fun e => by
    rcases x.Fn a e with q | q | ⟨i, q⟩
    · exact l.F q
    · exact hn q
    · rw [l.own] at q; cases q
  L := by
    cases e : w'.L a with
    | none => rfl
    | some ls =>
      rcases x.Ln a (by rw [e]; simp) with q | q
      · exact absurd l.L q
      · exact absurd q hn
  hd := fun e => by
    rcases x.hdn a e with q | q
    · exact l.hd q
    · exact hn q
  own := by
    cases e : w'.own a with
    | none => rfl
    | some i =>
      rcases x.own a i e with q | q
      · rw [l.own] at q; cases q
      · exact absurd q hn
  bor := by rw [x.bor]; exact l.bor
/-- a loose thing is changed -/
theorem gr_loose {a : Addr} {u : HO} (l : Loose w H a) : Gr w H w (upd H a u) := ⟨fun b hb => ⟨hb, upd_ne fun e => l.F (e ▸ hb)⟩, fun _ _ x => x, fun _ x => x⟩
theorem upd_dom {a b : Addr} {u : HO} (h : H b ≠ none) : upd H a u b ≠ none := by
  by_cases q : b = a
  · subst q; rw [upd_same]; simp
  · rw [upd_ne q]; exact h
theorem SR.loose {a : Addr} {u : HO} (s : SR T w σ H z) (l : Loose w H a) : SR T w σ (upd H a u) z where
  wf := by
    have g : Gr w H w (upd H a u) := gr_loose l
    refine ⟨fun b hb => ⟨upd_dom (s.wf.exF b hb).1, (s.wf.exF b hb).2⟩, s.wf.exL, fun b j hb => ⟨upd_dom (s.wf.exO b j hb).1, (s.wf.exO b j hb).2⟩, fun k ls q => ?_, s.wf.hand.mono g fun b e => upd_ne fun q => l.hd (q ▸ e), fun b e => upd_dom (s.wf.lkd b e), fun b e => let ⟨h1, h2, h3, h4⟩ := s.wf.bor b e; ⟨h1, h2, h3, upd_dom h4⟩⟩
    have nk : k ≠ a := fun e => by rw [e, l.L] at q; cases q
    rcases s.wf.cache k ls q with c | ⟨e2, c1, c2, c3⟩
    · exact .inl ((upd_ne nk).trans c)
    · exact .inr ⟨e2, (upd_ne nk).trans c1, c2, (g.F e2 c2).2.trans c3⟩
  len := s.len
  frz := fun i d e => let ⟨v, e1, r⟩ := s.frz i d e; ⟨v, e1, r.mono (gr_loose l)⟩
  own := fun i d e => let ⟨b, e1, e2, r⟩ := s.own i d e; ⟨b, e1, e2, r.mono (gr_loose l) (upd_ne fun q => by rw [q, l.own] at e2; cases e2)⟩
  bor := fun i d e => let ⟨b, e1, e2, r⟩ := s.bor i d e; ⟨b, e1, e2, r.mono (gr_loose l) (upd_ne fun q => l.bor (q ▸ e2))⟩
  lk := s.lk
/-! ### blocks -/
theorem wipe_at {z : Z} : ∀ {vs : List Nat} {j : Nat}, (z.wipe vs).at j = if j ∈ vs then none else z.at j
  | [], j => by simp [Z.wipe]
  | i :: r, j => by
    have ih := @wipe_at z r j
    show ((((z.wipe r).g.set i none))[j]?).join = _
    by_cases q : j = i
    · subst q
      simp only [List.mem_cons, true_or, if_true]
      by_cases hl : j < (z.wipe r).g.length
      · rw [List.getElem?_set_self hl]; rfl
      · rw [List.getElem?_eq_none (by simpa using hl)]; rfl
    · rw [List.getElem?_set_ne (Ne.symm q)]
      simp only [List.mem_cons, q, false_or]
      exact ih
theorem wipe_len {z : Z} : ∀ {vs : List Nat}, (z.wipe vs).g.length = z.g.length
  | [] => rfl
  | i :: r => by
    show (((z.wipe r).g.set i none)).length = _
    rw [List.length_set, wipe_len]
theorem wipe_h {z : Z} : ∀ {vs : List Nat}, (z.wipe vs).h = z.h
  | [] => rfl
  | i :: r => wipe_h (vs := r)
theorem wipe_lk {z : Z} : ∀ {vs : List Nat}, (z.wipe vs).lk = z.lk
  | [] => rfl
  | i :: r => wipe_lk (vs := r)
theorem lwipe_at {σ : L2.St} : ∀ {vs : List Nat} {j : Nat}, j ∉ vs → (L2.wipe σ vs)[j]? = σ[j]?
  | [], j, _ => rfl
  | i :: r, j, h => by
    rw [List.mem_cons, not_or] at h
    show ((L2.wipe σ r).set i none)[j]? = _
    rw [List.getElem?_set_ne (Ne.symm h.1)]
    exact lwipe_at h.2
theorem SR.wipe (s : SR T w σ H z) (vs : List Nat) : SR T w (L2.wipe σ vs) H (z.wipe vs) where
  wf := by rw [wipe_h]; exact s.wf
  len := by rw [wipe_len, L2.wipe_length]; exact s.len
  frz := fun i d e => by
    rw [wipe_at] at e
    by_cases q : i ∈ vs
    · rw [if_pos q] at e; cases e
    · rw [if_neg q] at e
      rw [lwipe_at q]
      exact s.frz i d e
  own := fun i d e => by
    rw [wipe_at] at e
    by_cases q : i ∈ vs
    · rw [if_pos q] at e; cases e
    · rw [if_neg q] at e
      rw [lwipe_at q]
      exact s.own i d e
  bor := fun i d e => by
    rw [wipe_at] at e
    by_cases q : i ∈ vs
    · rw [if_pos q] at e; cases e
    · rw [if_neg q] at e
      rw [lwipe_at q]
      exact s.bor i d e
  lk := by rw [wipe_lk]; exact s.lk
theorem back_at {z z0 : Z} : ∀ {vs : List Nat} {j : Nat}, (z.back z0 vs).at j = if j ∈ vs ∧ j < z.g.length then keepF (z0.at j) else z.at j
  | [], j => by simp [Z.back]
  | i :: r, j => by
    have ih := @back_at z z0 r j
    have hlen : (z.back z0 r).g.length = z.g.length := by
      clear ih
      induction r with
      | nil => rfl
      | cons i r ih => show (List.set _ _ _).length = _; rw [List.length_set, ih]
    show ((((z.back z0 r).g.set i _))[j]?).join = _
    by_cases q : j = i
    · subst q
      by_cases hl : j < z.g.length
      · rw [List.getElem?_set_self (by rw [hlen]; exact hl)]
        simp only [List.mem_cons, true_or, hl, and_self, if_true]
        rfl
      · rw [List.getElem?_eq_none (by simpa [hlen] using hl)]
        simp only [hl, and_false, if_false]
        unfold Z.at
        rw [List.getElem?_eq_none (by simpa using hl)]
    · rw [List.getElem?_set_ne (Ne.symm q)]
      simp only [List.mem_cons, q, false_or]
      exact ih
theorem keepF_frz {o : Option (Ow × D)} {d : D} (h : keepF o = some (.frz, d)) : o = some (.frz, d) := by
  unfold keepF at h
  split at h
  · exact h
  · cases h
theorem keepF_is {o : Option (Ow × D)} {k : Ow} {d : D} (h : keepF o = some (k, d)) : k = .frz := by
  unfold keepF at h
  split at h
  · cases h; rfl
  · cases h
theorem back_len {z z0 : Z} : ∀ {vs : List Nat}, (z.back z0 vs).g.length = z.g.length
  | [] => rfl
  | i :: r => by
    show (List.set _ _ _).length = _
    rw [List.length_set, back_len]
theorem back_h {z z0 : Z} : ∀ {vs : List Nat}, (z.back z0 vs).h = z.h
  | [] => rfl
  | i :: r => back_h (vs := r)
theorem back_lk {z z0 : Z} : ∀ {vs : List Nat}, (z.back z0 vs).lk = z.lk
  | [] => rfl
  | i :: r => back_lk (vs := r)
/-- behind a block -/
theorem SR.back {z0 : Z} {w0 : W} (s0 : SR T w0 σ H0 z0) (g : Gr w0 H0 w H) {vs : List Nat} {σ' : L2.St} (s : SR T w σ' H z) (hσ : ∀ j, j ∉ vs → σ'[j]? = σ[j]?) (hl : σ'.length = σ.length) : SR T w σ H (z.back z0 vs) where
  wf := by rw [back_h]; exact s.wf
  len := by rw [back_len, s.len, hl]
  frz := fun i d e => by
    rw [back_at] at e
    split at e
    · obtain ⟨v, e1, r⟩ := s0.frz i d (keepF_frz e)
      exact ⟨v, e1, r.mono g⟩
    · rename_i q
      have hi := at_lt e
      have q2 : i ∉ vs := fun z2 => q ⟨z2, hi⟩
      rw [← hσ i q2]
      exact s.frz i d e
  own := fun i d e => by
    rw [back_at] at e
    split at e
    · exact absurd (keepF_is e) (by simp)
    · rename_i q
      have hi := at_lt e
      have q2 : i ∉ vs := fun z2 => q ⟨z2, hi⟩
      rw [← hσ i q2]
      exact s.own i d e
  bor := fun i d e => by
    rw [back_at] at e
    split at e
    · exact absurd (keepF_is e) (by simp)
    · rename_i q
      have hi := at_lt e
      have q2 : i ∉ vs := fun z2 => q ⟨z2, hi⟩
      rw [← hσ i q2]
      exact s.bor i d e
  lk := by rw [back_lk]; exact s.lk
/-! ### locks -/
def W.lock (w : W) (p : Addr → Prop) : W := { w with lk := fun a => w.lk a ∨ p a }
theorem gr_lock {p : Addr → Prop} : Gr w H (w.lock p) H := ⟨fun _ x => ⟨x, rfl⟩, fun _ _ x => x, fun _ x => x⟩
theorem SR.lock {p : Addr → Prop} {bs : List Nat} (s : SR T w σ H z) (hp : ∀ a, p a → ∃ i ∈ bs, w.own a = some i) : SR T (w.lock p) σ H (BV.bor bs z) where
  wf := ⟨s.wf.exF, s.wf.exL, s.wf.exO, s.wf.cache, s.wf.hand.mono gr_lock fun _ _ => rfl, fun a e => by
    rcases e with e | e
    · exact s.wf.lkd a e
    · obtain ⟨i, _, h1⟩ := hp a e
      exact (s.wf.exO a i h1).1, s.wf.bor⟩
  len := s.len
  frz := fun i d e => let ⟨v, e1, r⟩ := s.frz i d e; ⟨v, e1, r.mono gr_lock⟩
  own := fun i d e => let ⟨b, e1, e2, r⟩ := s.own i d e; ⟨b, e1, e2, r.mono gr_lock rfl⟩
  bor := fun i d e => let ⟨b, e1, e2, r⟩ := s.bor i d e; ⟨b, e1, e2, r.mono gr_lock rfl⟩
  lk := fun a i e hl => by
    show i ∈ bs ++ z.lk
    rw [List.mem_append]
    rcases hl with hl | hl
    · exact .inr (s.lk a i e hl)
    · obtain ⟨j, hj, h1⟩ := hp a hl
      have e : w.own a = some i := e
      rw [e] at h1
      cases h1
      exact .inl hj
/-- the locks of before -/
def W.relk (w : W) (w0 : W) : W := { w with lk := w0.lk }
theorem gr_relk {w0 : W} : Gr w H (w.relk w0) H := ⟨fun _ x => ⟨x, rfl⟩, fun _ _ x => x, fun _ x => x⟩
theorem SR.unlock {w0 : W} {p : Addr → Prop} {z0 : Z} {σ0 : L2.St} (s0 : SR T w0 σ0 H0 z0) (s : SR T w σ H z) (x : Ext (w0.lock p) H0 w H) : SR T (w.relk w0) σ H (unbor z0 z) ∧ Ext w0 H0 (w.relk w0) H := by
  refine ⟨⟨⟨s.wf.exF, s.wf.exL, s.wf.exO, s.wf.cache, s.wf.hand.mono gr_relk fun _ _ => rfl, fun a e => x.dom a (s0.wf.lkd a e), s.wf.bor⟩, s.len, fun i d e => let ⟨v, e1, r⟩ := s.frz i d e; ⟨v, e1, r.mono gr_relk⟩, fun i d e => let ⟨b, e1, e2, r⟩ := s.own i d e; ⟨b, e1, e2, r.mono gr_relk rfl⟩,
    fun i d e => let ⟨b, e1, e2, r⟩ := s.bor i d e; ⟨b, e1, e2, r.mono gr_relk rfl⟩, fun a i e hl => ?_⟩, ⟨x.F, x.Fn, x.L, x.Ln, x.hd, x.hdn, x.own, rfl, x.bor, fun a o h1 h2 h3 h4 => x.keep a o h1 h2 h3 ?_, x.dom⟩⟩
  · rcases x.own a i e with q | q
    · exact s0.lk a i q hl
    · exact absurd q (s0.wf.lkd a hl)
  · rcases h4 with h4 | h4
    · exact .inl h4
    · exact .inr (.inl h4)
/-- what a walk may lean on -/
def Held (w : W) (a : Addr) : Prop := w.L a = none ∧ w.hd ≠ some a ∧ (w.own a = none ∨ w.lk a)
theorem Held.keep {a : Addr} {o : HO} (k : Held w a) (x : Ext w H w' H') (e : H a = some o) : H' a = some o := x.keep a o e k.1 k.2.1 k.2.2
theorem Held.F (f : Wf T w H h) {a : Addr} (hf : w.F a) : Held w a := let ⟨_, h2, h3, h4⟩ := f.exF a hf; ⟨h2, h4, .inl h3⟩
/-- the slots' own addresses -/
def lockP (w : W) (σ : L2.St) (bs : List Nat) : Addr → Prop := fun a => ∃ i ∈ bs, w.own a = some i ∧ σ[i]? = some (some (.ref a))
theorem lockP_ok {bs : List Nat} : ∀ a, lockP w σ bs a → ∃ i ∈ bs, w.own a = some i := fun a ⟨i, h1, h2, _⟩ => ⟨i, h1, h2⟩
/-- an operand's list or dict -/
theorem Held.opd {o : Opd} {bs : List Nat} {a : Addr} (s : SR T w σ H z) (r : OpdRep T w σ H o (.ref a)) (e : o.get z = some d) (hl : d.isObj = true) (hb : ∀ i, o = .slot i → i ∈ bs) : Held (w.lock (lockP w σ bs)) a := by
  have hF : Rep T w H d (.ref a) → Held (w.lock (lockP w σ bs)) a := fun r => by
    have f : w.F a := by
      cases d <;> first | cases hl | skip
      all_goals
        simp only [Rep] at r
        obtain ⟨b, _, e, hf, _⟩ := r
        cases e
        exact hf
    obtain ⟨h1, h2, h3, h4⟩ := s.wf.exF a f
    exact ⟨h2, h4, .inl h3⟩
  cases o with
  | val d' =>
    simp only [Opd.get, Option.some.injEq] at e
    subst e
    exact hF r
  | slot i =>
    simp only [Opd.get, Option.map_eq_some_iff] at e
    obtain ⟨⟨k, d'⟩, e1, e2⟩ := e
    simp only at e2
    subst e2
    have r : σ[i]? = some (some (.ref a)) := r
    cases k with
    | frz =>
      obtain ⟨u, h1, h2⟩ := s.frz i d' e1
      rw [r] at h1
      cases h1
      exact hF h2
    | own =>
      obtain ⟨b, h1, h2, _⟩ := s.own i d' e1
      rw [r] at h1
      cases h1
      refine ⟨?_, (s.wf.exO a i h2).2, .inr (.inr ⟨i, hb i rfl, h2, r⟩)⟩
      cases q : w.L a with
      | none => exact q
      | some ls => rw [(s.wf.exL a (by rw [q]; simp)).1] at h2; cases h2
    | bor =>
      obtain ⟨b, h1, h2, _⟩ := s.bor i d' e1
      rw [r] at h1
      cases h1
      obtain ⟨b1, b2, b3, b4⟩ := s.wf.bor a h2
      exact ⟨b1, b2, .inl b3⟩
end
end BV

/-! Contexts, names, targets. -/
namespace BV
open PySem (Str Addr Expr PyData Operator CmpOp cLine Value Shared Around Program World wpAny model Reads ReadsAll bootBuiltins Scope NameKind)
open L2 (V HO Hp upd upd_same upd_ne SqL SqT Cx PE TE VK OpR Dp DpAll Inv Vals RelV PT PW TT PA TA CallR EP Gl MtR PG PGs)
open PySem.W (EachIs)

structure Sim (X X' : Cx) : Prop where
  prog : X'.prog = X.prog
  w : X'.w = X.w
  K : X'.K = X.K
  mg : X'.mg = X.mg
  base : X'.base = X.base
  A : X'.A = X.A
  calm : X'.calm = X.calm
theorem Sim.rfl' {X : Cx} : Sim X X := ⟨rfl, rfl, rfl, rfl, rfl, rfl, rfl⟩
theorem Sim.trans {X Y Z : Cx} (a : Sim X Y) (b : Sim Y Z) : Sim X Z := ⟨b.prog.trans a.prog, b.w.trans a.w, b.K.trans a.K, b.mg.trans a.mg, b.base.trans a.base, b.A.trans a.A, b.calm.trans a.calm⟩
theorem Sim.blk {X : Cx} {s : Shared} {H : Hp} {scope : Scope} {ce : PySem.Env} {fp : List Addr} : Sim X (X.blk s H scope ce fp) := ⟨rfl, rfl, rfl, rfl, rfl, rfl, rfl⟩

/-- what the calls of the text's own defs and of Web's methods do -/
structure Rules (T : Tx) (F : Phi) (gl : List (Str × GK)) (X : Cx) : Prop where
  call : ∀ X', Sim X X' → ∀ (x : Str) (f : Nat) (kp : List Nat) (es : List Expr) (os : OsT) (p pos : PySem.Pos), gl.lookup x = some (.fn f kp) → Gl X' x → (x == ("__debug__" : Str)) = false → es ≠ [] → (∀ u ∈ es, notStar u = true) → PA X' es (tOs T os) →
    PE X' (.Call (.Name x p) es [] pos) (tE T (sCall F f os))
  web : (F gIdx [] none).isSome = true → ∀ X', Sim X X' → ∀ (x : Str) (a b : Expr) (oa ob : OpT) (p pos : PySem.Pos), gl.lookup x = some .web → Gl X' x → (x == ("__debug__" : Str)) = false → notStar a = true → notStar b = true → PE X' a (tO T oa) → PE X' b (tO T ob) →
    PE X' (.Call (.Name x p) [a, b] [] pos) (tE T (sOp2 (plain2 webop) oa ob))
  there : (F gIdx [] none).isSome = true → ∀ X', Sim X X' → ∀ (a : Expr) (oa : OpT) (ap pos : PySem.Pos), (ap.endLine == pos.line) = true → notCall0 a = true → PE X' a (tO T oa) → PE X' (.Call (.Attribute a "there" ap) [] [] pos) (tE T (sOp1 (plain1 thop) oa))
  eq : ∀ X', Sim X X' → OpR X' (PySem.compareOp .Eq) (rWeb T false)
  ne : ∀ X', Sim X X' → OpR X' (PySem.compareOp .NotEq) (rWeb T true)
structure CxOk (T : Tx) (F : Phi) (c : Ctx) (X : Cx) : Prop where
  N : X.N = c.N
  nd : c.N.Nodup
  sc : X.env.scope = c.sc
  K : T.K = X.K
  calm : X.calm = true
  un : X.A.units + 200 < cLine
  fn : c.cellOk = true → ∀ x, X.fn x = true
  gi : ∀ x i, c.gl.lookup x = some (.int i) → ∃ t, X.mg x = some (.int i t)
  gb : ∀ x, c.gl.lookup x = some .blt → X.mg x = none
  gw : ∀ x, c.gl.lookup x = some .web → X.mg x = some (.ref T.C)
  wk : WebK X.K T.C
  xe : X.xe = fun _ _ => False
  rules : Rules T F c.gl X
section
variable {T : Tx} {F : Phi} {c : Ctx} {X : Cx}
theorem CxOk.blk (k : CxOk T F c X) {s : Shared} {H : Hp} {scope : Scope} {C : Addr} {cl : List (Str × Addr)} {fp : List Addr} : CxOk T F (c.blk scope) (X.blk s H scope (PySem.compEnvC scope cl C X.env) fp) where
  N := k.N
  nd := k.nd
  sc := by
    show L2.relS scope X.env.scope = L2.relS scope c.sc
    rw [k.sc]
  K := k.K
  calm := k.calm
  un := k.un
  fn := fun h => by cases h
  gi := k.gi
  gb := k.gb
  gw := k.gw
  wk := k.wk
  xe := rfl
  rules := ⟨fun X' s => k.rules.call X' (Sim.blk.trans s), fun g X' s => k.rules.web g X' (Sim.blk.trans s), fun g X' s => k.rules.there g X' (Sim.blk.trans s), fun X' s => k.rules.eq X' (Sim.blk.trans s), fun X' s => k.rules.ne X' (Sim.blk.trans s)⟩
theorem CxOk.gl_ {x : Str} (k : CxOk T F c X) (h : c.glob x = true) : Gl X x ∧ (x == ("__debug__" : Str)) = false := by
  unfold Ctx.glob at h
  simp only [Bool.and_eq_true, decide_eq_true_eq, Bool.not_eq_true'] at h
  refine ⟨?_, h.2⟩
  show X.env.scope.names.lookup x = _
  rw [k.sc]
  exact h.1
theorem CxOk.g_ {x : Str} {g : GK} (k : CxOk T F c X) (h : c.g x = some g) : Gl X x ∧ (x == ("__debug__" : Str)) = false ∧ c.gl.lookup x = some g := by
  unfold Ctx.g at h
  split at h
  · rename_i hg
    obtain ⟨h1, h2⟩ := k.gl_ hg
    exact ⟨h1, h2, h⟩
  · cases h
theorem idx_get : ∀ {N : List Str} {x : Str} {j i : Nat}, idx x N j = some i → ∃ m, i = j + m ∧ N[m]? = some x
  | [], _, _, _, h => by cases h
  | y :: r, x, j, i, h => by
    unfold idx at h
    split at h
    · rename_i e
      cases h
      exact ⟨0, rfl, by rw [e]; rfl⟩
    · obtain ⟨m, h1, h2⟩ := idx_get h
      exact ⟨m + 1, by omega, h2⟩
theorem idx0 {N : List Str} {x : Str} {i : Nat} (h : idx x N 0 = some i) : N[i]? = some x := by
  obtain ⟨m, h1, h2⟩ := idx_get h
  have : i = m := by omega
  subst this
  exact h2
theorem CxOk.var (k : CxOk T F c X) {x : Str} {i : Nat} {pos : PySem.Pos} (h : c.slot x = some i) : PE X (.Name x pos) (L2.tVar i) := by
  unfold Ctx.slot at h
  split at h
  · rename_i hv
    unfold Ctx.vis at hv
    simp only [Bool.and_eq_true, Bool.not_eq_true'] at hv
    refine L2.pe_var (by rw [k.N]; exact idx0 h) ?_ hv.1.2 hv.2
    have e : X.env.scope.names.lookup x = c.kind x := by rw [k.sc]; rfl
    unfold L2.Vis
    rw [e]
    have h1 := hv.1.1
    split at h1
    · rename_i q; exact .inl q
    · rename_i q; exact .inr (.inl q)
    · rename_i q; exact .inr (.inr q)
    · cases h1
  · cases h
theorem CxOk.sto (k : CxOk T F c X) {x : Str} {i : Nat} (h : c.stoSlot x = some i) : X.N[i]? = some x ∧ L2.Loc X.env.scope x ∧ (X.fn x = true ∨ X.env.scope.names.lookup x = some .local) := by
  unfold Ctx.stoSlot at h
  split at h
  · rename_i hv
    unfold Ctx.sto at hv
    have e : X.env.scope.names.lookup x = c.kind x := by rw [k.sc]; rfl
    refine ⟨by rw [k.N]; exact idx0 h, ?_⟩
    unfold L2.Loc
    rw [e]
    split at hv
    · rename_i q; exact ⟨.inl q, .inr q⟩
    · rename_i q; exact ⟨.inr q, .inl (k.fn hv x)⟩
    · cases hv
  · cases h
end
/-! ### targets -/
mutual
def gOf (K : PySem.W.Frag) : TG → L2.TG
  | .nm i => L2.gName i
  | .tp l => L2.gTup K l.len (gsOf K l)
def gsOf (K : PySem.W.Frag) : TGs → L2.TGs
  | .nil => L2.gNil
  | .cons t r => L2.gCons (gOf K t) (gsOf K r)
end
section
variable {T : Tx} {F : Phi} {c : Ctx} {X : Cx}
theorem tgt_facts : ∀ (n : Nat) (es : List Expr) (l : TGs), tgt.tgts c n es = some l → (PySem.assignEach es X.env).length = l.len ∧ (PySem.assignEach es X.env).findIdx? (·.1) = none
  | 0, [], l, h => by
    unfold tgt.tgts at h
    cases h
    exact ⟨rfl, rfl⟩
  | 0, _ :: _, l, h => by
    unfold tgt.tgts at h
    cases h
  | n + 1, [], l, h => by
    unfold tgt.tgts at h
    cases h
    exact ⟨rfl, rfl⟩
  | n + 1, e :: r, l, h => by
    unfold tgt.tgts at h
    split at h
    · rename_i t l' h1 h2
      cases h
      obtain ⟨q1, q2⟩ := tgt_facts n r l' h2
      have he : PySem.assignEach (e :: r) X.env = (false, PySem.assign e X.env) :: PySem.assignEach r X.env := by
        cases n with
        | zero => unfold tgt at h1; cases h1
        | succ n =>
          unfold tgt at h1
          split at h1 <;> first | rfl | cases h1
      rw [he]
      refine ⟨by rw [List.length_cons, q1]; rfl, ?_⟩
      rw [List.findIdx?_cons]
      simp [q2]
    · cases h
theorem tgt_head (n : Nat) (e : Expr) (r : List Expr) (t : TG) (h : tgt c n e = some t) : (PySem.assignEach (e :: r) X.env).map (·.2) = PySem.assign e X.env :: (PySem.assignEach r X.env).map (·.2) := by
  cases n with
  | zero => unfold tgt at h; cases h
  | succ n =>
    unfold tgt at h
    split at h <;> first | rfl | cases h
mutual
theorem pg_tgt (k : CxOk T F c X) : ∀ (n : Nat) (e : Expr) (g : TG), tgt c n e = some g → PG X e (gOf X.K g)
  | 0, e, g, h => by unfold tgt at h; cases h
  | n + 1, .Name x pos, g, h => by
    unfold tgt at h
    obtain ⟨i, h1, h2⟩ := Option.map_eq_some_iff.mp h
    subst h2
    obtain ⟨q1, q2, q3⟩ := k.sto h1
    exact L2.pg_name (by rw [k.N]; exact k.nd) q1 q2 q3
  | n + 1, .Tuple es _ _, g, h => by
    unfold tgt at h
    obtain ⟨l, h1, h2⟩ := Option.map_eq_some_iff.mp h
    subst h2
    obtain ⟨q1, q2⟩ := tgt_facts (X := X) n es l h1
    exact L2.pg_tup k.calm (pgs_tgt k n es l h1) q1 q2
  | n + 1, .BoolOp _ _ _, g, h => by unfold tgt at h; cases h
  | n + 1, .NamedExpr _ _ _, g, h => by unfold tgt at h; cases h
  | n + 1, .BinOp _ _ _ _, g, h => by unfold tgt at h; cases h
  | n + 1, .UnaryOp _ _ _, g, h => by unfold tgt at h; cases h
  | n + 1, .Lambda _ _ _ _, g, h => by unfold tgt at h; cases h
  | n + 1, .IfExp _ _ _ _, g, h => by unfold tgt at h; cases h
  | n + 1, .Dict _ _ _, g, h => by unfold tgt at h; cases h
  | n + 1, .Set _ _ _, g, h => by unfold tgt at h; cases h
  | n + 1, .ListComp _ _ _ _, g, h => by unfold tgt at h; cases h
  | n + 1, .SetComp _ _ _ _, g, h => by unfold tgt at h; cases h
  | n + 1, .DictComp _ _ _ _ _, g, h => by unfold tgt at h; cases h
  | n + 1, .GeneratorExp _ _ _ _, g, h => by unfold tgt at h; cases h
  | n + 1, .Await _ _, g, h => by unfold tgt at h; cases h
  | n + 1, .Yield _ _, g, h => by unfold tgt at h; cases h
  | n + 1, .YieldFrom _ _, g, h => by unfold tgt at h; cases h
  | n + 1, .Compare _ _ _ _, g, h => by unfold tgt at h; cases h
  | n + 1, .Call _ _ _ _, g, h => by unfold tgt at h; cases h
  | n + 1, .FormattedValue _ _ _ _, g, h => by unfold tgt at h; cases h
  | n + 1, .JoinedStr _ _, g, h => by unfold tgt at h; cases h
  | n + 1, .Constant _ _ _, g, h => by unfold tgt at h; cases h
  | n + 1, .Attribute _ _ _, g, h => by unfold tgt at h; cases h
  | n + 1, .Subscript _ _ _, g, h => by unfold tgt at h; cases h
  | n + 1, .Starred _ _, g, h => by unfold tgt at h; cases h
  | n + 1, .List _ _, g, h => by unfold tgt at h; cases h
  | n + 1, .Slice _ _ _ _, g, h => by unfold tgt at h; cases h
theorem pgs_tgt (k : CxOk T F c X) : ∀ (n : Nat) (es : List Expr) (l : TGs), tgt.tgts c n es = some l → PGs X es (gsOf X.K l)
  | 0, [], l, h => by
    unfold tgt.tgts at h
    cases h
    exact L2.pgs_nil
  | 0, _ :: _, l, h => by
    unfold tgt.tgts at h
    cases h
  | n + 1, [], l, h => by
    unfold tgt.tgts at h
    cases h
    exact L2.pgs_nil
  | n + 1, e :: r, l, h => by
    unfold tgt.tgts at h
    split at h
    · rename_i t l' h1 h2
      cases h
      exact L2.pgs_cons (pg_tgt k n e t h1) (pgs_tgt k n r l' h2) (tgt_head n e r t h1)
    · cases h
end
theorem binds_len : ∀ (l : TGs) {ds : List D} {z z' : Z}, bindT.bindTs l ds z = some z' → ds.length = l.len
  | .nil, [], _, _, _ => rfl
  | .nil, _ :: _, _, _, h => by unfold bindT.bindTs at h; cases h
  | .cons _ _, [], _, _, h => by unfold bindT.bindTs at h; cases h
  | .cons t l, d :: ds, z, z', h => by
    unfold bindT.bindTs at h
    split at h
    · rw [List.length_cons, binds_len l h]; rfl
    · cases h
mutual
/-- a target bound to what is for good -/
theorem bind_ok {w : W} {H : Hp} {Q : L2.St → Hp → Prop} : ∀ (g : TG) {σ : L2.St} {z z' : Z} {d : D} {v : V}, bindT g d z = some z' → SR T w σ H z → Rep T w H d v →
    (∀ σ', SR T w σ' H z' → (∀ j, j ∉ g.slots → σ'[j]? = σ[j]?) → σ'.length = σ.length → Q σ' H) → gOf T.K g v σ H Q
  | .nm i, σ, z, z', d, v, e, s, r, q => by
    unfold bindT at e
    split at e
    · rename_i hi
      cases e
      have hs : i < σ.length := by rw [← s.len]; exact hi
      refine q _ (s.put hi r) (fun j hj => ?_) (by simp)
      rw [set_at hs, if_neg]
      intro e
      exact hj (by rw [e]; simp [TG.slots])
    · cases e
  | .tp l, σ, z, z', d, v, e, s, r, q => by
    cases d <;> first | (unfold bindT at e; cases e; done) | skip
    rename_i ds
    unfold bindT at e
    simp only [Rep] at r
    obtain ⟨a, xs, rfl, hf, ha, hr⟩ := r
    obtain ⟨q1, q2⟩ := binds_ok l e s hr q
    exact ⟨a, xs, rfl, SqT.of ha, q1, q2⟩
theorem binds_ok {w : W} {H : Hp} {Q : L2.St → Hp → Prop} : ∀ (l : TGs) {σ : L2.St} {z z' : Z} {ds : List D} {vs : List V}, bindT.bindTs l ds z = some z' → SR T w σ H z → Reps T w H ds vs →
    (∀ σ', SR T w σ' H z' → (∀ j, j ∉ l.slots → σ'[j]? = σ[j]?) → σ'.length = σ.length → Q σ' H) → vs.length = l.len ∧ gsOf T.K l vs σ H Q
  | .nil, σ, z, z', ds, vs, e, s, r, q => by
    cases ds with
    | nil =>
      unfold bindT.bindTs at e
      cases e
      simp only [Reps] at r
      subst r
      exact ⟨rfl, rfl, q σ s (fun _ _ => rfl) rfl⟩
    | cons d ds => unfold bindT.bindTs at e; cases e
  | .cons t l, σ, z, z', ds, vs, e, s, r, q => by
    cases ds with
    | nil => unfold bindT.bindTs at e; cases e
    | cons d ds =>
      unfold bindT.bindTs at e
      simp only [Reps] at r
      obtain ⟨v, vs', rfl, r1, r2⟩ := r
      split at e
      · rename_i z1 e1
        have len : vs'.length = l.len := by rw [← r2.length, binds_len l e]
        refine ⟨by rw [List.length_cons, len]; rfl, v, vs', rfl, ?_⟩
        exact bind_ok t e1 s r1 fun σ1 s1 k1 l1 => (binds_ok l e s1 r2 fun σ2 s2 k2 l2 => q σ2 s2 (fun j hj => by
          simp only [TGs.slots, List.mem_append, not_or] at hj
          rw [k2 j hj.2, k1 j hj.1]) (l2.trans l1)).2
      · cases e
end
end
end BV

/-! Comprehensions. -/
namespace BV
open PySem (Str Addr Expr PyData Operator CmpOp cLine Value Shared Around Program World wpAny model Reads ReadsAll bootBuiltins Scope NameKind)
open L2 (V HO Hp upd upd_same upd_ne SqL SqT Cx PE TE VK OpR Dp DpAll Inv Vals RelV PT PW TT PA TA CallR EP Gl MtR PG PGs PI PTs)

/-- an iterator that yields these data from here on -/
def ItOk (T : Tx) (w1 : W) (H1 : Hp) (J : L2.It) (items : List D) : Prop :=
  ∀ (i : Nat) (w : W) (H : Hp) (σ : L2.St) (z : Z), SR T w σ H z → Ext w1 H1 w H →
    (items.length ≤ i → J.stop i H) ∧ ∀ d, items[i]? = some d → J.go i H ∧ ∀ x H', J.yld i H x H' → ∃ w', SR T w' σ H' z ∧ Ext w H w' H' ∧ Rep T w' H' d x
def tI (T : Tx) (f : ItT) : L2.TI := fun σ H R => ∃ w z z' items bs, SR T w σ H z ∧ f z = some (z', items, bs) ∧
  ∀ J w' H' p, SR T w' σ H' z' → Ext w H w' H' → (∀ a, p a → ∃ i ∈ bs, w'.own a = some i) → ItOk T (w'.lock p) H' J items → R J H'
section
variable {T : Tx} {w w' : W} {H H' H0 : Hp} {σ σ' : L2.St} {z : Z} {d : D} {v : V}
theorem lwipe_in {σ : L2.St} : ∀ {vs : List Nat} {j : Nat}, j ∈ vs → (L2.wipe σ vs)[j]? = if j < σ.length then some none else none
  | i :: r, j, h => by
    show ((L2.wipe σ r).set i none)[j]? = _
    by_cases q : j = i
    · subst q
      by_cases hl : j < σ.length
      · rw [List.getElem?_set_self (by rw [L2.wipe_length]; exact hl), if_pos hl]
      · rw [List.getElem?_eq_none (by rw [List.length_set, L2.wipe_length]; omega), if_neg hl]
    · rw [List.getElem?_set_ne (Ne.symm q)]
      rw [List.mem_cons] at h
      rcases h with h | h
      · exact absurd h q
      · exact lwipe_in h
theorem lwipe_eq {vs : List Nat} (h : ∀ j, j ∉ vs → σ'[j]? = (L2.wipe σ vs)[j]?) (hl : σ'.length = σ.length) : L2.wipe σ' vs = L2.wipe σ vs := by
  apply List.ext_getElem?
  intro j
  by_cases q : j ∈ vs
  · rw [lwipe_in q, lwipe_in q, hl]
  · rw [lwipe_at q, lwipe_at q, h j q, lwipe_at q]
theorem Ext.loose {a : Addr} {u : HO} (x : Ext w H w' H') (h : H a = none) : Ext w H w' (upd H' a u) :=
  ⟨x.F, x.Fn, x.L, x.Ln, x.hd, x.hdn, x.own, x.lk, x.bor, fun b o h1 h2 h3 h4 => by
    rw [upd_ne fun e => by rw [e, h] at h1; cases h1]
    exact x.keep b o h1 h2 h3 h4, fun b hb => upd_dom (x.dom b hb)⟩
theorem Loose.cast {a : Addr} (l : Loose w H a) : Loose w H' a := ⟨l.F, l.L, l.hd, l.own, l.bor⟩
theorem Loose.keep {a : Addr} {o : HO} (l : Loose w H a) (x : Ext w H w' H') (h : H a = some o) : H' a = some o := x.keep a o h l.L l.hd (.inl l.own)
theorem compLoop_nil {b : D → Z → Option Z} {c e : EvT} {own : List Nat} {z : Z} {acc : List D} : compLoop b c e own [] z acc = some (z, acc) := rfl
theorem compLoop_cons {b : D → Z → Option Z} {c e : EvT} {own : List Nat} {z z2 : Z} {acc ds : List D} {x : D} {r : List D} (h : compLoop b c e own (x :: r) z acc = some (z2, ds)) :
    ∃ z1, b x (z.wipe own) = some z1 ∧ ((∃ z3 o z4 o2 d, c z1 = some (z3, o, .bl true) ∧ e z3 = some (z4, o2, d) ∧ acc.length < lim ∧ compLoop b c e own r z4 (acc ++ [d]) = some (z2, ds)) ∨
      ∃ z3 o, c z1 = some (z3, o, .bl false) ∧ compLoop b c e own r z3 acc = some (z2, ds)) := by
  unfold compLoop at h
  split at h
  · rename_i z1 h1
    refine ⟨z1, h1, ?_⟩
    split at h
    · rename_i z3 o h2
      split at h
      · rename_i z4 o2 d h3
        split at h
        · rename_i h4
          exact .inl ⟨z3, o, z4, o2, d, h2, h3, h4, h⟩
        · cases h
      · cases h
    · rename_i z3 o h2
      exact .inr ⟨z3, o, h2, h⟩
    · cases h
  · cases h
theorem comp_of {g : TG} {elt c : EvT} {it : ItT} {own : List Nat} (hg : ∀ i ∈ g.slots, i ∈ own) {Q : VK} (h : tE T (sComp elt (bindT g) it c own) σ H Q) : L2.tLc (tI T it) (gOf T.K g) (tT T c) (tE T elt) own σ H Q := by
  obtain ⟨w, z, z', o, d, s, e, q⟩ := h
  unfold sComp at e
  split at e
  case h_2 => cases e
  case h_1 z1 items bs e1 =>
    split at e
    case h_2 => cases e
    case h_1 z2 ds e2 =>
      cases e
      refine ⟨w, z, z1, items, bs, s, e1, fun J w1 H1 p s1 x1 hp ok D hD => ?_⟩
      have sl : SR T (w1.lock p) σ H1 (bor bs z1) := s1.lock hp
      refine ⟨fun i m H' => m = items.length - i ∧ i ≤ items.length ∧ ∃ w' z' acc accV, SR T w' (L2.wipe σ own) H' (z'.wipe own) ∧ Ext (w1.lock p) H1 w' H' ∧ Loose w' H' D ∧ H' D = some (.lst accV) ∧ Reps T w' H' acc accV ∧
        compLoop (bindT g) c elt own (items.drop i) z' acc = some (z2, ds), ⟨items.length, by simp, Nat.zero_le _, w1.lock p, bor bs z1, [], [], (sl.alloc hD).wipe own, ext_alloc sl.wf hD, (Loose.of sl.wf hD).cast, upd_same, by simp [Reps], e2⟩, ?_⟩
      rintro i m H' ⟨rfl, hi, w', z', acc, accV, s', x', lo, hH, hr, e3⟩
      obtain ⟨stop, step⟩ := ok i w' H' _ _ s' x'
      by_cases hlt : i < items.length
      · right
        have hd0 : items[i]? = some items[i] := by simp [hlt]
        obtain ⟨go, yld⟩ := step _ hd0
        refine ⟨go, fun H2 => ∃ m', m' < items.length - i ∧ (m' = items.length - (i + 1) ∧ i + 1 ≤ items.length ∧ ∃ w' z' acc accV, SR T w' (L2.wipe σ own) H2 (z'.wipe own) ∧ Ext (w1.lock p) H1 w' H2 ∧ Loose w' H2 D ∧ H2 D = some (.lst accV) ∧ Reps T w' H2 acc accV ∧
          compLoop (bindT g) c elt own (items.drop (i + 1)) z' acc = some (z2, ds)), fun _ x => x, fun x H2 y => ?_⟩
        obtain ⟨w2, s2, x2, r2⟩ := yld x H2 y
        rw [List.drop_eq_getElem_cons hlt] at e3
        obtain ⟨za, ea, rest⟩ := compLoop_cons e3
        refine bind_ok g ea s2 r2 fun σ2 s3 k3 l3 => ?_
        have hw : L2.wipe σ2 own = L2.wipe σ own := by
          refine lwipe_eq (fun j hj => k3 j fun hg2 => hj (hg j hg2)) (l3.trans (L2.wipe_length _ _))
        have hw2 : L2.wipe σ2 own = L2.wipe (L2.wipe σ own) own := by
          rw [hw]
          exact (lwipe_eq (fun _ _ => rfl) (L2.wipe_length _ _)).symm
        refine ⟨hw, ?_⟩
        have lo2 : Loose w2 H2 D := lo.ext (by rw [hH]; simp) x2
        have hH2 : H2 D = some (.lst accV) := lo.keep x2 hH
        rcases rest with ⟨zb, o1, zc, o2, d2, ec, ee, hl, e4⟩ | ⟨zb, o1, ec, e4⟩
        · refine ⟨w2, za, zb, o1, true, s3, ec, fun w3 H3 s4 x3 => ?_⟩
          refine L2.iteT ?_
          have lo3 : Loose w3 H3 D := lo2.ext (by rw [hH2]; simp) x3
          have hH3 := lo2.keep x3 hH2
          refine tE.frz s4 ee fun y2 w4 H4 s5 x4 r4 => ?_
          have lo4 : Loose w4 H4 D := lo3.ext (by rw [hH3]; simp) x4
          have hH4 := lo3.keep x4 hH3
          have xx : Ext w' H' w4 H4 := (x2.trans x3).trans x4
          have hr4 : Reps T w4 H4 acc accV := hr.mono (xx.gr s'.wf)
          have s6 : SR T w4 (L2.wipe σ own) (upd H4 D (.lst (accV ++ [y2]))) (zc.wipe own) := by
            have := s5.wipe own
            rw [hw] at this
            exact this.loose lo4
          have g4 : Gr w4 H4 w4 (upd H4 D (.lst (accV ++ [y2]))) := gr_loose lo4
          refine ⟨accV, hH4, by rw [← hr4.length, ← lim_line]; exact hl, items.length - (i + 1), by omega, rfl, hlt, w4, zc, acc ++ [d2], accV ++ [y2], s6, (x'.trans xx).loose hD, lo4.cast, upd_same, (hr4.mono g4).append ?_, e4⟩
          simp only [Reps]
          exact ⟨y2, [], rfl, r4.mono g4, rfl⟩
        · refine ⟨w2, za, zb, o1, false, s3, ec, fun w3 H3 s4 x3 => ?_⟩
          refine L2.iteF ?_
          have lo3 : Loose w3 H3 D := lo2.ext (by rw [hH2]; simp) x3
          have hH3 := lo2.keep x3 hH2
          have xx : Ext w' H' w3 H3 := x2.trans x3
          refine ⟨items.length - (i + 1), by omega, rfl, hlt, w3, zb, acc, accV, ?_, x'.trans xx, lo3, hH3, hr.mono (xx.gr s'.wf), e4⟩
          have := s4.wipe own
          rw [hw] at this
          exact this
      · left
        have he : i = items.length := by omega
        subst he
        refine ⟨stop (Nat.le_refl _), ?_⟩
        rw [List.drop_length] at e3
        cases e3
        have sb : SR T w' σ H' ((z2.wipe own).back z1 own) := s1.back (x'.gr sl.wf |> fun g => (gr_lock.trans g)) s' (fun j hj => lwipe_at hj) (L2.wipe_length _ _)
        obtain ⟨sf, xf⟩ := s1.unlock sb x'
        refine q (.ref D) _ H' sf (x1.trans xf) ⟨D, rfl, ?_, by rw [hH]; simp, lo.F, lo.L, lo.hd, lo.own, accV, hH, hr.mono gr_relk⟩
        cases q0 : H D with
        | none => rfl
        | some u => exact absurd hD (x1.dom D (by rw [q0]; simp))
end
section
variable {T : Tx} {F : Phi} {c : Ctx} {X : Cx}
theorem pe_compE (k : CxOk T F c X) {elt tg iter : Expr} {ifs : List Expr} {scope : Scope} {own : List (Str × Nat)} {pos : PySem.Pos} {it : ItT} {g : TG} {n : Nat} {cd el : EvT} (hb : L2.blkC c.N c.sc scope own = true)
    (hg : tgt (c.blk scope) n tg = some g) (hs : ∀ i ∈ g.slots, i ∈ own.map (·.2)) (hi : PI X tg iter (tI T it)) (hf : ∀ x, PySem.foldedSetIterable iter X.env x = pure x)
    (ht : ∀ X', CxOk T F (c.blk scope) X' → PTs X' ifs (tT T cd)) (he : ∀ X', CxOk T F (c.blk scope) X' → PE X' elt (tE T el)) :
    PE X (.ListComp elt [⟨tg, iter, ifs, 0⟩] scope pos) (tE T (sComp el (bindT g) it cd (own.map (·.2)))) :=
  PE.imp (L2.pe_lc (g := gOf X.K g) k.calm (by rw [k.N]; exact k.nd) hi (L2.blkOk_by (by rw [k.N, k.sc]; exact hb)) (fun s H C cl fp => by
    have := pg_tgt k.blk n tg g hg (X := X.blk s H scope (PySem.compEnvC scope cl C X.env) fp)
    exact this) (fun s H C cl fp => ht _ k.blk) (fun s H C cl fp => he _ k.blk) hf) fun σ H Q h => by
    have := comp_of hs h
    rw [k.K] at this
    exact this
end
end BV

/-! What is walked. -/
namespace BV
open PySem (Str Addr Expr PyData Operator CmpOp cLine Value Shared Around Program World wpAny model Reads ReadsAll bootBuiltins Scope NameKind)
open L2 (V HO Hp upd upd_same upd_ne SqL SqT Cx PE TE VK OpR Dp DpAll Inv Vals RelV PT PW TT PA TA CallR EP Gl MtR PG PGs PI PTs)

theorem PI.imp {X : Cx} {tg e : Expr} {t u : L2.TI} (h : PI X tg e t) (q : ∀ σ H R, u σ H R → t σ H R) : PI X tg e u := ⟨fun pins s σ H R I hw => h.run pins s σ H R I (q σ H R hw)⟩
theorem PI.or {X : Cx} {tg e : Expr} {t u : L2.TI} (h : PI X tg e t) (h' : PI X tg e u) : PI X tg e (fun σ H R => t σ H R ∨ u σ H R) := ⟨fun pins s σ H R I hw => hw.elim (h.run pins s σ H R I) (h'.run pins s σ H R I)⟩
section
variable {T : Tx} {w w' : W} {H H' H0 : Hp} {σ σ' : L2.St} {z : Z} {d : D} {v : V} {oa ob : OpT}
theorem SqL_lst {K : PySem.W.Frag} {a : Addr} {xs ys : List V} (h : H a = some (.lst xs)) (q : SqL K H a ys → ys = xs) : True := trivial
theorem sIt1_is {f : D → Option (List D)} {z z' : Z} {items : List D} {bs : List Nat} (e : sIt1 f oa z = some (z', items, bs)) : ∃ o d, oa z = some (z', o) ∧ o.get z' = some d ∧ f d = some items ∧ bs = slotsOf [o] := by
  unfold sIt1 at e
  split at e
  · rename_i z1 o h1
    split at e
    · rename_i d h2
      obtain ⟨l, h3, h4⟩ := Option.map_eq_some_iff.mp e
      cases h4
      exact ⟨o, d, h1, h2, h3, rfl⟩
    · cases e
  · cases e
theorem slot_in {o : Opd} : ∀ i, o = .slot i → i ∈ slotsOf [o] := fun i e => by subst e; simp [slotsOf]
theorem lst_ref {l : List D} (r : RepU T w H (.lst l) v) : ∃ a xs, v = .ref a ∧ H a = some (.lst xs) ∧ Reps T w H l xs := repU_lst r
/-- an iterator over a thing that stays -/
theorem itok_lst {K : PySem.W.Frag} {p : Addr → Prop} {bs : List Nat} {l : List D} {a : Addr} {xs : List V} (s : SR T w σ H z) (hp : ∀ a, p a → ∃ i ∈ bs, w.own a = some i) (hh : Held (w.lock p) a) (ha : H a = some (.lst xs)) (hr : Reps T w H l xs) :
    ItOk T (w.lock p) H (L2.Itl K a) l := by
  intro i w' H' σ' z' s' x
  have ha' := hh.keep x ha
  have g : Gr w H w' H' := gr_lock.trans (x.gr (s.lock hp).wf)
  have hr' := hr.mono g
  refine ⟨fun hi => ⟨xs, SqL.of ha', by rw [← hr.length]; exact hi⟩, fun d hd => ?_⟩
  obtain ⟨y, hy, ry⟩ := hr'.get hd
  refine ⟨⟨xs, y, SqL.of ha', hy⟩, fun x2 H2 yl => ?_⟩
  obtain ⟨rfl, q⟩ := yl
  have := q xs (SqL.of ha')
  rw [hy] at this
  cases this
  exact ⟨w', s', Ext.refl _ _, ry⟩
theorem itok_tup {K : PySem.W.Frag} {p : Addr → Prop} {bs : List Nat} {l : List D} {a : Addr} {xs : List V} (s : SR T w σ H z) (hp : ∀ a, p a → ∃ i ∈ bs, w.own a = some i) (hh : Held (w.lock p) a) (ha : H a = some (.tup xs)) (hr : Reps T w H l xs) :
    ItOk T (w.lock p) H (L2.Itt K a) l := by
  intro i w' H' σ' z' s' x
  have ha' := hh.keep x ha
  have g : Gr w H w' H' := gr_lock.trans (x.gr (s.lock hp).wf)
  have hr' := hr.mono g
  refine ⟨fun hi => ⟨xs, SqT.of ha', by rw [← hr.length]; exact hi⟩, fun d hd => ?_⟩
  obtain ⟨y, hy, ry⟩ := hr'.get hd
  refine ⟨⟨xs, y, SqT.of ha', hy⟩, fun x2 H2 yl => ?_⟩
  obtain ⟨rfl, q⟩ := yl
  have := q xs (SqT.of ha')
  rw [hy] at this
  cases this
  exact ⟨w', s', Ext.refl _ _, ry⟩
theorem pair_new {i : Nat} {p : Addr} {x y : V} {dx dy : D} {items : List D} (s : SR T w σ H z) (hp : H p = none) (rx : Rep T w H dx x) (ry : Rep T w H dy y) : ∃ w', SR T w' σ (upd H p (.tup [x, y])) z ∧ Ext w H w' (upd H p (.tup [x, y])) ∧ Rep T w' (upd H p (.tup [x, y])) (.tup [dx, dy]) (.ref p) := by
  refine ⟨w.add p, s.allocF hp, ext_allocF s.wf hp, ?_⟩
  simp only [Rep]
  refine ⟨p, _, rfl, .inl rfl, upd_same, ?_⟩
  simp only [Reps]
  have g := gr_allocF (o := .tup [x, y]) s.wf hp
  exact ⟨x, [y], rfl, rx.mono g, y, [], rfl, ry.mono g, rfl⟩
theorem itok_enum {K : PySem.W.Frag} {p : Addr → Prop} {bs : List Nat} {l : List D} {a : Addr} {xs : List V} (s : SR T w σ H z) (hp : ∀ a, p a → ∃ i ∈ bs, w.own a = some i) (hh : Held (w.lock p) a) (ha : H a = some (.lst xs)) (hr : Reps T w H l xs) :
    ItOk T (w.lock p) H (L2.Ite K a) (enumL l) := by
  intro i w' H' σ' z' s' x
  have ha' := hh.keep x ha
  have g : Gr w H w' H' := gr_lock.trans (x.gr (s.lock hp).wf)
  have hr' := hr.mono g
  have el : (enumL l).length = l.length := by simp [enumL]
  refine ⟨fun hi => ⟨xs, SqL.of ha', by rw [← hr.length, ← el]; exact hi⟩, fun d hd => ?_⟩
  have hd2 : ∃ d0, l[i]? = some d0 ∧ d = .tup [.int i, d0] := by
    unfold enumL at hd
    rw [List.getElem?_map] at hd
    obtain ⟨q, h1, h2⟩ := Option.map_eq_some_iff.mp hd
    rw [List.getElem?_zipIdx] at h1
    obtain ⟨d0, h3, h4⟩ := Option.map_eq_some_iff.mp h1
    subst h4
    refine ⟨d0, h3, ?_⟩
    rw [← h2]
    simp
  obtain ⟨d0, hd0, rfl⟩ := hd2
  obtain ⟨y, hy, ry⟩ := hr'.get hd0
  refine ⟨⟨xs, y, SqL.of ha', hy⟩, fun x2 H2 yl => ?_⟩
  obtain ⟨t, y2, rfl, ht, rfl, q⟩ := yl
  have := q xs (SqL.of ha')
  rw [hy] at this
  cases this
  exact pair_new (i := i) (items := []) s' ht rep_int ry
theorem zipL_get {a b : List D} {i : Nat} {d : D} (h : (zipL a b)[i]? = some d) : ∃ x y, a[i]? = some x ∧ b[i]? = some y ∧ d = .tup [x, y] := by
  unfold zipL at h
  rw [List.getElem?_zipWith] at h
  cases ea : a[i]? with
  | none => rw [ea] at h; cases h
  | some x =>
    cases eb : b[i]? with
    | none => rw [ea, eb] at h; cases h
    | some y =>
      rw [ea, eb] at h
      cases h
      exact ⟨x, y, rfl, rfl, rfl⟩
theorem itok_zipL {K : PySem.W.Frag} {p : Addr → Prop} {bs : List Nat} {l k : List D} {a b : Addr} {xs ys : List V} (s : SR T w σ H z) (hp : ∀ a, p a → ∃ i ∈ bs, w.own a = some i) (hh : Held (w.lock p) a) (ha : H a = some (.lst xs)) (hr : Reps T w H l xs)
    (hh2 : Held (w.lock p) b) (hb : H b = some (.lst ys)) (hk : Reps T w H k ys) : ItOk T (w.lock p) H (L2.Itz K a b) (zipL l k) := by
  intro i w' H' σ' z' s' x
  have ha' := hh.keep x ha
  have hb' := hh2.keep x hb
  have g : Gr w H w' H' := gr_lock.trans (x.gr (s.lock hp).wf)
  have hr' := hr.mono g
  have hk' := hk.mono g
  have el : (zipL l k).length = min l.length k.length := by simp [zipL]
  refine ⟨fun hi => ⟨xs, ys, SqL.of ha', SqL.of hb', by rw [← hr.length, ← hk.length]; omega⟩, fun d hd => ?_⟩
  obtain ⟨dx, dy, h1, h2, rfl⟩ := zipL_get hd
  obtain ⟨y, hy, ry⟩ := hr'.get h1
  obtain ⟨u, hu, ru⟩ := hk'.get h2
  refine ⟨⟨xs, ys, y, u, SqL.of ha', SqL.of hb', hy, hu⟩, fun x2 H2 yl => ?_⟩
  obtain ⟨t, y2, u2, rfl, ht, rfl, q, q2⟩ := yl
  have e1 := q xs (SqL.of ha')
  have e2 := q2 ys (SqL.of hb')
  rw [hy] at e1
  rw [hu] at e2
  cases e1
  cases e2
  exact pair_new (i := i) (items := []) s' ht ry ru
theorem itok_zipT {K : PySem.W.Frag} {p : Addr → Prop} {bs : List Nat} {l k : List D} {a b : Addr} {xs ys : List V} (s : SR T w σ H z) (hp : ∀ a, p a → ∃ i ∈ bs, w.own a = some i) (hh : Held (w.lock p) a) (ha : H a = some (.tup xs)) (hr : Reps T w H l xs)
    (hh2 : Held (w.lock p) b) (hb : H b = some (.tup ys)) (hk : Reps T w H k ys) : ItOk T (w.lock p) H (RZ.ItzT K a b) (zipL l k) := by
  intro i w' H' σ' z' s' x
  have ha' := hh.keep x ha
  have hb' := hh2.keep x hb
  have g : Gr w H w' H' := gr_lock.trans (x.gr (s.lock hp).wf)
  have hr' := hr.mono g
  have hk' := hk.mono g
  have el : (zipL l k).length = min l.length k.length := by simp [zipL]
  refine ⟨fun hi => ⟨xs, ys, SqT.of ha', SqT.of hb', by rw [← hr.length, ← hk.length]; omega⟩, fun d hd => ?_⟩
  obtain ⟨dx, dy, h1, h2, rfl⟩ := zipL_get hd
  obtain ⟨y, hy, ry⟩ := hr'.get h1
  obtain ⟨u, hu, ru⟩ := hk'.get h2
  refine ⟨⟨xs, ys, y, u, SqT.of ha', SqT.of hb', hy, hu⟩, fun x2 H2 yl => ?_⟩
  obtain ⟨t, y2, u2, rfl, ht, rfl, q, q2⟩ := yl
  have e1 := q xs (SqT.of ha')
  have e2 := q2 ys (SqT.of hb')
  rw [hy] at e1
  rw [hu] at e2
  cases e1
  cases e2
  exact pair_new (i := i) (items := []) s' ht ry ru
theorem itok_rng {lo : Int} {n : Nat} {items : List D} {p : Addr → Prop} (hi : items = (List.range n).map fun i => .int (lo + (i : Nat))) : ItOk T (w.lock p) H (L2.Itr lo n) items := by
  subst hi
  intro i w' H' σ' z' s' x
  refine ⟨fun hi => (show n ≤ i by simpa using hi), fun d hd => ?_⟩
  rw [List.getElem?_map] at hd
  obtain ⟨j, h1, h2⟩ := Option.map_eq_some_iff.mp hd
  obtain ⟨hj, e⟩ := List.getElem?_eq_some_iff.mp h1
  simp only [List.getElem_range] at e
  subst e h2
  refine ⟨(show i < n by simpa using hj), fun x2 H2 yl => ?_⟩
  obtain ⟨rfl, rfl⟩ := yl
  exact ⟨w', s', Ext.refl _ _, rep_int⟩
end
section
variable {X : Cx} {T : Tx} {tg e e1 e2 : Expr} {elts : List Expr} {kk : Nat} {p pos tpos : PySem.Pos} {oa ob : OpT} {a b : EvT}
theorem pi_seqE (hK : T.K = X.K) (h : PE X e (tO T oa)) : PI X tg e (tI T (sIt1 itSeq oa)) := by
  refine PI.imp (PI.or (L2.pi_list h) (L2.pi_tup h)) ?_
  rintro σ H R ⟨w, z, z', items, bs, s, ee, q⟩
  obtain ⟨o, d, h1, h2, h3, rfl⟩ := sIt1_is ee
  cases d <;> simp only [itSeq, reduceCtorEq, Option.some.injEq] at h3
  · subst h3
    refine .inr ⟨w, z, z', o, s, h1, fun x w1 H1 s1 x1 r1 => ?_⟩
    obtain ⟨a, xs, rfl, ha, hr⟩ := repU_tup (r1.use s1 h2)
    have hh := Held.opd s1 r1 h2 rfl (slot_in (o := o))
    exact ⟨a, rfl, ⟨xs, SqT.of ha⟩, q _ w1 H1 _ s1 x1 lockP_ok (itok_tup s1 lockP_ok hh ha hr)⟩
  · subst h3
    refine .inl ⟨w, z, z', o, s, h1, fun x w1 H1 s1 x1 r1 => ?_⟩
    obtain ⟨a, xs, rfl, ha, hr⟩ := repU_lst (r1.use s1 h2)
    have hh := Held.opd s1 r1 h2 rfl (slot_in (o := o))
    exact ⟨a, rfl, ⟨xs, SqL.of ha⟩, q _ w1 H1 _ s1 x1 lockP_ok (itok_lst s1 lockP_ok hh ha hr)⟩
theorem pi_enumE (hK : T.K = X.K) (hg : Gl X "enumerate") (hm : X.mg "enumerate" = none) (hs : notStar e = true) (h : PE X e (tO T oa)) : PI X (.Tuple elts kk tpos) (.Call (.Name "enumerate" p) [e] [] pos) (tI T (sIt1 itEnum oa)) := by
  refine PI.imp (L2.pi_enum hg hm (L2.pa_cons h L2.pa_nil (star_no hs)) (star_no hs)) ?_
  rintro σ H R ⟨w, z, z', items, bs, s, ee, q⟩
  obtain ⟨o, d, h1, h2, h3, rfl⟩ := sIt1_is ee
  cases d <;> simp only [itEnum, reduceCtorEq, Option.some.injEq] at h3
  subst h3
  refine ⟨w, z, z', o, s, h1, fun x w1 H1 s1 x1 r1 => ?_⟩
  obtain ⟨a, xs, rfl, ha, hr⟩ := repU_lst (r1.use s1 h2)
  have hh := Held.opd s1 r1 h2 rfl (slot_in (o := o))
  exact ⟨a, xs, rfl, SqL.of ha, q _ w1 H1 _ s1 x1 lockP_ok (itok_enum s1 lockP_ok hh ha hr)⟩
theorem rngOk_is {i j : Int} (h : rngOk i j = true) : -(2 ^ 62) ≤ i ∧ i < 2 ^ 62 ∧ -(2 ^ 62) ≤ j ∧ j < 2 ^ 62 := by
  unfold rngOk at h
  simp only [Bool.and_eq_true, decide_eq_true_eq] at h
  exact ⟨h.1.1.1.1, h.1.1.1.2, h.1.1.2, h.1.2⟩
theorem pi_rng1E (hg : Gl X "range") (hm : X.mg "range" = none) (hs : notStar e = true) (h : PE X e (tE T a)) : PI X tg (.Call (.Name "range" p) [e] [] pos) (tI T (sRng1 a)) := by
  refine PI.imp (L2.pi_range1 hg hm (L2.pa_cons h L2.pa_nil (star_no hs)) (star_no hs)) ?_
  rintro σ H R ⟨w, z, z', items, bs, s, ee, q⟩
  unfold sRng1 at ee
  split at ee
  · rename_i z1 o j h1
    split at ee
    · rename_i hr
      cases ee
      obtain ⟨r1, r2, r3, r4⟩ := rngOk_is hr
      refine tE.frz s h1 fun v w1 H1 s1 x1 rv => ?_
      simp only [Rep] at rv
      subst rv
      refine ⟨j, rfl, r3, r4, q _ w1 H1 (fun _ => False) s1 x1 (fun _ h => h.elim) (itok_rng ?_)⟩
      unfold rngL
      rw [show j - 0 = j by omega]
    · cases ee
  · cases ee
theorem pi_rng2E (hg : Gl X "range") (hm : X.mg "range" = none) (hs : notStar e1 = true) (hs2 : notStar e2 = true) (h : PE X e1 (tE T a)) (h2 : PE X e2 (tE T b)) : PI X tg (.Call (.Name "range" p) [e1, e2] [] pos) (tI T (sRng2 a b)) := by
  refine PI.imp (L2.pi_range2 hg hm (L2.pa_cons h (L2.pa_cons h2 L2.pa_nil (star_no hs2)) (star_no hs)) (by rw [star_no hs, star_no hs2]; rfl) (star_no hs2)) ?_
  rintro σ H R ⟨w, z, z', items, bs, s, ee, q⟩
  unfold sRng2 at ee
  split at ee
  · rename_i z1 o i h1
    split at ee
    · rename_i z2 o2 j h2
      split at ee
      · rename_i hr
        cases ee
        obtain ⟨r1, r2, r3, r4⟩ := rngOk_is hr
        refine tE.frz s h1 fun v w1 H1 s1 x1 rv => ?_
        simp only [Rep] at rv
        subst rv
        refine tE.frz s1 h2 fun v w2 H2 s2 x2 rv => ?_
        simp only [Rep] at rv
        subst rv
        exact ⟨i, j, rfl, ⟨r1, r2, r3, r4⟩, q _ w2 H2 (fun _ => False) s2 (x1.trans x2) (fun _ h => h.elim) (itok_rng rfl)⟩
      · cases ee
    · cases ee
  · cases ee
theorem pi_zipE (hK : T.K = X.K) (hg : Gl X "zip") (hm : X.mg "zip" = none) (hs : notStar e1 = true) (hs2 : notStar e2 = true) (h : PE X e1 (tO T oa)) (h2 : PE X e2 (tO T ob)) : PI X (.Tuple elts kk tpos) (.Call (.Name "zip" p) [e1, e2] [] pos) (tI T (sIt2 itZip oa ob)) := by
  refine PI.imp (RZ.pi_zipA hg hm (L2.pa_cons h (L2.pa_cons h2 L2.pa_nil (star_no hs2)) (star_no hs)) (star_no hs) (by rw [star_no hs2]; rfl)) ?_
  rintro σ H R ⟨w, z, z', items, bs, s, ee, q⟩
  unfold sIt2 at ee
  split at ee
  case h_2 => cases ee
  case h_1 z1 o1 h1 =>
    split at ee
    case h_2 => cases ee
    case h_1 z2 o2 h2 =>
      split at ee
      · rename_i da db ga gb
        obtain ⟨l, h3, h4⟩ := Option.map_eq_some_iff.mp ee
        cases h4
        refine ⟨w, z, z1, o1, s, h1, fun x w1 H1 s1 x1 r1 => ⟨w1, z1, _, o2, s1, h2, fun y w2 H2 s2 x2 r2 => ?_⟩⟩
        have r1' := r1.mono (x2.gr s1.wf)
        have hin1 : ∀ i, o1 = .slot i → i ∈ slotsOf [o1, o2] := fun i e => by subst e; simp [slotsOf]
        have hin2 : ∀ i, o2 = .slot i → i ∈ slotsOf [o1, o2] := fun i e => by subst e; cases o1 <;> simp [slotsOf]
        cases da <;> cases db <;> simp only [itZip, reduceCtorEq, Option.some.injEq] at h3
        · subst h3
          obtain ⟨a, xs, rfl, ha, hr⟩ := repU_tup (r1'.use s2 ga)
          obtain ⟨b, ys, rfl, hb, hk⟩ := repU_tup (r2.use s2 gb)
          exact ⟨a, b, xs, ys, rfl, .inr ⟨SqT.of ha, SqT.of hb, q _ w2 H2 _ s2 (x1.trans x2) lockP_ok (itok_zipT s2 lockP_ok (Held.opd s2 r1' ga rfl hin1) ha hr (Held.opd s2 r2 gb rfl hin2) hb hk)⟩⟩
        · subst h3
          obtain ⟨a, xs, rfl, ha, hr⟩ := repU_lst (r1'.use s2 ga)
          obtain ⟨b, ys, rfl, hb, hk⟩ := repU_lst (r2.use s2 gb)
          exact ⟨a, b, xs, ys, rfl, .inl ⟨SqL.of ha, SqL.of hb, q _ w2 H2 _ s2 (x1.trans x2) lockP_ok (itok_zipL s2 lockP_ok (Held.opd s2 r1' ga rfl hin1) ha hr (Held.opd s2 r2 gb rfl hin2) hb hk)⟩⟩
      · cases ee
end
end BV

/-! Statements: readings, stores. -/
namespace BV
open PySem (Str Addr Expr Stmt PyData Operator CmpOp cLine Value Shared Around Program World wpAny model Reads ReadsAll bootBuiltins Scope NameKind)
open L2 (V HO Hp upd upd_same upd_ne SqL SqT Cx PE TE VK OpR Dp DpAll Inv Vals RelV PT PW TT PA TA CallR EP Gl MtR PG PGs PI PTs PS PSs TS Ends)

/-- what a def hands back -/
def RetR (T : Tx) (w : W) (H : Hp) (w0 : W) (H0 : Hp) (o : Bool) (d : D) (v : V) : Prop :=
  match o with
  | false => Rep T w H d v
  | true => ∃ a, v = .ref a ∧ (H0 a = none ∨ ∃ i, w0.own a = some i) ∧ H a ≠ none ∧ ¬ w.F a ∧ w.L a = none ∧ w.hd ≠ some a ∧ ¬ w.bor a ∧ Top T w H d a
def OutOk (T : Tx) (w : W) (H : Hp) (σ : L2.St) (D : Ends) : Out → Prop
  | .nx z' => ∀ σ' w' H', SR T w' σ' H' z' → Ext w H w' H' → D.nx σ' H'
  | .bk z' => ∀ σ' w' H', SR T w' σ' H' z' → Ext w H w' H' → D.bk σ' H'
  | .ct z' => ∀ σ' w' H', SR T w' σ' H' z' → Ext w H w' H' → D.ct σ' H'
  | .rt h o d => ∀ v w' H', Wf T w' H' h → Ext w H w' H' → RetR T w' H' w H o d v → D.rt v H'
/-- a statement that does f -/
def tX (T : Tx) (f : ExT) : TS := fun D σ H => ∃ w z o, SR T w σ H z ∧ f z = some o ∧ OutOk T w H σ D o
theorem PS.imp {X : Cx} {e : Stmt} {t u : TS} (h : PS X e t) (q : ∀ D σ H, u D σ H → t D σ H) : PS X e u := ⟨fun pins s σ H D I hw => h.run pins s σ H D I (q D σ H hw)⟩
theorem PSs.imp {X : Cx} {e : List Stmt} {t u : TS} (h : PSs X e t) (q : ∀ D σ H, u D σ H → t D σ H) : PSs X e u := ⟨fun pins s σ H D I hw => h.run pins s σ H D I (q D σ H hw)⟩
theorem PS.or {X : Cx} {e : Stmt} {t u : TS} (h : PS X e t) (h' : PS X e u) : PS X e (fun D σ H => t D σ H ∨ u D σ H) := ⟨fun pins s σ H D I hw => hw.elim (h.run pins s σ H D I) (h'.run pins s σ H D I)⟩
section
variable {T : Tx} {w w' w0 : W} {H H' H0 H1 : Hp} {σ σ' : L2.St} {z : Z} {d : D} {v : V} {o : Bool}
theorem RetR.back {w1 : W} (x : Ext w0 H0 w1 H1) (r : RetR T w H w1 H1 o d v) : RetR T w H w0 H0 o d v := by
  cases o with
  | false => exact r
  | true =>
    obtain ⟨a, e, h, rest⟩ := r
    refine ⟨a, e, ?_, rest⟩
    rcases h with h | ⟨i, h⟩
    · left
      cases q : H0 a with
      | none => rfl
      | some u => exact absurd h (x.dom a (by rw [q]; simp))
    · rcases x.own a i h with q | q
      · exact .inr ⟨i, q⟩
      · exact .inl q
theorem OutOk.back {σ0 : L2.St} {D : Ends} {out : Out} (x : Ext w0 H0 w H) (q : OutOk T w0 H0 σ0 D out) : OutOk T w H σ D out := by
  cases out with
  | nx z' => exact fun σ' w' H' s e => q σ' w' H' s (x.trans e)
  | bk z' => exact fun σ' w' H' s e => q σ' w' H' s (x.trans e)
  | ct z' => exact fun σ' w' H' s e => q σ' w' H' s (x.trans e)
  | rt h o d => exact fun v w' H' s e r => q v w' H' s (x.trans e) (r.back x)
theorem RepR.ret {h : Option (List D)} (f : ∀ b, w0.bor b → H0 b ≠ none) (x : Ext w0 H0 w H) (r : RepR T w H H0 o d v) : RetR T w H w0 H0 o d v := by
  cases o with
  | false => exact r
  | true =>
    obtain ⟨a, e, h0, h1, h2, h3, h4, h5, t⟩ := r
    refine ⟨a, e, .inl h0, h1, h2, h3, h4, fun hb => ?_, t⟩
    rw [x.bor] at hb
    exact f a hb h0
/-! ### stores -/
/-- values, each for good or new, the new ones unlike -/
def RepRs (T : Tx) (w : W) (H H0 : Hp) : List (Bool × D) → List V → Prop
  | [], vs => vs = []
  | (o, d) :: r, vs => ∃ v vs', vs = v :: vs' ∧ RepR T w H H0 o d v ∧ (o = true → ∀ p ∈ r.zip vs', p.1.1 = true → p.2 ≠ v) ∧ RepRs T w H H0 r vs'
theorem RepRs.length : ∀ {ds : List (Bool × D)} {vs : List V}, RepRs T w H H0 ds vs → ds.length = vs.length
  | [], _, h => by cases h; rfl
  | (o, d) :: r, _, h => by
    obtain ⟨v, vs', rfl, _, _, h2⟩ := h
    simp [RepRs.length h2]
theorem RepR.keep {h : Option (List D)} (f : Wf T w H h) (fb : ∀ b, w0.bor b → H0 b ≠ none) (x0 : Ext w0 H0 w H) (x : Ext w H w' H') (r : RepR T w H H0 o d v) : RepR T w' H' H0 o d v := by
  cases o with
  | false => exact Rep.mono (x.gr f) (show Rep T w H d v from r)
  | true =>
    obtain ⟨a, e, h0, h1, h2, h3, h4, h5, t⟩ := r
    have lo : Loose w H a := ⟨h2, h3, h4, h5, fun hb => by
      rw [x0.bor] at hb
      exact fb a hb h0⟩
    have lo' := lo.ext h1 x
    have ha : H' a = H a := by
      cases q : H a with
      | none => exact absurd q h1
      | some u => exact lo.keep x q
    exact ⟨a, e, h0, by rw [ha]; exact h1, lo'.F, lo'.L, lo'.hd, lo'.own, t.mono (x.gr f) ha⟩
/-- values from the left, as they come -/
def tR (T : Tx) (f : Z → Option (Z × List (Bool × D))) : TA := fun σ H Q => ∃ w z z' ds, SR T w σ H z ∧ f z = some (z', ds) ∧ ∀ vs w' H', SR T w' σ H' z' → Ext w H w' H' → RepRs T w' H' H ds vs → Q vs H'
theorem RepRs.back : ∀ {ds : List (Bool × D)} {vs : List V}, (∀ a, H1 a = none → H0 a = none) → RepRs T w H H1 ds vs → RepRs T w H H0 ds vs
  | [], _, _, h => h
  | (o, d) :: r, _, k, h => by
    obtain ⟨v, vs', e, h1, h2, h3⟩ := h
    refine ⟨v, vs', e, ?_, h2, RepRs.back k h3⟩
    cases o with
    | false => exact h1
    | true =>
      obtain ⟨a, e1, e2, rest⟩ := h1
      exact ⟨a, e1, k a e2, rest⟩
theorem RepRs.fresh : ∀ {ds : List (Bool × D)} {vs : List V}, RepRs T w H H0 ds vs → ∀ p ∈ ds.zip vs, p.1.1 = true → ∃ a, p.2 = .ref a ∧ H0 a = none
  | [], _, h, p, hp, _ => by simp at hp
  | (o, d) :: r, _, h, p, hp, ho => by
    obtain ⟨v, vs', rfl, h1, h2, h3⟩ := h
    rw [List.zip_cons_cons, List.mem_cons] at hp
    rcases hp with rfl | hp
    · have ho : o = true := ho
      subst ho
      obtain ⟨a, e1, e2, _⟩ := h1
      exact ⟨a, e1, e2⟩
    · exact h3.fresh p hp ho
theorem RepRs.mono_step {a : Addr} {i : Nat} : ∀ {ds : List (Bool × D)} {vs : List V}, (∀ p ∈ ds.zip vs, p.1.1 = true → p.2 ≠ .ref a) → RepRs T w H H0 ds vs → RepRs T (w.give a i) H H0 ds vs
  | [], _, _, h => h
  | (o, d) :: r, _, k, h => by
    obtain ⟨v, vs', rfl, h1, h2, h3⟩ := h
    refine ⟨v, vs', rfl, ?_, h2, RepRs.mono_step (fun p hp => k p (by rw [List.zip_cons_cons]; exact List.mem_cons_of_mem _ hp)) h3⟩
    cases o with
    | false => exact Rep.mono gr_give (show Rep T w H d v from h1)
    | true =>
      obtain ⟨b, e1, e2, e3, e4, e5, e6, e7, t⟩ := h1
      have nb : b ≠ a := fun e => k ((true, d), v) (by rw [List.zip_cons_cons]; exact List.mem_cons_self) rfl (by rw [e1, e])
      exact ⟨b, e1, e2, e3, e4, e5, e6, by show (if b = a then some i else w.own b) = none; rw [if_neg nb]; exact e7, t.mono gr_give rfl⟩
theorem RepRs.mono_add {a : Addr} : ∀ {ds : List (Bool × D)} {vs : List V}, (∀ p ∈ ds.zip vs, p.1.1 = true → p.2 ≠ .ref a) → RepRs T w H H0 ds vs → RepRs T (w.add a) H H0 ds vs
  | [], _, _, h => h
  | (o, d) :: r, _, k, h => by
    obtain ⟨v, vs', rfl, h1, h2, h3⟩ := h
    refine ⟨v, vs', rfl, ?_, h2, RepRs.mono_add (fun p hp => k p (by rw [List.zip_cons_cons]; exact List.mem_cons_of_mem _ hp)) h3⟩
    cases o with
    | false => exact Rep.mono gr_add (show Rep T w H d v from h1)
    | true =>
      obtain ⟨b, e1, e2, e3, e4, e5, e6, e7, t⟩ := h1
      have nb : b ≠ a := fun e => k ((true, d), v) (by rw [List.zip_cons_cons]; exact List.mem_cons_self) rfl (by rw [e1, e])
      exact ⟨b, e1, e2, e3, fun hF => by
        rcases hF with hF | hF
        · exact nb hF
        · exact e4 hF, e5, e6, e7, t.mono gr_add rfl⟩
/-- a value stored -/
theorem setSlot_ok {z' : Z} {i : Nat} {m : Bool} {ds : List (Bool × D)} {vs : List V} (fl : ∀ b, w0.lk b → H0 b ≠ none) (fb : ∀ b, w0.bor b → H0 b ≠ none) (s : SR T w σ H z) (x : Ext w0 H0 w H) (r : RepRs T w H H0 ((o, d) :: ds) (v :: vs)) (e : setSlot z i m o d = some z') :
    ∃ w2, SR T w2 (σ.set i (some v)) H z' ∧ Ext w0 H0 w2 H ∧ RepRs T w2 H H0 ds vs := by
  unfold setSlot at e
  split at e
  · rename_i hi
    cases e
    obtain ⟨v', vs', e, h1, h2, h3⟩ := r
    cases e
    cases o with
    | false =>
      rw [Bool.and_false, if_neg Bool.false_ne_true]
      exact ⟨w, s.put hi h1, x, h3⟩
    | true =>
      obtain ⟨a, rfl, e2, e3, e4, e5, e6, e7, t⟩ := h1
      have ne : ∀ p ∈ ds.zip vs, p.1.1 = true → p.2 ≠ .ref a := h2 rfl
      cases m with
      | true =>
        obtain ⟨s2, x2⟩ := SR.putOwn fl fb s x hi e2 e3 e4 e5 e6 e7 t
        exact ⟨_, s2, x2, h3.mono_step ne⟩
      | false =>
        rw [Bool.false_and, if_neg Bool.false_ne_true]
        have sa := s.add e3 e5 e7 e6
        have ra : Rep T (w.add a) H d (.ref a) := (t.mono gr_add rfl).rep (.inl rfl)
        refine ⟨w.add a, sa.put hi ra, ⟨fun b q => .inr (x.F b q), fun b q => ?_, x.L, x.Ln, x.hd, x.hdn, x.own, x.lk, x.bor, x.keep, x.dom⟩, h3.mono_add ne⟩
        rcases q with q | q
        · subst q; exact .inr (.inl e2)
        · exact x.Fn b q
  · cases e
/-- a row of values stored -/
def sets : List (Nat × Bool) → List V → L2.St → L2.St
  | (i, _) :: r, v :: vs, σ => sets r vs (σ.set i (some v))
  | _, _, σ => σ
theorem setAll_ok (fl : ∀ b, w0.lk b → H0 b ≠ none) (fb : ∀ b, w0.bor b → H0 b ≠ none) : ∀ {l : List (Nat × Bool)} {ds : List (Bool × D)} {vs : List V} {w : W} {σ : L2.St} {z z' : Z}, SR T w σ H z → Ext w0 H0 w H → RepRs T w H H0 ds vs → setAll l ds z = some z' →
    ∃ w2, SR T w2 (sets l vs σ) H z' ∧ Ext w0 H0 w2 H
  | [], [], vs, w, σ, z, z', s, x, r, e => by
    cases e
    cases r
    exact ⟨w, s, x⟩
  | [], _ :: _, _, _, _, _, _, _, _, _, e => by cases e
  | _ :: _, [], _, _, _, _, _, _, _, _, e => by cases e
  | (i, m) :: l, (o, d) :: ds, vs, w, σ, z, z', s, x, r, e => by
    unfold setAll at e
    split at e
    · rename_i z1 e1
      obtain ⟨v, vs', rfl, _⟩ := id r
      obtain ⟨w2, s2, x2, r2⟩ := setSlot_ok fl fb s x r e1
      have q := setAll_ok fl fb s2 x2 r2 e
      exact q
    · cases e
theorem SR.fl (s : SR T w σ H z) : (∀ b, w.lk b → H b ≠ none) ∧ ∀ b, w.bor b → H b ≠ none := ⟨s.wf.lkd, fun b hb => (s.wf.bor b hb).2.2.2⟩
end
section
variable {X : Cx} {T : Tx} {e : Expr} {es : List Expr} {a : EvT} {pos : PySem.Pos}
/-- the hand, laid -/
theorem hand_ok {w : W} {H H0 : Hp} {σ : L2.St} {z0 z : Z} {w0 : W} {i : Nat} {l : List D} {p : Addr} (fl : ∀ b, w0.lk b → H0 b ≠ none) (fb : ∀ b, w0.bor b → H0 b ≠ none) (s : SR T w σ H z) (x : Ext w0 H0 w H) (hz : z.h = none) (hi : i < z.g.length) (r : RepR T w H H0 true (.lst l) (.ref p)) :
    ∃ w2, SR T w2 (σ.set i (some (.ref p))) H { z with g := z.g.set i (some (.frz, .hand)), h := some l } ∧ Ext w0 H0 w2 H := by
  obtain ⟨a, e, h0, h1, h2, h3, h4, h5, xs, hx, hr⟩ := r
  cases e
  have hn : w.hd = none := by
    have q := s.wf.hand
    rw [hz] at q
    cases e : w.hd with
    | none => rfl
    | some b => rw [e] at q; exact q.elim
  let w2 : W := { w with hd := some p }
  have g : Gr w H w2 H := ⟨fun _ x => ⟨x, rfl⟩, fun _ _ x => x, fun a x => by rw [hn] at x; cases x⟩
  have s1 : SR T w2 σ H { z with h := some l } := by
    refine ⟨⟨fun b hb => ?_, fun b hb => ?_, fun b j hb => ?_, fun k ls q => ?_, ⟨xs, hx, hr.mono g⟩, s.wf.lkd, fun b hb => ?_⟩, s.len, fun j d e => ?_, fun j d e => ?_, fun j d e => ?_, s.lk⟩
    · obtain ⟨q1, q2, q3, q4⟩ := s.wf.exF b hb
      exact ⟨q1, q2, q3, fun e => h2 (by cases e; exact hb)⟩
    · exact ⟨(s.wf.exL b hb).1, fun e => hb (by cases e; exact h3)⟩
    · exact ⟨(s.wf.exO b j hb).1, fun e => by cases e; have hb : w.own p = some j := hb; rw [h5] at hb; cases hb⟩
    · rcases s.wf.cache k ls q with c | ⟨e2, c1, c2, c3⟩
      · exact .inl c
      · exact .inr ⟨e2, c1, c2, c3⟩
    · obtain ⟨b1, b2, b3, b4⟩ := s.wf.bor b hb
      refine ⟨b1, fun e => ?_, b3, b4⟩
      cases e
      have hb : w.bor p := hb
      rw [x.bor] at hb
      exact fb p hb h0
    · obtain ⟨v, e1, r⟩ := s.frz j d e
      exact ⟨v, e1, r.mono g⟩
    · obtain ⟨b, e1, e2, r⟩ := s.own j d e
      exact ⟨b, e1, e2, r.mono g rfl⟩
    · obtain ⟨b, e1, e2, r⟩ := s.bor j d e
      exact ⟨b, e1, e2, r.mono g rfl⟩
  have rp : Rep T w2 H .hand (.ref p) := by simp only [Rep]; exact ⟨p, rfl, rfl⟩
  refine ⟨w2, s1.put hi rp, ⟨x.F, x.Fn, x.L, x.Ln, fun b hb => ?_, fun b hb => ?_, x.own, x.lk, x.bor, x.keep, x.dom⟩⟩
  · have := x.hd b hb
    rw [hn] at this
    cases this
  · cases hb
    exact .inr h0
/-- name = value, whatever the way -/
theorem asg_of {i : Nat} {m : Bool} {D : Ends} {σ : L2.St} {H : Hp} (h : tX T (xSet i m a) D σ H) : L2.tAsg (tE T a) (L2.gName i) D σ H := by
  obtain ⟨w, z, o, s, ee, q⟩ := h
  unfold xSet at ee
  split at ee
  · rename_i z1 o1 d e1
    obtain ⟨z2, h1, h2⟩ := Option.map_eq_some_iff.mp ee
    subst h2
    refine ⟨w, z, z1, o1, d, s, e1, fun v w1 H1 s1 x1 r1 => ?_⟩
    obtain ⟨w2, s2, x2, _⟩ := setSlot_ok (ds := []) (vs := []) s.fl.1 s.fl.2 s1 x1 ⟨v, [], rfl, r1, fun _ p hp => by simp at hp, rfl⟩ h1
    exact q _ w2 H1 s2 x2
  · cases ee
theorem asgH_of {i : Nat} {D : Ends} {σ : L2.St} {H : Hp} (h : tX T (xSetH i a) D σ H) : L2.tAsg (tE T a) (L2.gName i) D σ H := by
  obtain ⟨w, z, o, s, ee, q⟩ := h
  unfold xSetH at ee
  split at ee
  · rename_i z1 l e1
    split at ee
    · rename_i hz
      split at ee
      · rename_i hi
        cases ee
        refine ⟨w, z, z1, true, .lst l, s, e1, fun v w1 H1 s1 x1 r1 => ?_⟩
        obtain ⟨p, rfl, _⟩ := id r1
        obtain ⟨w2, s2, x2⟩ := hand_ok (z0 := z) s.fl.1 s.fl.2 s1 x1 hz hi r1
        exact q _ w2 H1 s2 x2
      · cases ee
    · cases ee
  · cases ee
theorem raise_of {st : Stmt} : PS X st (tX T fun _ => none) := ⟨fun _ _ _ _ _ _ ⟨_, _, _, _, e, _⟩ => by cases e⟩
theorem seq_of {f g : ExT} {D : Ends} {σ : L2.St} {H : Hp} (h : tX T (xSeq f g) D σ H) : L2.tSeq (tX T f) (tX T g) D σ H := by
  obtain ⟨w, z, o, s, ee, q⟩ := h
  unfold xSeq at ee
  split at ee
  · rename_i z1 e1
    exact ⟨w, z, .nx z1, s, e1, fun σ' w' H' s' x => ⟨w', z1, o, s', ee, q.back x⟩⟩
  · rename_i o1 hn
    refine ⟨w, z, o, s, ee, ?_⟩
    cases o with
    | nx z' => exact absurd ee (hn z')
    | bk z' => exact q
    | ct z' => exact q
    | rt h o d => exact q
theorem next_of {D : Ends} {σ : L2.St} {H : Hp} (h : tX T (fun z => some (.nx z)) D σ H) : D.nx σ H := by
  obtain ⟨w, z, o, s, ee, q⟩ := h
  cases ee
  exact q σ w H s (Ext.refl w H)
theorem brk_of {D : Ends} {σ : L2.St} {H : Hp} (h : tX T (fun z => some (.bk z)) D σ H) : D.bk σ H := by
  obtain ⟨w, z, o, s, ee, q⟩ := h
  cases ee
  exact q σ w H s (Ext.refl w H)
theorem cont_of {D : Ends} {σ : L2.St} {H : Hp} (h : tX T (fun z => some (.ct z)) D σ H) : D.ct σ H := by
  obtain ⟨w, z, o, s, ee, q⟩ := h
  cases ee
  exact q σ w H s (Ext.refl w H)
theorem drop_of {D : Ends} {σ : L2.St} {H : Hp} (h : tX T (xEx a) D σ H) : L2.tDrop (tE T a) D σ H := by
  obtain ⟨w, z, o, s, ee, q⟩ := h
  unfold xEx at ee
  split at ee
  · rename_i z1 o1 d e1
    cases ee
    exact ⟨w, z, z1, o1, d, s, e1, fun v w1 H1 s1 x1 r1 => q σ w1 H1 s1 x1⟩
  · cases ee
theorem if_of {f g : ExT} {D : Ends} {σ : L2.St} {H : Hp} (h : tX T (xIte a f g) D σ H) : L2.tIfS (tT T a) (tX T f) (tX T g) D σ H := by
  obtain ⟨w, z, o, s, ee, q⟩ := h
  unfold xIte at ee
  split at ee
  · rename_i z1 o1 e1
    exact ⟨w, z, z1, o1, true, s, e1, fun w' H' s' x => L2.iteT ⟨w', z1, o, s', ee, q.back x⟩⟩
  · rename_i z1 o1 e1
    exact ⟨w, z, z1, o1, false, s, e1, fun w' H' s' x => L2.iteF ⟨w', z1, o, s', ee, q.back x⟩⟩
  · cases ee
/-- return of what is no name -/
theorem ret_of {m : E} {D : Ends} {σ : L2.St} {H : Hp} (hm : ∀ i, m ≠ .var i) (h : tX T (xRet m a) D σ H) : L2.tRet (tE T a) D σ H := by
  obtain ⟨w, z, o, s, ee, q⟩ := h
  have ee' : (match a z with
    | some (z1, o, d) => some (Out.rt z1.h o d)
    | none => none) = some o := by
    cases m <;> first | exact ee | exact absurd rfl (hm _)
  split at ee'
  · rename_i z1 o1 d e1
    cases ee'
    exact ⟨w, z, z1, o1, d, s, e1, fun v w1 H1 s1 x1 r1 => q v w1 H1 s1.wf x1 (r1.ret (h := z.h) s.fl.2 x1)⟩
  · cases ee'
theorem retv_of {i : Nat} {D : Ends} {σ : L2.St} {H : Hp} (h : tX T (xRet (.var i) a) D σ H) : L2.tRet (L2.tVar i) D σ H := by
  obtain ⟨w, z, o, s, ee, q⟩ := h
  unfold xRet at ee
  simp only at ee
  split at ee
  · rename_i d hd
    cases ee
    obtain ⟨p, h1, h2, t⟩ := s.own i d hd
    refine ⟨.ref p, h1, q _ w H s.wf (Ext.refl w H) ⟨p, rfl, .inr ⟨i, h2⟩, (s.wf.exO p i h2).1, fun hf => ?_, ?_, (s.wf.exO p i h2).2, fun hb => ?_, t⟩⟩
    · have := (s.wf.exF p hf).2.2.1
      rw [h2] at this
      cases this
    · cases q : w.L p with
      | none => rfl
      | some ls => have := (s.wf.exL p (by rw [q]; simp)).1; rw [h2] at this; cases this
    · have := (s.wf.bor p hb).2.2.1
      rw [h2] at this
      cases this
  · rename_i d hd
    cases ee
    obtain ⟨v, h1, r⟩ := s.frz i d hd
    exact ⟨v, h1, q v w H s.wf (Ext.refl w H) r⟩
  · cases ee
end
end BV

/-! Statements: targets, items, loops. -/
namespace BV
open PySem (Str Addr Expr Stmt PyData Operator CmpOp cLine Value Shared Around Program World wpAny model Reads ReadsAll bootBuiltins Scope NameKind)
open L2 (V HO Hp upd upd_same upd_ne SqL SqT Cx PE TE VK OpR Dp DpAll Inv Vals RelV PT PW TT PA TA CallR EP Gl MtR PG PGs PI PTs PS PSs TS Ends)

section
variable {T : Tx} {w w' w0 : W} {H H' H0 H1 : Hp} {σ σ' : L2.St} {z : Z} {d : D} {v : V} {o : Bool}
theorem unp_of {g : TG} {a : EvT} {D : Ends} (h : tX T (xUnp (bindT g) a) D σ H) : L2.tAsg (tE T a) (gOf T.K g) D σ H := by
  obtain ⟨w, z, o, s, ee, q⟩ := h
  unfold xUnp at ee
  split at ee
  · rename_i z1 o1 d e1
    obtain ⟨z2, h1, h2⟩ := Option.map_eq_some_iff.mp ee
    subst h2
    refine tE.frz s e1 fun v w1 H1 s1 x1 r1 => ?_
    exact bind_ok g h1 s1 r1 fun σ' s2 _ _ => q σ' w1 H1 s2 x1
  · cases ee
/-! ### rows of values -/
theorem tR_nil {Q : List V → Hp → Prop} (h : tR T (fun z => some (z, [])) σ H Q) : L2.tNil σ H Q := by
  obtain ⟨w, z, z', ds, s, e, q⟩ := h
  cases e
  exact q [] w H s (Ext.refl w H) rfl
def sErCons (a : EvT) (r : Z → Option (Z × List (Bool × D))) : Z → Option (Z × List (Bool × D)) := fun z => match a z with
  | some (z1, o, d) => match r z1 with
    | some (z2, ds) => some (z2, (o, d) :: ds)
    | none => none
  | none => none
theorem tR_cons {a : EvT} {r : Z → Option (Z × List (Bool × D))} {Q : List V → Hp → Prop} (h : tR T (sErCons a r) σ H Q) : L2.tCons (tE T a) (tR T r) σ H Q := by
  obtain ⟨w, z, z', ds, s, e, q⟩ := h
  unfold sErCons at e
  split at e
  · rename_i z1 o d e1
    split at e
    · rename_i z2 dr e2
      cases e
      refine ⟨w, z, z1, o, d, s, e1, fun v w1 H1 s1 x1 r1 => ⟨w1, z1, _, dr, s1, e2, fun vs w2 H2 s2 x2 r2 => q (v :: vs) w2 H2 s2 (x1.trans x2) ?_⟩⟩
      have back : ∀ a, H1 a = none → H a = none := fun a ha => by
        cases q0 : H a with
        | none => rfl
        | some u => exact absurd ha (x1.dom a (by rw [q0]; simp))
      refine ⟨v, vs, rfl, r1.keep s1.wf s.fl.2 x1 x2, fun ho p hp hp1 => ?_, r2.back back⟩
      subst ho
      obtain ⟨a, rfl, _, h1, _⟩ := r1
      obtain ⟨b, e3, e4⟩ := r2.fresh p hp hp1
      rw [e3]
      intro e5
      cases e5
      exact h1 e4
    · cases e
  · cases e
theorem par2_of {i j : Nat} {m m' : Bool} {f : Z → Option (Z × List (Bool × D))} {D : Ends} (h : tX T (xPar [(i, m), (j, m')] f) D σ H) : L2.tPar i j (tR T f) D σ H := by
  obtain ⟨w, z, o, s, ee, q⟩ := h
  unfold xPar at ee
  split at ee
  · rename_i z1 ds e1
    obtain ⟨z2, h1, h2⟩ := Option.map_eq_some_iff.mp ee
    subst h2
    refine ⟨w, z, z1, ds, s, e1, fun vs w1 H1 s1 x1 r1 => ?_⟩
    obtain ⟨w2, s2, x2⟩ := setAll_ok s.fl.1 s.fl.2 s1 x1 r1 h1
    match ds, h1, r1 with
    | [(o1, d1), (o2, d2)], _, r1 =>
      obtain ⟨v1, _, rfl, _, _, v2, _, rfl, _, _, rfl⟩ := r1
      exact ⟨v1, v2, rfl, q _ w2 H1 s2 x2⟩
    | [], h1, _ => cases h1
    | [_], h1, _ => unfold setAll at h1; split at h1 <;> cases h1
    | _ :: _ :: _ :: _, h1, _ =>
      unfold setAll at h1
      split at h1
      · unfold setAll at h1
        split at h1 <;> cases h1
      · cases h1
  · cases ee
theorem par3_of {i j l : Nat} {m m' m2 : Bool} {f : Z → Option (Z × List (Bool × D))} {D : Ends} (h : tX T (xPar [(i, m), (j, m'), (l, m2)] f) D σ H) : L2.tPar3 i j l (tR T f) D σ H := by
  obtain ⟨w, z, o, s, ee, q⟩ := h
  unfold xPar at ee
  split at ee
  · rename_i z1 ds e1
    obtain ⟨z2, h1, h2⟩ := Option.map_eq_some_iff.mp ee
    subst h2
    refine ⟨w, z, z1, ds, s, e1, fun vs w1 H1 s1 x1 r1 => ?_⟩
    obtain ⟨w2, s2, x2⟩ := setAll_ok s.fl.1 s.fl.2 s1 x1 r1 h1
    match ds, h1, r1 with
    | [(o1, d1), (o2, d2), (o3, d3)], _, r1 =>
      obtain ⟨v1, _, rfl, _, _, v2, _, rfl, _, _, v3, _, rfl, _, _, rfl⟩ := r1
      exact ⟨v1, v2, v3, rfl, q _ w2 H1 s2 x2⟩
    | [], h1, _ => cases h1
    | [_], h1, _ => unfold setAll at h1; split at h1 <;> cases h1
    | [_, _], h1, _ =>
      unfold setAll at h1
      split at h1
      · unfold setAll at h1
        split at h1 <;> cases h1
      · cases h1
    | _ :: _ :: _ :: _ :: _, h1, _ =>
      unfold setAll at h1
      split at h1
      · unfold setAll at h1
        split at h1
        · unfold setAll at h1
          split at h1 <;> cases h1
        · cases h1
      · cases h1
  · cases ee
def toTGs : List (Nat × Bool) → TGs
  | [] => .nil
  | (i, _) :: r => .cons (.nm i) (toTGs r)
theorem toTGs_len : ∀ l : List (Nat × Bool), (toTGs l).len = l.length
  | [] => rfl
  | (i, _) :: r => by show (toTGs r).len + 1 = _; rw [toTGs_len r]; rfl
theorem gs_sets {K : PySem.W.Frag} {Q : L2.St → Hp → Prop} : ∀ {l : List (Nat × Bool)} {vs : List V} {σ : L2.St} {H : Hp}, l.length = vs.length → Q (sets l vs σ) H → gsOf K (toTGs l) vs σ H Q
  | [], [], _, _, _, q => ⟨rfl, q⟩
  | [], _ :: _, _, _, h, _ => by simp at h
  | _ :: _, [], _, _, h, _ => by simp at h
  | (i, m) :: l, v :: vs, σ, H, h, q => ⟨v, vs, rfl, gs_sets (l := l) (by simpa using h) q⟩
theorem RepRs.ext {h : Option (List D)} (f : Wf T w H h) (fb : ∀ b, w0.bor b → H0 b ≠ none) (x0 : Ext w0 H0 w H) (x : Ext w H w' H') : ∀ {ds : List (Bool × D)} {vs : List V}, RepRs T w H H0 ds vs → RepRs T w' H' H0 ds vs
  | [], _, h => h
  | (o, d) :: r, _, h => by
    obtain ⟨v, vs', e, h1, h2, h3⟩ := h
    exact ⟨v, vs', e, h1.keep f fb x0 x, h2, RepRs.ext f fb x0 x h3⟩
theorem setAll_len : ∀ {l : List (Nat × Bool)} {ds : List (Bool × D)} {z z' : Z}, setAll l ds z = some z' → l.length = ds.length
  | [], [], _, _, _ => rfl
  | [], _ :: _, _, _, h => by cases h
  | _ :: _, [], _, _, h => by cases h
  | (i, m) :: l, (o, d) :: ds, z, z', h => by
    unfold setAll at h
    split at h
    · rw [List.length_cons, List.length_cons, setAll_len h]
    · cases h
theorem parN_of {l : List (Nat × Bool)} {f : Z → Option (Z × List (Bool × D))} {D : Ends} (hl : l.length ≤ 30) (h : tX T (xPar l f) D σ H) : L2.tAsg (L2.tTup (tR T f)) (gOf T.K (.tp (toTGs l))) D σ H := by
  obtain ⟨w, z, o, s, ee, q⟩ := h
  unfold xPar at ee
  split at ee
  · rename_i z1 ds e1
    obtain ⟨z2, h1, h2⟩ := Option.map_eq_some_iff.mp ee
    subst h2
    refine ⟨w, z, z1, ds, s, e1, fun vs w1 H1 s1 x1 r1 => ?_⟩
    have len := setAll_len h1
    have len2 := r1.length
    refine ⟨by rw [← len2, ← len, ← lim_line]; unfold lim; omega, fun p hp => ?_⟩
    have xa : Ext w1 H1 w1 (upd H1 p (.tup vs)) := ext_alloc s1.wf hp
    obtain ⟨w2, s2, x2⟩ := setAll_ok s.fl.1 s.fl.2 (s1.alloc hp) (x1.trans xa) (r1.ext s1.wf s.fl.2 x1 xa) h1
    exact ⟨p, vs, rfl, SqT.of upd_same, by rw [toTGs_len]; omega, gs_sets (by omega) (q _ w2 _ s2 x2)⟩
  · cases ee
/-! ### x[i] = v -/
theorem SR.hand_set {l : List D} (s : SR T w σ H z) (hz : z.h = some l) : ∃ p xs, w.hd = some p ∧ H p = some (.lst xs) ∧ Reps T w H l xs ∧
    ∀ (xs' : List V) (l' : List D), (∀ u, Gr w H w (upd H p u)) ∧ (Reps T w (upd H p (.lst xs')) l' xs' → SR T w σ (upd H p (.lst xs')) { z with h := some l' } ∧ Ext w H w (upd H p (.lst xs'))) := by
  have hh := s.wf.hand
  rw [hz] at hh
  cases hd : w.hd with
  | none => rw [hd] at hh; exact hh.elim
  | some p =>
    rw [hd] at hh
    obtain ⟨xs, h1, h2⟩ := hh
    refine ⟨p, xs, rfl, h1, h2, fun xs' l' => ?_⟩
    have nF : ∀ b, w.F b → b ≠ p := fun b hb e => (s.wf.exF b hb).2.2.2 (by rw [hd, e])
    have g : ∀ u, Gr w H w (upd H p u) := fun u => ⟨fun b hb => ⟨hb, upd_ne (nF b hb)⟩, fun _ _ x => x, fun _ x => x⟩
    refine ⟨g, fun hr => ?_⟩
    have nO : ∀ b i, w.own b = some i → b ≠ p := fun b i hb e => (s.wf.exO b i hb).2 (by rw [hd, e])
    have nB : ∀ b, w.bor b → b ≠ p := fun b hb e => (s.wf.bor b hb).2.1 (by rw [hd, e])
    have nL : ∀ b, w.L b ≠ none → b ≠ p := fun b hb e => (s.wf.exL b hb).2 (by rw [hd, e])
    refine ⟨⟨⟨fun b hb => ⟨upd_dom (s.wf.exF b hb).1, (s.wf.exF b hb).2⟩, s.wf.exL, fun b j hb => ⟨upd_dom (s.wf.exO b j hb).1, (s.wf.exO b j hb).2⟩, fun k ls q => ?_, ?_, fun b hb => upd_dom (s.wf.lkd b hb), fun b hb => let ⟨b1, b2, b3, b4⟩ := s.wf.bor b hb; ⟨b1, b2, b3, upd_dom b4⟩⟩, s.len,
      fun j d e => let ⟨v, e1, r⟩ := s.frz j d e; ⟨v, e1, r.mono (g _)⟩, fun j d e => let ⟨b, e1, e2, r⟩ := s.own j d e; ⟨b, e1, e2, r.mono (g _) (upd_ne (nO b j e2))⟩, fun j d e => let ⟨b, e1, e2, r⟩ := s.bor j d e; ⟨b, e1, e2, r.mono (g _) (upd_ne (nB b e2))⟩, s.lk⟩,
      ⟨fun _ x => x, fun _ x => .inl x, fun _ _ x => x, fun _ x => .inl x, fun _ x => x, fun _ x => .inl x, fun _ j x => .inl x, rfl, rfl, fun b o e _ h3 _ => by rw [upd_ne fun q => h3 (by rw [q, hd])]; exact e, fun b e => upd_dom e⟩⟩
    · have nk : k ≠ p := nL k (by rw [q]; simp)
      rcases s.wf.cache k ls q with c | ⟨e2, c1, c2, c3⟩
      · exact .inl ((upd_ne nk).trans c)
      · exact .inr ⟨e2, (upd_ne nk).trans c1, c2, (upd_ne (nF e2 c2)).trans c3⟩
    · rw [hd]
      exact ⟨xs', upd_same, hr⟩
theorem setItem_ok {i : Nat} {dv dk : D} {out : Out} {p : Addr} {vv kk : V} {Q : L2.St → Hp → Prop} (s : SR T w σ H z) (e : setItem i dv dk z = some out) (hu : σ[i]? = some (some v)) (rv : Rep T w H dv vv) (rk : Rep T w H dk kk)
    (q : ∀ z' w' H', out = .nx z' → SR T w' σ H' z' → Ext w H w' H' → Q σ H') : L2.rSetL v kk vv H fun H' => Q σ H' := by
  unfold setItem at e
  split at e
  · rename_i hat
    split at e
    · rename_i l n hz
      split at e
      · rename_i j hj
        cases e
        simp only [Rep] at rk
        subst rk
        obtain ⟨u2, hu2, ru⟩ := s.frz i _ hat
        rw [hu] at hu2
        cases hu2
        simp only [Rep] at ru
        obtain ⟨p, rfl, hp⟩ := ru
        obtain ⟨p', xs, h1, h2, h3, h4⟩ := s.hand_set hz
        rw [hp] at h1
        cases h1
        obtain ⟨g, h5⟩ := h4 (xs.set j vv) (l.set j dv)
        obtain ⟨s3, x3⟩ := h5 (Reps.set (Rep.mono (g _) rv) j (h3.mono (g _)))
        exact ⟨p, xs, n, j, rfl, rfl, h2, by rw [← h3.length]; exact hj, q _ w _ rfl s3 x3⟩
      · cases e
    · cases e
  · rename_i d hat
    split at e
    · cases e
    · rename_i hc
      have hn : i ∉ z.lk := by simpa using hc
      split at e
      · rename_i d' hd'
        cases e
        cases d <;> first | (cases hd'; done) | skip
        rename_i l
        cases dk <;> simp only [stop, reduceCtorEq] at hd'
        rename_i n
        split at hd'
        · rename_i j hj
          cases hd'
          simp only [Rep] at rk
          subst rk
          obtain ⟨a, h1, h2, ⟨xs, h3, h4⟩, h5, h7, h6⟩ := s.mut hat
          rw [hu] at h1
          cases h1
          have g : ∀ u, Gr w H w (upd H a u) := fun u => gr_mut s.wf h2
          exact ⟨a, xs, n, j, rfl, rfl, h3, by rw [← h4.length]; exact hj, q _ w _ rfl (h6 _ _ ⟨_, upd_same, Reps.set (Rep.mono (g _) rv) j (h4.mono (g _))⟩) (ext_mut h2 (h7 hn) h5)⟩
        · cases hd'
      · cases e
  · cases e
theorem setIx_of {i : Nat} {ix a : EvT} {D : Ends} (h : tX T (xSetIx i ix a) D σ H) : L2.tAsg (tE T a) (L2.gSub (L2.tVar i) (tE T ix) L2.rSetL) D σ H := by
  obtain ⟨w, z, o, s, ee, q⟩ := h
  unfold xSetIx at ee
  split at ee
  case h_2 => cases ee
  case h_1 z1 o1 v e1 =>
    split at ee
    case h_2 => cases ee
    case h_1 pp hat =>
      split at ee
      case h_2 => cases ee
      case h_1 z2 o2 k e2 =>
        refine tE.frz s e1 fun vv w1 H1 s1 x1 r1 => ?_
        obtain ⟨u, hu⟩ := s1.slot (k := pp.1) (d := pp.2) hat
        refine ⟨u, hu, tE.frz s1 e2 fun kk w2 H2 s2 x2 r2 => ?_⟩
        refine setItem_ok (p := 0) (Q := D.nx) s2 ee hu (Rep.mono (x2.gr s1.wf) r1) r2 fun z' w' H' eo s' x' => ?_
        subst eo
        exact q σ w' H' s' ((x1.trans x2).trans x')
/-! ### loops -/
theorem Wf.relk {w1 : W} {h : Option (List D)} (f : Wf T w H h) (k : ∀ a, w1.lk a → H a ≠ none) : Wf T (w.relk w1) H h := ⟨f.exF, f.exL, f.exO, f.cache, f.hand.mono gr_relk fun _ _ => rfl, k, f.bor⟩
theorem Ext.relk {p : Addr → Prop} (x : Ext (w0.lock p) H0 w H) : Ext w0 H0 (w.relk w0) H := ⟨x.F, x.Fn, x.L, x.Ln, x.hd, x.hdn, x.own, rfl, x.bor, fun a o h1 h2 h3 h4 => x.keep a o h1 h2 h3 (h4.elim .inl fun h => .inr (.inl h)), x.dom⟩
theorem RetR.relk {w1 : W} {p : Addr → Prop} (r : RetR T w H (w0.lock p) H0 o d v) : RetR T (w.relk w1) H w0 H0 o d v := by
  cases o with
  | false => exact Rep.mono gr_relk (show Rep T w H d v from r)
  | true =>
    obtain ⟨a, e, h, h1, h2, h3, h4, h5, t⟩ := r
    exact ⟨a, e, h, h1, h2, h3, h4, h5, t.mono gr_relk rfl⟩
theorem forLoop_cons {b : D → Z → Option Z} {body : ExT} {x : D} {r : List D} {z : Z} {out : Out} (h : forLoop b body (x :: r) z = some out) :
    ∃ z1 o, b x z = some z1 ∧ body z1 = some o ∧ ((∃ z2, (o = .nx z2 ∨ o = .ct z2) ∧ forLoop b body r z2 = some out) ∨ (∃ z2, o = .bk z2 ∧ out = .bk z2) ∨ ∃ h oo d, o = .rt h oo d ∧ out = .rt h oo d) := by
  unfold forLoop at h
  split at h
  · rename_i z1 h1
    split at h
    · rename_i z2 h2
      exact ⟨z1, _, h1, h2, .inl ⟨z2, .inl rfl, h⟩⟩
    · rename_i z2 h2
      exact ⟨z1, _, h1, h2, .inl ⟨z2, .inr rfl, h⟩⟩
    · rename_i z2 h2
      cases h
      exact ⟨z1, _, h1, h2, .inr (.inl ⟨z2, rfl, rfl⟩)⟩
    · rename_i hh oo d h2
      cases h
      exact ⟨z1, _, h1, h2, .inr (.inr ⟨hh, oo, d, rfl, rfl⟩)⟩
    · cases h
  · cases h
theorem for_of {g : TG} {it : ItT} {body : ExT} {D : Ends} (h : tX T (xFor (bindT g) it body) D σ H) : L2.tFor (tI T it) (gOf T.K g) (tX T body) D σ H := by
  obtain ⟨w, z, o, s, e, q⟩ := h
  unfold xFor at e
  split at e
  case h_2 => cases e
  case h_1 z1 items bs e1 =>
    cases hf : forLoop (bindT g) body items (bor bs z1) with
    | none => rw [hf] at e; cases e
    | some out =>
      rw [hf] at e
      refine ⟨w, z, z1, items, bs, s, e1, fun J w1 H1 p s1 x1 hp ok => ?_⟩
      have sl : SR T (w1.lock p) σ H1 (bor bs z1) := s1.lock hp
      -- behind the loop
      have fin_nx : ∀ {w' H' σ' z'}, SR T w' σ' H' z' → Ext (w1.lock p) H1 w' H' → (out = .nx z' ∨ out = .bk z') → D.nx σ' H' := fun {w' H' σ' z'} s' x' eo => by
        obtain ⟨sf, xf⟩ := s1.unlock s' x'
        have eo2 : o = .nx (unbor z1 z') := by
          rcases eo with eo | eo <;> (subst eo; cases e; rfl)
        subst eo2
        exact q σ' _ H' sf (x1.trans xf)
      refine ⟨fun i m σ' H' => m = items.length - i ∧ i ≤ items.length ∧ ∃ w' z', SR T w' σ' H' z' ∧ Ext (w1.lock p) H1 w' H' ∧ forLoop (bindT g) body (items.drop i) z' = some out,
        ⟨items.length, by simp, Nat.zero_le _, w1.lock p, bor bs z1, sl, Ext.refl _ _, hf⟩, ?_⟩
      rintro i m σ' H' ⟨rfl, hi, w', z', s', x', hl⟩
      obtain ⟨stop, step⟩ := ok i w' H' _ _ s' x'
      by_cases hlt : i < items.length
      · right
        have hd0 : items[i]? = some items[i] := by simp [hlt]
        obtain ⟨go, yld⟩ := step _ hd0
        refine ⟨go, fun σ2 H2 => ∃ m', m' < items.length - i ∧ (m' = items.length - (i + 1) ∧ i + 1 ≤ items.length ∧ ∃ w' z', SR T w' σ2 H2 z' ∧ Ext (w1.lock p) H1 w' H2 ∧ forLoop (bindT g) body (items.drop (i + 1)) z' = some out),
          fun _ _ x => x, fun x H2 y => ?_⟩
        obtain ⟨w2, s2, x2, r2⟩ := yld x H2 y
        rw [List.drop_eq_getElem_cons hlt] at hl
        obtain ⟨za, ob, ea, eb, rest⟩ := forLoop_cons hl
        refine bind_ok g ea s2 r2 fun σ2 s3 _ _ => ⟨w2, za, ob, s3, eb, ?_⟩
        have xx : Ext (w1.lock p) H1 w2 H2 := x'.trans x2
        rcases rest with ⟨zb, eo, hl2⟩ | ⟨zb, rfl, eo⟩ | ⟨h, oo, d, rfl, eo⟩
        · have k : ∀ σ3 w3 H3, SR T w3 σ3 H3 zb → Ext w2 H2 w3 H3 → ∃ m', m' < items.length - i ∧ (m' = items.length - (i + 1) ∧ i + 1 ≤ items.length ∧ ∃ w' z', SR T w' σ3 H3 z' ∧ Ext (w1.lock p) H1 w' H3 ∧ forLoop (bindT g) body (items.drop (i + 1)) z' = some out) :=
            fun σ3 w3 H3 s4 x4 => ⟨items.length - (i + 1), by omega, rfl, hlt, w3, zb, s4, xx.trans x4, hl2⟩
          rcases eo with rfl | rfl
          · exact k
          · exact k
        · exact fun σ3 w3 H3 s4 x4 => fin_nx s4 (xx.trans x4) (.inr eo)
        · subst eo
          cases e
          exact fun v w3 H3 f4 x4 r4 => q v (w3.relk w1) H3 (f4.relk fun a ha => (xx.trans x4).dom a (s1.wf.lkd a ha)) (x1.trans (xx.trans x4).relk) (RetR.back x1 (RetR.relk (RetR.back xx r4)))
      · left
        have he : i = items.length := by omega
        subst he
        refine ⟨stop (Nat.le_refl _), ?_⟩
        rw [List.drop_length] at hl
        exact fin_nx s' x' (.inl (by unfold forLoop at hl; exact (Option.some.inj hl).symm))
theorem whlLoop_succ {c : EvT} {body : ExT} {n : Nat} {z : Z} {out : Out} (h : whlLoop c body (n + 1) z = some out) :
    (∃ z1 o, c z = some (z1, o, .bl false) ∧ out = .nx z1) ∨ ∃ z1 o ob, c z = some (z1, o, .bl true) ∧ body z1 = some ob ∧ ((∃ z2, (ob = .nx z2 ∨ ob = .ct z2) ∧ whlLoop c body n z2 = some out) ∨ (∃ z2, ob = .bk z2 ∧ out = .bk z2) ∨ ∃ h oo d, ob = .rt h oo d ∧ out = .rt h oo d) := by
  unfold whlLoop at h
  split at h
  · rename_i z1 o h1
    cases h
    exact .inl ⟨z1, o, h1, rfl⟩
  · rename_i z1 o h1
    right
    split at h
    · rename_i z2 h2
      exact ⟨z1, o, _, h1, h2, .inl ⟨z2, .inl rfl, h⟩⟩
    · rename_i z2 h2
      exact ⟨z1, o, _, h1, h2, .inl ⟨z2, .inr rfl, h⟩⟩
    · rename_i z2 h2
      cases h
      exact ⟨z1, o, _, h1, h2, .inr (.inl ⟨z2, rfl, rfl⟩)⟩
    · rename_i hh oo d h2
      cases h
      exact ⟨z1, o, _, h1, h2, .inr (.inr ⟨hh, oo, d, rfl, rfl⟩)⟩
    · cases h
  · cases h
theorem whl_of {c : EvT} {body : ExT} {D : Ends} (h : tX T (xWhl c body) D σ H) : L2.tWhile (tT T c) (tX T body) D σ H := by
  obtain ⟨w, z, o, s, e, q⟩ := h
  unfold xWhl at e
  cases hf : whlLoop c body fuel z with
  | none => rw [hf] at e; cases e
  | some out =>
    rw [hf] at e
    have fin_nx : ∀ {w' H' σ' z'}, SR T w' σ' H' z' → Ext w H w' H' → (out = .nx z' ∨ out = .bk z') → D.nx σ' H' := fun {w' H' σ' z'} s' x' eo => by
      have eo2 : o = .nx z' := by
        rcases eo with eo | eo <;> (subst eo; cases e; rfl)
      subst eo2
      exact q σ' _ H' s' x'
    refine ⟨fun m σ' H' => ∃ w' z', SR T w' σ' H' z' ∧ Ext w H w' H' ∧ whlLoop c body m z' = some out, ⟨fuel, w, z, s, Ext.refl _ _, hf⟩, ?_⟩
    rintro m σ' H' ⟨w', z', s', x', hl⟩
    cases m with
    | zero => cases hl
    | succ m =>
      rcases whlLoop_succ hl with ⟨z1, o1, ec, eo⟩ | ⟨z1, o1, ob, ec, eb, rest⟩
      · exact ⟨w', z', z1, o1, false, s', ec, fun w2 H2 s2 x2 => L2.iteF (fin_nx s2 (x'.trans x2) (.inl eo))⟩
      · refine ⟨w', z', z1, o1, true, s', ec, fun w2 H2 s2 x2 => L2.iteT ?_⟩
        have xx := x'.trans x2
        refine ⟨fun σ3 H3 => ∃ m', m' < m + 1 ∧ ∃ w' z', SR T w' σ3 H3 z' ∧ Ext w H w' H3 ∧ whlLoop c body m' z' = some out, fun _ _ x => x, w2, z1, ob, s2, eb, ?_⟩
        rcases rest with ⟨zb, eo, hl2⟩ | ⟨zb, rfl, eo⟩ | ⟨h, oo, d, rfl, eo⟩
        · have k : ∀ σ3 w3 H3, SR T w3 σ3 H3 zb → Ext w2 H2 w3 H3 → ∃ m', m' < m + 1 ∧ ∃ w' z', SR T w' σ3 H3 z' ∧ Ext w H w' H3 ∧ whlLoop c body m' z' = some out :=
            fun σ3 w3 H3 s4 x4 => ⟨m, Nat.lt_succ_self _, w3, zb, s4, xx.trans x4, hl2⟩
          rcases eo with rfl | rfl
          · exact k
          · exact k
        · exact fun σ3 w3 H3 s4 x4 => fin_nx s4 (xx.trans x4) (.inr eo)
        · subst eo
          cases e
          exact fun v w3 H3 f4 x4 r4 => q v w3 H3 f4 (xx.trans x4) (RetR.back xx r4)
end
end BV

/-! The forms, over what their parts keep. -/
namespace BV
open PySem (Str Addr Expr Stmt PyData Operator CmpOp cLine Value Shared Around Program World wpAny model Reads ReadsAll bootBuiltins Scope NameKind)
open L2 (V HO Hp upd upd_same upd_ne SqL SqT Cx PE TE VK OpR Dp DpAll Inv Vals RelV PT PW TT PA TA CallR EP Gl MtR PG PGs PI PTs PS PSs TS Ends PO)

structure EOk (T : Tx) (F : Phi) (X : Cx) (e : Expr) (m : E) : Prop where
  v : PE X e (tE T (ev F m))
  o : PE X e (tO T (opd m (ev F m)))
  t : PT X e (tT T (ev F m))
structure EsOk (T : Tx) (F : Phi) (X : Cx) (es : List Expr) (l : Es) : Prop where
  ns : ∀ e ∈ es, notStar e = true
  o : ∀ kp i, PA X es (tOs T (evs F (markEs kp i l)))
  f : PA X es (tF T (evF F l))
  r : PA X es (tR T (evR F l))
section
variable {T : Tx} {F : Phi} {c : Ctx} {X : Cx} {e e1 e2 e3 : Expr} {es : List Expr} {m m1 m2 m3 : E} {l : Es} {pos p p2 : PySem.Pos} {x : Str}
theorem mk (hm : ∀ i, m ≠ .var i) (v : PE X e (tE T (ev F m))) (he : ∀ whole, PySem.isTrue e X.env whole = (do let v ← whole; PySem.standAt e.pos; PySem.holding [v] (PySem.truthy v))) : EOk T F X e m := ⟨v, pe_opd hm v, pt_of_pe v he⟩
theorem ok_var (k : CxOk T F c X) {i : Nat} (h : c.slot x = some i) : EOk T F X (.Name x pos) (.var i) := by
  have v : PE X (.Name x pos) (tE T (ev F (.var i))) := pe_varE (k.var h)
  exact ⟨v, pe_slot (k.var h) _, pt_of_pe v fun _ => rfl⟩
theorem ok_gint (k : CxOk T F c X) {i : Int} (h : c.g x = some (.int i)) : EOk T F X (.Name x pos) (.int i) := by
  obtain ⟨h1, h2, h3⟩ := k.g_ h
  obtain ⟨t, h4⟩ := k.gi x i h3
  exact mk (fun _ => nofun) (pe_cE (L2.pe_glob (v := .int i) h1 h4 ⟨t, rfl⟩ h2) fun _ _ => rep_int) fun _ => rfl
theorem ok_int {i : Int} {j : Nat} : EOk T F X (.Constant (.int i) j pos) (.int i) := mk (fun _ => nofun) (pe_cE L2.pe_int fun _ _ => rep_int) fun _ => rfl
theorem ok_bl {i : Bool} {j : Nat} : EOk T F X (.Constant (.bool i) j pos) (.bl i) := mk (fun _ => nofun) (pe_cE L2.pe_bl fun _ _ => rep_bl) fun _ => rfl
theorem ok_non {j : Nat} : EOk T F X (.Constant .none j pos) .non := mk (fun _ => nofun) (pe_cE L2.pe_non fun _ _ => by simp [Rep]) fun _ => rfl
theorem ok_str {i : Str} {j : Nat} : EOk T F X (.Constant (.str i) j pos) (.str i) := mk (fun _ => nofun) (pe_cE L2.pe_str fun _ _ => by simp [Rep]) fun _ => rfl
theorem ok_bin (k : CxOk T F c X) {o : Operator} {b : Bop} (h : bopOf o = some b) (h1 : EOk T F X e1 m1) (h2 : EOk T F X e2 m2) : EOk T F X (.BinOp e1 o e2 pos) (.bin b m1 m2) :=
  mk (fun _ => nofun) (pe_bin2 (rBin_ok k.K o) (bin_serves h) h1.o h2.o) fun _ => rfl
theorem ok_neg (h : EOk T F X e m) : EOk T F X (.UnaryOp .USub e pos) (.neg m) := mk (fun _ => nofun) (pe_neg h.v) fun _ => rfl
theorem ok_not (h : EOk T F X e m) : EOk T F X (.UnaryOp .Not e pos) (.not m) := ⟨pe_notE h.v, pe_opd (fun _ => nofun) (pe_notE h.v), pt_notE h.t⟩
theorem opC_cop (o : CmpOp) : opC (copOf o) = o := by cases o <;> rfl
theorem cmp_ok (k : CxOk T F c X) (o : CmpOp) : OpR X (PySem.compareOp o) (rCmp T (copOf o)) := by
  have := op_cmp (T := T) (X := X) k.K (by have := k.un; omega) (k.rules.eq X Sim.rfl') (k.rules.ne X Sim.rfl') (copOf o)
  rw [opC_cop] at this
  exact this
theorem ok_cmp (k : CxOk T F c X) {o : CmpOp} (hs : notSet e2 = true) (h1 : EOk T F X e1 m1) (h2 : EOk T F X e2 m2) : EOk T F X (.Compare e1 [o] [e2] pos) (.cmp (copOf o) m1 m2) := by
  have v : PE X (.Compare e1 [o] [e2] pos) (tE T (ev F (.cmp (copOf o) m1 m2))) := pe_cmp2 (cmp_ok k o) (cmp_serves _) (behind_no hs) h1.o h2.o
  exact ⟨v, pe_opd (fun _ => nofun) v, pt_cmp2 (cmp_ok k o) (cmp_serves _) (behind_no hs) h1.o h2.o⟩
theorem ok_cmp2 (k : CxOk T F c X) {o o' : CmpOp} (hs : notSet e3 = true) (h1 : EOk T F X e1 m1) (h2 : EOk T F X e2 m2) (h3 : EOk T F X e3 m3) : EOk T F X (.Compare e1 [o, o'] [e2, e3] pos) (.cmp2 (copOf o) (copOf o') m1 m2 m3) := by
  have v : PE X (.Compare e1 [o, o'] [e2, e3] pos) (tE T (ev F (.cmp2 (copOf o) (copOf o') m1 m2 m3))) := PE.imp (L2.pe_chain (cmp_ok k o) (cmp_ok k o') h1.o h2.o h3.o (lastMarks2 hs)) fun _ _ _ h => chain_of (cmp_serves _) (cmp_serves _) h
  refine ⟨v, pe_opd (fun _ => nofun) v, PT.imp (L2.pt_chain (cmp_ok k o) (cmp_ok k o') h1.o h2.o h3.o (lastMarks2 hs)) fun σ H Q ⟨w, z, z', oo, b, s, ee, q⟩ => ?_⟩
  refine chain_of (Q := fun x H' => ∃ k, x = .bl k ∧ Q k H') (cmp_serves _) (cmp_serves _) ⟨w, z, z', oo, .bl b, s, ee, fun v w' H' s' x r => ?_⟩
  have ho : oo = false := by
    have ee : sCmp2 (copOf o) (copOf o') _ _ _ z = some (z', oo, .bl b) := ee
    unfold sCmp2 at ee
    split at ee
    · split at ee
      · split at ee
        · split at ee
          · cases ee; rfl
          · split at ee
            · split at ee
              · obtain ⟨_, _, e2⟩ := Option.map_eq_some_iff.mp ee
                cases e2; rfl
              · cases ee
            · cases ee
          · cases ee
        · cases ee
      · cases ee
    · cases ee
  subst ho
  have r : Rep T w' H' (.bl b) v := r
  simp only [Rep] at r
  subst r
  exact ⟨b, rfl, q w' H' s' x⟩
theorem ok_ite (h1 : EOk T F X e1 m1) (h2 : EOk T F X e2 m2) (h3 : EOk T F X e3 m3) : EOk T F X (.IfExp e1 e2 e3 pos) (.ite m1 m2 m3) :=
  ⟨pe_iteE h1.t h2.v h3.v, pe_opd (fun _ => nofun) (pe_iteE h1.t h2.v h3.v), pt_iteE h1.t h2.t h3.t⟩
theorem ok_tup {k : Nat} (h : EsOk T F X es l) : EOk T F X (.Tuple es k pos) (.tup l) := mk (fun _ => nofun) (pe_tupE h.f) fun _ => rfl
theorem ok_lst (h : EsOk T F X es l) : EOk T F X (.List es pos) (.lst l) := mk (fun _ => nofun) (pe_lstE h.f) fun _ => rfl
theorem ok_dic0 : EOk T F X (.Dict [] [] pos) .dic0 := mk (fun _ => nofun) pe_dic0 fun _ => rfl
theorem ok_ix (k : CxOk T F c X) (hs : notSlice e2 = true) (h1 : EOk T F X e1 m1) (h2 : EOk T F X e2 m2) : EOk T F X (.Subscript e1 e2 pos) (.ix m1 m2) :=
  mk (fun _ => nofun) (pe_itemE k.K (by have := k.un; omega) hs h1.o h2.o) fun _ => rfl
theorem ok_sl (k : CxOk T F c X) {lo hi : Option Expr} {ml mh : Option E} (h1 : EOk T F X e1 m1) (hl : PO X lo (tPx T (ml.map (ev F)))) (hh : PO X hi (tPx T (mh.map (ev F)))) : EOk T F X (.Subscript e1 (.Slice lo hi none p2) pos) (.sl m1 ml mh) := by
  refine mk (fun _ => nofun) ?_ fun _ => rfl
  have := pe_slE (pos := pos) (p2 := p2) k.K h1.o hl hh
  cases ml <;> cases mh <;> exact this
theorem ok_rev (k : CxOk T F c X) {j : Nat} {p3 : PySem.Pos} (h1 : EOk T F X e1 m1) : EOk T F X (.Subscript e1 (.Slice none none (some (.UnaryOp .USub (.Constant (.int 1) j p) p2)) p3) pos) (.rev m1) := by
  refine mk (fun _ => nofun) (PE.imp (L2.pe_revL h1.o) ?_) fun _ => rfl
  rintro σ H Q ⟨w, z, z', o, d, s, ee, q⟩
  have ee : sOp1 revop (opd m1 (ev F m1)) z = some (z', o, d) := ee
  unfold sOp1 at ee
  split at ee
  case h_2 => cases ee
  case h_1 z1 oa ea =>
    refine ⟨w, z, z1, oa, s, ea, fun y w1 H1 s1 x1 r1 => ?_⟩
    split at ee
    · rename_i da ga
      obtain ⟨⟨o', d'⟩, ef, e2⟩ := Option.map_eq_some_iff.mp ee
      cases e2
      cases da <;> simp only [revop, reduceCtorEq, Option.some.injEq, Prod.mk.injEq] at ef
      obtain ⟨rfl, rfl⟩ := ef
      obtain ⟨a, xs, rfl, h2, h3⟩ := repU_lst (r1.use s1 ga)
      refine ⟨a, xs, rfl, k.K ▸ SqL.of h2, fun p hp => ?_⟩
      exact (out1_of s1 fun v w3 H3 s3 x3 r3 => q v w3 H3 s3 (x1.trans x3) (r3.back x1)).lst _ p _ rfl rfl hp h3.reverse
    · cases ee
theorem ok_fld (k : CxOk T F c X) (f : Fld) (h0 : notCall0 e1 = true) (h1 : EOk T F X e1 m1) : EOk T F X (.Attribute e1 (fldName f) pos) (.fld m1 f) :=
  mk (fun _ => nofun) (pe_fldE k.wk h0 h1.o) fun _ => rfl
theorem ok_call (k : CxOk T F c X) {f : Nat} {kp : List Nat} (h : c.g x = some (.fn f kp)) (hne : es ≠ []) (ha : EsOk T F X es l) : EOk T F X (.Call (.Name x p) es [] pos) (.call f (markEs kp 0 l)) := by
  obtain ⟨h1, h2, h3⟩ := k.g_ h
  exact mk (fun _ => nofun) (k.rules.call X Sim.rfl' x f kp es _ p pos h3 h1 h2 hne ha.ns (ha.o kp 0)) fun _ => rfl
theorem guard_ok {f : EvT} (h : (F gIdx [] none).isSome = true → PE X e (tE T f)) : PE X e (tE T (sGuard F f)) := by
  cases hg : F gIdx [] none with
  | none => exact ⟨fun pins s σ H Q I ⟨w, z, z', o, d, sr, ee, q⟩ => by unfold sGuard at ee; rw [hg] at ee; cases ee⟩
  | some r => exact PE.imp (h (by rw [hg]; rfl)) fun σ H Q ⟨w, z, z', o, d, sr, ee, q⟩ => ⟨w, z, z', o, d, sr, by unfold sGuard at ee; rw [hg] at ee; exact ee, q⟩
theorem ok_web (k : CxOk T F c X) (h : c.g x = some .web) (n1 : notStar e1 = true) (n2 : notStar e2 = true) (h1 : EOk T F X e1 m1) (h2 : EOk T F X e2 m2) : EOk T F X (.Call (.Name x p) [e1, e2] [] pos) (.web m1 m2) := by
  obtain ⟨q1, q2, q3⟩ := k.g_ h
  exact mk (fun _ => nofun) (guard_ok fun g => k.rules.web g X Sim.rfl' x e1 e2 _ _ p pos q3 q1 q2 n1 n2 h1.o h2.o) fun _ => rfl
theorem ok_there (k : CxOk T F c X) (h0 : notCall0 e1 = true) (hl : (p.endLine == pos.line) = true) (h1 : EOk T F X e1 m1) : EOk T F X (.Call (.Attribute e1 "there" p) [] [] pos) (.there m1) :=
  mk (fun _ => nofun) (guard_ok fun g => k.rules.there g X Sim.rfl' e1 _ p pos hl h0 h1.o) fun _ => rfl
theorem ok_mt1 (k : CxOk T F c X) {y : Str} {i : Nat} (mt : Mt) (hy : c.slot y = some i) (hl : (p.endLine == pos.line) = true) (hs : notStar e1 = true) (h1 : EOk T F X e1 m1) : EOk T F X (.Call (.Attribute (.Name y p2) (mtName mt) p) [e1] [] pos) (.mt mt i (.cons m1 .nil)) :=
  mk (fun _ => nofun) (pe_mt1 (k.var hy) hl hs h1.v) fun _ => rfl
theorem ok_pop (k : CxOk T F c X) {y : Str} {i : Nat} (hy : c.slot y = some i) (hl : (p.endLine == pos.line) = true) : EOk T F X (.Call (.Attribute (.Name y p2) "pop" p) [] [] pos) (.mt .pop i .nil) :=
  mk (fun _ => nofun) (pe_pop (k.var hy) hl) fun _ => rfl
/-! ### rows -/
theorem es_nil : EsOk T F X [] .nil := ⟨fun _ h => by simp at h, fun kp i => paO_nil, paF_nil, PA.imp L2.pa_nil fun _ _ _ h => tR_nil h⟩
theorem es_cons (hs : notStar e = true) (h : EOk T F X e m) (hr : EsOk T F X es l) : EsOk T F X (e :: es) (.cons m l) := by
  refine ⟨fun u hu => ?_, fun kp i => ?_, paF_cons hs h.v hr.f, PA.imp (L2.pa_cons h.v hr.r (star_no hs)) fun _ _ _ h => tR_cons h⟩
  · rcases List.mem_cons.mp hu with rfl | hu
    · exact hs
    · exact hr.ns u hu
  · unfold markEs
    by_cases q : kp.contains i = true
    · rw [if_pos q]
      exact paO_cons hs (pe_opd (m := .val m) (fun _ => nofun) h.v) (hr.o kp (i + 1))
    · rw [if_neg q]
      exact paO_cons hs h.o (hr.o kp (i + 1))
theorem mark_nil : ∀ (l : Es) (i : Nat), markEs [] i l = l
  | .nil, _ => rfl
  | .cons e r, i => by
    unfold markEs
    rw [mark_nil r (i + 1)]
    rfl
theorem EsOk.o0 (h : EsOk T F X es l) : PA X es (tOs T (evs F l)) := by
  have := h.o [] 0
  rw [mark_nil] at this
  exact this
/-! ### calls of built-ins -/
theorem ok_isi (k : CxOk T F c X) {ty : Ty} (hg : c.g "isinstance" = some .blt) (n1 : notStar e1 = true) (n2 : notStar e2 = true) (h1 : EOk T F X e1 m1) (ht : c.ty1 e2 = some ty) : EOk T F X (.Call (.Name "isinstance" p) [e1, e2] [] pos) (.isi m1 [ty]) := by
  obtain ⟨q1, q2, q3⟩ := k.g_ hg
  have hty : PE X e2 (L2.tC (cvV T.C ty)) := by
    unfold Ctx.ty1 at ht
    split at ht
    · rename_i y py
      split at ht
      · rename_i hy
        obtain ⟨r1, r2, r3⟩ := k.g_ hy
        have hm := k.gb y r3
        have : (y, ty) ∈ tyNames := by
          generalize tyNames = L at ht
          induction L with
          | nil => cases ht
          | cons a L ih =>
            rw [List.lookup_cons] at ht
            by_cases e : y == a.1
            · simp only [e] at ht
              cases ht
              rw [eq_of_beq e]
              exact List.mem_cons_self
            · simp only [Bool.not_eq_true _ ▸ e] at ht
              exact List.mem_cons_of_mem _ (ih ht)
        simp only [tyNames, List.mem_cons, Prod.mk.injEq, List.not_mem_nil, or_false] at this
        rcases this with ⟨rfl, rfl⟩ | ⟨rfl, rfl⟩ | ⟨rfl, rfl⟩ | ⟨rfl, rfl⟩ | ⟨rfl, rfl⟩ | ⟨rfl, rfl⟩
        · exact L2.pe_bltn (u := .type "int") r1 hm (by kernel_rfl) rfl (by decide) r2
        · exact L2.pe_bltn (u := .type "bool") r1 hm (by kernel_rfl) rfl (by decide) r2
        · exact L2.pe_bltn (u := .type "tuple") r1 hm (by kernel_rfl) rfl (by decide) r2
        · exact L2.pe_bltn (u := .type "list") r1 hm (by kernel_rfl) rfl (by decide) r2
        · exact L2.pe_bltn (u := .type "dict") r1 hm (by kernel_rfl) rfl (by decide) r2
        · exact L2.pe_bltn (u := .type "str") r1 hm (by kernel_rfl) rfl (by decide) r2
      · rename_i hy
        cases ht
        obtain ⟨r1, r2, r3⟩ := k.g_ hy
        exact L2.pe_glob r1 (k.gw y r3) rfl r2
      · cases ht
    · cases ht
  exact mk (fun _ => nofun) (pe_isiE k.K k.wk q1 (k.gb _ q3) n1 h1.o hty n2) fun _ => rfl
theorem blt_mem {x : Str} {b : Blt} (h : bltNames.lookup x = some b) : (x, b) ∈ bltNames := by
  generalize bltNames = L at h
  induction L with
  | nil => cases h
  | cons a L ih =>
    rw [List.lookup_cons] at h
    by_cases e : x == a.1
    · simp only [e] at h
      cases h
      rw [eq_of_beq e]
      exact List.mem_cons_self
    · simp only [Bool.not_eq_true _ ▸ e] at h
      exact List.mem_cons_of_mem _ (ih h)
theorem ok_blt (k : CxOk T F c X) {b : Blt} (hg : c.g x = some .blt) (hb : bltNames.lookup x = some b) (ha : EsOk T F X (e :: es) l) : EOk T F X (.Call (.Name x p) (e :: es) [] pos) (.blt b l) := by
  obtain ⟨q1, q2, q3⟩ := k.g_ hg
  have hm := k.gb x q3
  have hu : X.A.units + 90 < cLine := by have := k.un; omega
  refine mk (fun _ => nofun) ?_ fun _ => rfl
  have := blt_mem hb
  simp only [bltNames, List.mem_cons, Prod.mk.injEq, List.not_mem_nil, or_false] at this
  rcases this with ⟨rfl, rfl⟩ | ⟨rfl, rfl⟩ | ⟨rfl, rfl⟩ | ⟨rfl, rfl⟩ | ⟨rfl, rfl⟩ | ⟨rfl, rfl⟩ | ⟨rfl, rfl⟩ | ⟨rfl, rfl⟩ | ⟨rfl, rfl⟩ | ⟨rfl, rfl⟩ | ⟨rfl, rfl⟩
  · exact pe_bltB (b := .abs) rfl call_absB q1 hm (by kernel_rfl) (by decide) q2 ha.ns ha.o0
  · exact pe_bltB (b := .all) rfl (call_allB k.K k.calm) q1 hm (by kernel_rfl) (by decide) q2 ha.ns ha.o0
  · exact pe_bltB (b := .any) rfl (call_anyB k.K k.calm) q1 hm (by kernel_rfl) (by decide) q2 ha.ns ha.o0
  · exact pe_bltT (b := .int) rfl call_intB q1 hm (by kernel_rfl) (by decide) q2 ha.ns ha.o0
  · exact pe_bltB (b := .len) rfl call_lenB q1 hm (by kernel_rfl) (by decide) q2 ha.ns ha.o0
  · exact pe_bltB (b := .max) rfl (call_max k.calm hu) q1 hm (by kernel_rfl) (by decide) q2 ha.ns ha.o0
  · exact pe_bltB (b := .min) rfl (call_min k.calm hu) q1 hm (by kernel_rfl) (by decide) q2 ha.ns ha.o0
  · exact pe_bltB (b := .sorted) rfl (call_sortedB hu) q1 hm (by kernel_rfl) (by decide) q2 ha.ns ha.o0
  · exact pe_bltB (b := .sum) rfl (call_sumB k.calm) q1 hm (by kernel_rfl) (by decide) q2 ha.ns ha.o0
  · exact pe_bltT (b := .list) rfl call_listB q1 hm (by kernel_rfl) (by decide) q2 ha.ns ha.o0
  · exact pe_bltT (b := .tuple) rfl call_tupleB q1 hm (by kernel_rfl) (by decide) q2 ha.ns ha.o0
end
end BV

/-! Expressions: what is translated does what its tree says. -/
namespace BV
open PySem (Str Addr Expr Stmt PyData Operator CmpOp cLine Value Shared Around Program World wpAny model Reads ReadsAll bootBuiltins Scope NameKind)
open L2 (V HO Hp upd upd_same upd_ne SqL SqT Cx PE TE VK OpR Dp DpAll Inv Vals RelV PT PW TT PA TA CallR EP Gl MtR PG PGs PI PTs PS PSs TS Ends PO)

structure IH (T : Tx) (F : Phi) (n : Nat) : Prop where
  e : ∀ c X, CxOk T F c X → ∀ e m, trE c n e = some m → EOk T F X e m
  es : ∀ c X, CxOk T F c X → ∀ es l, trEs c n es = some l → EsOk T F X es l
  b : ∀ c X, CxOk T F c X → ∀ o es m pos, trB c n o es = some m → PE X (.BoolOp o es pos) (tE T (ev F m)) ∧ PW X (.BoolOp o es pos) (tT T (ev F m)) ∧ PE X (.BoolOp o es pos) (tO T (opd m (ev F m)))
  o : ∀ c X, CxOk T F c X → ∀ e m, trO c n e = some m → PO X e (tPx T (m.map (ev F)))
  c : ∀ c X, CxOk T F c X → ∀ x args m p pos, c.g x = some .blt → trC c n x args = some m → EOk T F X (.Call (.Name x p) args [] pos) m
  i : ∀ c X, CxOk T F c X → ∀ tg e it, trI c n (isTup tg) e = some it → PI X tg e (tI T (evI F it)) ∧ ∀ x, PySem.foldedSetIterable e X.env x = pure x
section
variable {T : Tx} {F : Phi}
theorem mt_mem {x : Str} {b : Mt} (h : mtNames.lookup x = some b) : x = mtName b := by
  have : (x, b) ∈ mtNames := by
    generalize mtNames = L at h
    induction L with
    | nil => cases h
    | cons a L ih =>
      rw [List.lookup_cons] at h
      by_cases e : x == a.1
      · simp only [e] at h
        cases h
        rw [eq_of_beq e]
        exact List.mem_cons_self
      · simp only [Bool.not_eq_true _ ▸ e] at h
        exact List.mem_cons_of_mem _ (ih h)
  simp only [mtNames, List.mem_cons, Prod.mk.injEq, List.not_mem_nil, or_false] at this
  rcases this with ⟨rfl, rfl⟩ | ⟨rfl, rfl⟩ | ⟨rfl, rfl⟩ | ⟨rfl, rfl⟩ <;> rfl
theorem ownOf_ok {N : List Str} : ∀ {l : List (Str × NameKind)} {own : List (Str × Nat)}, ownOf N l = some own → True := fun _ => trivial
theorem pts_of {c : Ctx} {X : Cx} (k : CxOk T F c X) {n : Nat} (ih : IH T F n) {ifs : List Expr} {cd : E} (h : (match ifs with
    | [] => some (E.bl true)
    | [t] => trE c n t
    | _ => none) = some cd) : PTs X ifs (tT T (ev F cd)) := by
  split at h
  · cases h
    refine ⟨fun pins s σ H Q I hw => L2.pts_nil.run pins s σ H Q I ?_⟩
    obtain ⟨w, z, z', o, b, s1, e, q⟩ := hw
    have e : some (z, false, D.bl true) = some (z', o, D.bl b) := e
    cases e
    exact q w H s1 (Ext.refl w H)
  · exact L2.pts_one (ih.e c X k _ _ h).t
  · cases h
theorem ih_zero : IH T F 0 where
  e := fun c X k e m h => by unfold trE at h; cases h
  es := fun c X k es l h => by unfold trEs at h; cases h
  b := fun c X k o es m pos h => by unfold trB at h; cases h
  o := fun c X k e m h => by unfold trO at h; cases h
  c := fun c X k x args m p pos hg h => by unfold trC at h; cases h
  i := fun c X k tg e it h => by unfold trI at h; cases h
theorem step_es {n : Nat} (ih : IH T F n) (c : Ctx) (X : Cx) (k : CxOk T F c X) (es : List Expr) (l : Es) (h : trEs c (n + 1) es = some l) : EsOk T F X es l := by
  unfold trEs at h
  split at h
  · cases ‹_ = 0›
  · cases h
    exact es_nil
  · rename_i e r heq
    split at h
    · rename_i hs
      split at h
      · rename_i m l' h1 h2
        cases h
        cases heq
        exact es_cons hs (ih.e c X k _ _ h1) (ih.es c X k _ _ h2)
      · cases h
    · cases h
theorem step_o {n : Nat} (ih : IH T F n) (c : Ctx) (X : Cx) (k : CxOk T F c X) (e : Option Expr) (m : Option E) (h : trO c (n + 1) e = some m) : PO X e (tPx T (m.map (ev F))) := by
  cases e with
  | none =>
    unfold trO at h
    cases h
    exact L2.po_none
  | some e =>
    unfold trO at h
    obtain ⟨m1, h1, h2⟩ := Option.map_eq_some_iff.mp h
    subst h2
    exact po_yes (ih.e c X k _ _ h1).v
theorem step_b {n : Nat} (ih : IH T F n) (c : Ctx) (X : Cx) (k : CxOk T F c X) (o : PySem.BoolOp) (es : List Expr) (m : E) (pos : PySem.Pos) (h : trB c (n + 1) o es = some m) :
    PE X (.BoolOp o es pos) (tE T (ev F m)) ∧ PW X (.BoolOp o es pos) (tT T (ev F m)) ∧ PE X (.BoolOp o es pos) (tO T (opd m (ev F m))) := by
  match es, h with
  | [], h => unfold trB at h; cases h
  | [a], h =>
    unfold trB at h
    have q := ih.e c X k a m h
    refine ⟨L2.pe_one q.v, ?_, L2.pe_one q.o⟩
    cases o with
    | And => exact L2.pw_and1 q.t
    | Or => exact L2.pw_or1 q.t
  | a :: b :: r, h =>
    unfold trB at h
    split at h
    · rename_i m1 m2 h1 h2
      cases h
      have q := ih.e c X k a m1 h1
      obtain ⟨q1, q2, q3⟩ := ih.b c X k o (b :: r) m2 pos h2
      cases o with
      | And =>
        have v := pe_andE (pos := pos) (p2 := pos) q.v q1
        exact ⟨v, PW.imp (L2.pw_and q.t q2) fun _ _ _ h => tand_of h, pe_opd (m := .and m1 m2) (fun _ => nofun) v⟩
      | Or =>
        have v := pe_orE (pos := pos) (p2 := pos) q.v q1
        exact ⟨v, PW.imp (L2.pw_or q.t q2) fun _ _ _ h => tor_of h, pe_opd (m := .or m1 m2) (fun _ => nofun) v⟩
    · cases h
theorem step_c {n : Nat} (ih : IH T F n) (c : Ctx) (X : Cx) (k : CxOk T F c X) (x : Str) (args : List Expr) (m : E) (p pos : PySem.Pos) (hg : c.g x = some .blt) (h : trC c (n + 1) x args = some m) : EOk T F X (.Call (.Name x p) args [] pos) m := by
  unfold trC at h
  split at h
  · rename_i hx
    subst hx
    split at h
    · rename_i a t
      split at h
      · rename_i hn
        simp only [Bool.and_eq_true] at hn
        split at h
        · rename_i m1 ty h1 h2
          cases h
          exact ok_isi k hg hn.1 hn.2 (ih.e c X k _ _ h1) h2
        · cases h
      · cases h
    · cases h
  · split at h
    · rename_i b hb
      split at h
      · cases h
      · rename_i a r
        obtain ⟨l, h1, h2⟩ := Option.map_eq_some_iff.mp h
        subst h2
        exact ok_blt k hg hb (ih.es c X k _ _ h1)
    · cases h
theorem isTup_is {e : Expr} (h : isTup e = true) : ∃ es k p, e = .Tuple es k p := by
  cases e <;> first | (cases h; done) | skip
  exact ⟨_, _, _, rfl⟩
theorem notSetE {c : Ctx} {n : Nat} {e : Expr} {m : E} (h : trE c n e = some m) (X : Cx) : ∀ x, PySem.foldedSetIterable e X.env x = pure x := by
  intro x
  cases e <;> first | rfl | skip
  cases n with
  | zero => unfold trE at h; cases h
  | succ n => unfold trE at h; cases h
theorem step_i {n : Nat} (ih : IH T F n) (c : Ctx) (X : Cx) (k : CxOk T F c X) (tg e : Expr) (it : It) (h : trI c (n + 1) (isTup tg) e = some it) : PI X tg e (tI T (evI F it)) ∧ ∀ x, PySem.foldedSetIterable e X.env x = pure x := by
  have seq : ∀ {e : Expr} {it : It}, (trE c n e).map It.seq = some it → PI X tg e (tI T (evI F it)) ∧ ∀ x, PySem.foldedSetIterable e X.env x = pure x := by
    intro e it h
    obtain ⟨m, h1, h2⟩ := Option.map_eq_some_iff.mp h
    subst h2
    exact ⟨pi_seqE k.K (ih.e c X k _ _ h1).o, notSetE h1 X⟩
  unfold trI at h
  split at h
  · rename_i x p a pos
    split at h
    · rename_i hx
      simp only [Bool.and_eq_true, decide_eq_true_eq, Ctx.isB] at hx
      obtain ⟨hb, rfl⟩ := hx
      obtain ⟨q1, q2, q3⟩ := k.g_ hb
      split at h
      · rename_i hs
        obtain ⟨m, h1, h2⟩ := Option.map_eq_some_iff.mp h
        subst h2
        exact ⟨pi_rng1E q1 (k.gb _ q3) hs (ih.e c X k _ _ h1).v, fun _ => rfl⟩
      · cases h
    · split at h
      · rename_i hx
        simp only [Bool.and_eq_true, decide_eq_true_eq, Ctx.isB] at hx
        obtain ⟨hb, rfl⟩ := hx
        obtain ⟨q1, q2, q3⟩ := k.g_ hb
        split at h
        · rename_i hs
          simp only [Bool.and_eq_true] at hs
          obtain ⟨es, kk, tp, rfl⟩ := isTup_is hs.2
          obtain ⟨m, h1, h2⟩ := Option.map_eq_some_iff.mp h
          subst h2
          exact ⟨pi_enumE k.K q1 (k.gb _ q3) hs.1 (ih.e c X k _ _ h1).o, fun _ => rfl⟩
        · cases h
      · exact seq h
  · rename_i x p a b pos
    split at h
    · rename_i hx
      simp only [Bool.and_eq_true, decide_eq_true_eq, Ctx.isB] at hx
      obtain ⟨hb, rfl⟩ := hx
      obtain ⟨q1, q2, q3⟩ := k.g_ hb
      split at h
      · rename_i hs
        simp only [Bool.and_eq_true] at hs
        split at h
        · rename_i m1 m2 h1 h2
          cases h
          exact ⟨pi_rng2E q1 (k.gb _ q3) hs.1 hs.2 (ih.e c X k _ _ h1).v (ih.e c X k _ _ h2).v, fun _ => rfl⟩
        · cases h
      · cases h
    · split at h
      · rename_i hx
        simp only [Bool.and_eq_true, decide_eq_true_eq, Ctx.isB] at hx
        obtain ⟨hb, rfl⟩ := hx
        obtain ⟨q1, q2, q3⟩ := k.g_ hb
        split at h
        · rename_i hs
          simp only [Bool.and_eq_true] at hs
          obtain ⟨es, kk, tp, rfl⟩ := isTup_is hs.2
          split at h
          · rename_i m1 m2 h1 h2
            cases h
            exact ⟨pi_zipE k.K q1 (k.gb _ q3) hs.1.1 hs.1.2 (ih.e c X k _ _ h1).o (ih.e c X k _ _ h2).o, fun _ => rfl⟩
          · cases h
        · cases h
      · exact seq h
  · exact seq h
end
end BV

/-! Expressions: the step, the whole. -/
namespace BV
open PySem (Str Addr Expr Stmt PyData Operator CmpOp cLine Value Shared Around Program World wpAny model Reads ReadsAll bootBuiltins Scope NameKind)
open L2 (V HO Hp upd upd_same upd_ne SqL SqT Cx PE TE VK OpR Dp DpAll Inv Vals RelV PT PW TT PA TA CallR EP Gl MtR PG PGs PI PTs PS PSs TS Ends PO)
section
variable {T : Tx} {F : Phi}
/-- the parts of a comprehension -/
theorem comp_parts {n : Nat} (ih : IH T F n) (c : Ctx) (X : Cx) (k : CxOk T F c X) {elt tg iter : Expr} {ifs : List Expr} {scope : Scope} {pos : PySem.Pos} {m : E} (h : trE c (n + 1) (.ListComp elt [⟨tg, iter, ifs, 0⟩] scope pos) = some m) :
    ∃ own it g el cd, L2.blkC c.N c.sc scope own = true ∧ tgt (c.blk scope) n tg = some g ∧ (∀ i ∈ g.slots, i ∈ own.map (·.2)) ∧ PI X tg iter (tI T (evI F it)) ∧ (∀ x, PySem.foldedSetIterable iter X.env x = pure x) ∧
      (∀ X', CxOk T F (c.blk scope) X' → PTs X' ifs (tT T (ev F cd))) ∧ (∀ X', CxOk T F (c.blk scope) X' → PE X' elt (tE T (ev F el))) ∧ m = .comp el g it cd (own.map (·.2)) := by
  unfold trE at h
  simp only at h
  split at h
  · rename_i own ho
    split at h
    · rename_i hb
      split at h
      · rename_i it g el cd h1 h2 h3 h4
        split at h
        · rename_i hs
          cases h
          obtain ⟨q1, q2⟩ := ih.i c X k tg iter it h1
          refine ⟨own, it, g, el, cd, hb, h2, fun i hi => ?_, q1, q2, fun X' k' => pts_of k' ih h4, fun X' k' => (ih.e _ X' k' _ _ h3).v, rfl⟩
          have := List.all_eq_true.mp hs i hi
          simpa using this
        · cases h
      · cases h
    · cases h
  · cases h
theorem step_e {n : Nat} (ih : IH T F n) (c : Ctx) (X : Cx) (k : CxOk T F c X) (e : Expr) (m : E) (h : trE c (n + 1) e = some m) : EOk T F X e m := by
  have h0 := h
  unfold trE at h
  simp only at h
  split at h
  · -- Name
    split at h
    · rename_i i hi
      cases h
      exact ok_var k hi
    · split at h
      · rename_i i hi
        cases h
        exact ok_gint k hi
      · cases h
  · cases h; exact ok_int
  · cases h; exact ok_bl
  · cases h; exact ok_non
  · cases h; exact ok_str
  · -- BinOp
    split at h
    · rename_i b m1 m2 hb h1 h2
      cases h
      exact ok_bin k hb (ih.e c X k _ _ h1) (ih.e c X k _ _ h2)
    · cases h
  · obtain ⟨m1, h1, h2⟩ := Option.map_eq_some_iff.mp h
    subst h2
    exact ok_neg (ih.e c X k _ _ h1)
  · obtain ⟨m1, h1, h2⟩ := Option.map_eq_some_iff.mp h
    subst h2
    exact ok_not (ih.e c X k _ _ h1)
  · rename_i o es p
    obtain ⟨q1, q2, q3⟩ := ih.b c X k o es m p h
    exact ⟨q1, q3, q2.pt⟩
  · -- Compare
    split at h
    · rename_i hs
      split at h
      · rename_i m1 m2 h1 h2
        cases h
        exact ok_cmp k hs (ih.e c X k _ _ h1) (ih.e c X k _ _ h2)
      · cases h
    · cases h
  · split at h
    · rename_i hs
      simp only [Bool.and_eq_true] at hs
      split at h
      · rename_i m1 m2 m3 h1 h2 h3
        cases h
        exact ok_cmp2 k hs.2 (ih.e c X k _ _ h1) (ih.e c X k _ _ h2) (ih.e c X k _ _ h3)
      · cases h
    · cases h
  · split at h
    · rename_i m1 m2 m3 h1 h2 h3
      cases h
      exact ok_ite (ih.e c X k _ _ h1) (ih.e c X k _ _ h2) (ih.e c X k _ _ h3)
    · cases h
  · obtain ⟨m1, h1, h2⟩ := Option.map_eq_some_iff.mp h
    subst h2
    exact ok_tup (ih.es c X k _ _ h1)
  · obtain ⟨m1, h1, h2⟩ := Option.map_eq_some_iff.mp h
    subst h2
    exact ok_lst (ih.es c X k _ _ h1)
  · cases h; exact ok_dic0
  · -- reversed
    obtain ⟨m1, h1, h2⟩ := Option.map_eq_some_iff.mp h
    subst h2
    exact ok_rev k (ih.e c X k _ _ h1)
  · split at h
    · rename_i m1 ml mh h1 h2 h3
      cases h
      exact ok_sl k (ih.e c X k _ _ h1) (ih.o c X k _ _ h2) (ih.o c X k _ _ h3)
    · cases h
  · split at h
    · rename_i hs
      split at h
      · rename_i m1 m2 h1 h2
        cases h
        exact ok_ix k hs (ih.e c X k _ _ h1) (ih.e c X k _ _ h2)
      · cases h
    · cases h
  · -- Attribute
    split at h
    · rename_i hs
      split at h
      · rename_i m1 h1
        split at h
        · rename_i hf
          subst hf
          cases h
          exact ok_fld k .corners hs (ih.e c X k _ _ h1)
        · split at h
          · rename_i hf
            subst hf
            cases h
            exact ok_fld k .lines hs (ih.e c X k _ _ h1)
          · cases h
      · cases h
    · cases h
  · -- Call of a name
    split at h
    · rename_i f kp hf
      split at h
      · cases h
      · rename_i hne
        obtain ⟨l, h1, h2⟩ := Option.map_eq_some_iff.mp h
        subst h2
        exact ok_call k hf (fun e => hne (by rw [e]; rfl)) (ih.es c X k _ _ h1)
    · rename_i hf
      split at h
      · rename_i a b
        split at h
        · rename_i hn
          simp only [Bool.and_eq_true] at hn
          split at h
          · rename_i m1 m2 h1 h2
            cases h
            exact ok_web k hf hn.1 hn.2 (ih.e c X k _ _ h1) (ih.e c X k _ _ h2)
          · cases h
        · cases h
      · cases h
    · rename_i hf
      exact ih.c c X k _ _ _ _ _ hf h
    · cases h
  · -- Call of a method
    split at h
    · rename_i hc
      simp only [Bool.and_eq_true, decide_eq_true_eq] at hc
      obtain ⟨⟨hn, hl⟩, _⟩ := hc
      split at h
      · rename_i hm
        subst hm
        split at h
        · obtain ⟨m1, h1, h2⟩ := Option.map_eq_some_iff.mp h
          subst h2
          exact ok_there k hn hl (ih.e c X k _ _ h1)
        · cases h
      · split at h
        · rename_i mt hmt
          have e1 := mt_mem hmt
          subst e1
          split at h
          · split at h
            · rename_i i hi
              split at h
              · split at h
                · rename_i hp
                  subst hp
                  cases h
                  exact ok_pop k hi hl
                · cases h
              · split at h
                · rename_i hs
                  obtain ⟨m1, h1, h2⟩ := Option.map_eq_some_iff.mp h
                  subst h2
                  exact ok_mt1 k mt hi hl hs (ih.e c X k _ _ h1)
                · cases h
              · cases h
            · cases h
          · cases h
        · cases h
    · cases h
  · -- comprehension
    obtain ⟨own, it, g, el, cd, hb, hg, hs, hi, hf, ht, he, rfl⟩ := comp_parts ih c X k h0
    exact mk (fun _ => nofun) (pe_compE k hb hg hs hi hf ht he) fun _ => rfl
  · cases h
theorem ih_all : ∀ n, IH T F n
  | 0 => ih_zero
  | n + 1 => ⟨fun c X k => step_e (ih_all n) c X k, fun c X k => step_es (ih_all n) c X k, fun c X k => step_b (ih_all n) c X k, fun c X k => step_o (ih_all n) c X k, fun c X k => step_c (ih_all n) c X k, fun c X k => step_i (ih_all n) c X k⟩
end
end BV

/-! Statements: what is translated does what its tree says. -/
namespace BV
open PySem (Str Addr Expr Stmt PyData Operator CmpOp cLine Value Shared Around Program World wpAny model Reads ReadsAll bootBuiltins Scope NameKind)
open L2 (V HO Hp upd upd_same upd_ne SqL SqT Cx PE TE VK OpR Dp DpAll Inv Vals RelV PT PW TT PA TA CallR EP Gl MtR PG PGs PI PTs PS PSs TS Ends PO)
section
variable {T : Tx} {F : Phi}
structure SIH (T : Tx) (F : Phi) (n : Nat) : Prop where
  s : ∀ c X, CxOk T F c X → ∀ st m, trS c n st = some m → PS X st (tX T (exec F m))
  ss : ∀ c X, CxOk T F c X → ∀ sts l, trSs c n sts = some l → PSs X sts (tX T (execs F l))
theorem sw_no {e : Expr} (h : notComp e = true) (t : Option Expr) (l : Nat) (env : PySem.Env) : PySem.swapsWith e t l env = pure false := by
  cases e <;> first | rfl | cases h
theorem sw_false {c : Ctx} {X : Cx} (k : CxOk T F c X) {y : Str} {py : PySem.Pos} {e : Expr} {l : Nat} (hn : ∀ el gs sc pos, e ≠ .SetComp el gs sc pos) (hd : ∀ a b gs sc pos, e ≠ .DictComp a b gs sc pos) (h : lcHere c y py e = false) : PySem.swapsWith e (some (.Name y py)) l X.env = pure false := by
  cases e <;> first | rfl | (exact absurd rfl (hn _ _ _ _)) | (exact absurd rfl (hd _ _ _ _ _)) | skip
  rename_i el gs scope pos
  unfold lcHere at h
  simp only at h
  have ek : X.env.kindOf y = c.kind y := by
    show X.env.scope.names.lookup y = _
    rw [k.sc]; rfl
  unfold PySem.swapsWith
  simp only [ek, Expr.pos]
  have : (c.kind y == some NameKind.local) = decide (c.kind y = some .local) := by
    by_cases q : c.kind y = some .local <;> simp [q]
  rw [Bool.and_assoc, Bool.and_assoc]
  rw [this]
  rw [Bool.and_assoc] at h
  rw [h, Bool.and_false]
theorem notSC {c : Ctx} {n : Nat} {e : Expr} {m : E} (h : trE c n e = some m) : (∀ el gs sc pos, e ≠ .SetComp el gs sc pos) ∧ ∀ a b gs sc pos, e ≠ .DictComp a b gs sc pos := by
  constructor
  · rintro el gs sc pos rfl
    cases n with
    | zero => unfold trE at h; cases h
    | succ n => unfold trE at h; cases h
  · rintro a b gs sc pos rfl
    cases n with
    | zero => unfold trE at h; cases h
    | succ n => unfold trE at h; cases h
theorem isFun_is {c : Ctx} (h : c.isFun = true) : c.sc.kind = .function := by
  unfold Ctx.isFun at h
  split at h
  · assumption
  · cases h
theorem swC_eq {c : Ctx} {X : Cx} (k : CxOk T F c X) (hf : c.isFun = true) {ts vs : List Expr} {kt k2 : Nat} {pt p2 : PySem.Pos} {r : Option (List Str)} (h : swC c ts vs = some r) : PySem.swappedStores [.Tuple ts kt pt] (.Tuple vs k2 p2) X.env = pure r := by
  have hk : X.env.scope.kind = .function := by rw [k.sc]; exact isFun_is hf
  have hb : X.env.blockKind = .function := by unfold PySem.Env.blockKind; rw [hk]; rfl
  have ek : ∀ y, X.env.kindOf y = c.kind y := fun y => by
    show X.env.scope.names.lookup y = _
    rw [k.sc]; rfl
  have en : ∀ f : Expr → Option Str, (∀ e, f e = nmAt c ((ts.head?.map (·.pos.line)).getD 0) e) → ts.filterMap f = ts.filterMap (nmAt c ((ts.head?.map (·.pos.line)).getD 0)) := fun f h => by rw [funext h]
  have es : ∀ f : Expr → Bool, (∀ e, f e = isStar e) → vs.any f = vs.any isStar := fun f h => by rw [funext h]
  unfold PySem.swappedStores
  simp only [hb, bne_self_eq_false, Bool.or_false]
  rw [es _ (fun e => by cases e <;> rfl), en _ (fun e => by
    cases e <;> try rfl
    simp only [nmAt, ek])]
  unfold swC at h
  split at h
  · rename_i h1
    cases h
    rw [if_pos h1]
  · rename_i h1
    rw [if_neg h1]
    split at h
    · rename_i h2
      cases h
      rw [if_pos h2]
    · rename_i h2
      rw [if_neg h2]
      split at h
      · rename_i h3
        cases h
        rw [if_pos h3]
      · rename_i h3
        rw [if_neg h3]
        split at h
        · rename_i h4
          cases h
          rw [if_pos h4]
        · rename_i h4
          rw [if_neg h4]
          split at h
          · cases h
          · rename_i h5
            cases h
            rw [if_neg h5]
theorem names_tgts {c : Ctx} : ∀ {ts : List Expr} {l : List (Nat × Bool)} {n : Nat}, ts.length + 1 ≤ n → trNames c ts = some l → tgt.tgts c n ts = some (toTGs l)
  | [], l, n, hn, h => by
    unfold trNames at h
    cases h
    cases n with
    | zero => omega
    | succ n => rfl
  | e :: r, l, n, hn, h => by
    cases e <;> first | (unfold trNames at h; cases h; done) | skip
    rename_i x pos
    unfold trNames at h
    split at h
    · rename_i i l' h1 h2
      split at h
      · cases h
        rw [List.length_cons] at hn
        match n, hn with
        | 0, hn => omega
        | 1, hn => omega
        | n + 2, hn =>
          have := names_tgts (n := n + 1) (by omega) h2
          unfold tgt.tgts
          rw [this]
          unfold tgt
          rw [h1]
          rfl
      · cases h
    · cases h
theorem names_nm {c : Ctx} {ln : Nat} {e : Expr} {x : Str} (h : nmAt c ln e = some x) : ∃ pos, e = .Name x pos ∧ c.kind x = some .local := by
  cases e <;> first | (cases h; done) | skip
  rename_i y pos
  unfold nmAt at h
  simp only at h
  split at h
  · rename_i hc
    cases h
    simp only [Bool.and_eq_true, beq_iff_eq] at hc
    exact ⟨pos, rfl, hc.1⟩
  · cases h
theorem swC_len {c : Ctx} {ts vs : List Expr} {xs : List Str} (h : swC c ts vs = some (some xs)) : (ts.length = 2 ∨ ts.length = 3) ∧ vs.length = ts.length ∧ ts.mapM (nmAt c ((ts.head?.map (·.pos.line)).getD 0)) = some xs := by
  unfold swC at h
  split at h
  · cases h
  · rename_i h1
    split at h
    · cases h
    · split at h
      · cases h
      · rename_i h3
        split at h
        · cases h
        · split at h
          · cases h
          · cases h
            simp only [Bool.or_eq_true, Bool.not_eq_true', not_or, Bool.not_eq_false, bne_iff_ne, ne_eq, Decidable.not_not, beq_iff_eq] at h1 h3
            refine ⟨h1.1, h1.2, ?_⟩
            have h4 := h3.1
            generalize nmAt c ((ts.head?.map (·.pos.line)).getD 0) = f at *
            clear h1 h3
            induction ts with
            | nil => rfl
            | cons t ts ih =>
              cases hf : f t with
              | none =>
                rw [List.filterMap_cons_none hf, List.length_cons] at h4
                have := List.length_filterMap_le f ts
                omega
              | some y =>
                rw [List.filterMap_cons_some hf, List.length_cons, List.length_cons] at h4
                have := ih (by omega)
                simp only [List.mapM_cons, hf, this, List.filterMap_cons_some hf]
                rfl
end
end BV

/-! Statements: the step, the whole. -/
namespace BV
open PySem (Str Addr Expr Stmt PyData Operator CmpOp cLine Value Shared Around Program World wpAny model Reads ReadsAll bootBuiltins Scope NameKind)
open L2 (V HO Hp upd upd_same upd_ne SqL SqT Cx PE TE VK OpR Dp DpAll Inv Vals RelV PT PW TT PA TA CallR EP Gl MtR PG PGs PI PTs PS PSs TS Ends PO)
section
variable {T : Tx} {F : Phi}
theorem sih_zero : SIH T F 0 where
  s := fun c X k st m h => by unfold trS at h; cases h
  ss := fun c X k sts l h => by unfold trSs at h; cases h
theorem step_ss {n : Nat} (ih : SIH T F n) (c : Ctx) (X : Cx) (k : CxOk T F c X) (sts : List Stmt) (l : Ss) (h : trSs c (n + 1) sts = some l) : PSs X sts (tX T (execs F l)) := by
  cases sts with
  | nil =>
    unfold trSs at h
    cases h
    exact PSs.imp L2.pss_nil fun D σ H h => next_of h
  | cons st r =>
    unfold trSs at h
    split at h
    · rename_i m l' h1 h2
      cases h
      exact PSs.imp (L2.pss_cons (ih.s c X k _ _ h1) (ih.ss c X k _ _ h2)) fun D σ H h => seq_of h
    · cases h
theorem comp_shape {c : Ctx} {n : Nat} {elt : Expr} {gs : List PySem.Comprehension} {scope : Scope} {pos : PySem.Pos} {m : E} (h : trE c n (.ListComp elt gs scope pos) = some m) : ∃ n' tg iter ifs, n = n' + 1 ∧ gs = [⟨tg, iter, ifs, 0⟩] := by
  cases n with
  | zero => unfold trE at h; cases h
  | succ n =>
    have : ∀ e, e = .ListComp elt gs scope pos → trE c (n + 1) e = some m → ∃ n' tg iter ifs, n + 1 = n' + 1 ∧ gs = [⟨tg, iter, ifs, 0⟩] := by
      intro e he h
      unfold trE at h
      simp only at h
      split at h <;> first | (cases he; done) | (cases h; done) | (cases he; exact ⟨n, _, _, _, rfl, rfl⟩)
    exact this _ rfl h
theorem ok_set (c : Ctx) (X : Cx) (k : CxOk T F c X) {n : Nat} {y : Str} {py pos : PySem.Pos} {e : Expr} {i : Nat} {m : E} {mu : Bool} (hi : c.stoSlot y = some i) (he : trE c n e = some m) (hl : (lcHere c y py e && !c.isFun) = false) : PS X (.Assign [.Name y py] e pos) (tX T (xSet i mu (ev F m))) := by
  obtain ⟨q1, q2, q3⟩ := k.sto hi
  have nd : X.N.Nodup := by rw [k.N]; exact k.nd
  cases hlc : lcHere c y py e with
  | false =>
    obtain ⟨n1, n2⟩ := notSC he
    exact PS.imp (L2.ps_set nd q1 q2 ((ih_all n).e c X k _ _ he).v (sw_false k n1 n2 hlc) q3) fun D σ H h => asg_of h
  | true =>
    rw [hlc, Bool.true_and, Bool.not_eq_false'] at hl
    cases e <;> first | (cases hlc; done) | skip
    rename_i elt gs scope p2
    obtain ⟨n', tg, iter, ifs, rfl, rfl⟩ := comp_shape he
    obtain ⟨own, it, g, el, cd, hb, hg, hs, hit, hf, ht, hel, rfl⟩ := comp_parts (ih_all n') c X k he
    unfold lcHere at hlc
    simp only [Bool.and_eq_true, decide_eq_true_eq, Bool.not_eq_true'] at hlc
    have hy : X.env.scope.names.lookup y = some .local := by rw [k.sc]; exact hlc.1.1
    have hk : X.env.scope.kind = .function := by rw [k.sc]; exact isFun_is hl
    refine PS.imp (L2.ps_setLc (g := gOf X.K g) k.calm nd q1 hy (L2.sw_true hk hy hlc.1.2 hlc.2) hit (L2.blkOk_by (by rw [k.N, k.sc]; exact hb)) (fun s H C cl fp => by
      have := pg_tgt k.blk n' tg g hg (X := X.blk s H scope (PySem.compEnvC scope cl C X.env) fp)
      exact this) (fun s H C cl fp => ht _ k.blk) (fun s H C cl fp => hel _ k.blk) hf) fun D σ H h => ?_
    have h2 := asg_of h
    have h3 := comp_of (Q := fun x H1 => L2.gName i x σ H1 D.nx) hs h2
    rw [k.K] at h3
    exact h3
theorem ok_par (c : Ctx) (X : Cx) (k : CxOk T F c X) (hf : c.isFun = true) {ts vs : List Expr} {kt k2 : Nat} {pt p2 pos : PySem.Pos} {r : Option (List Str)} {l : List (Nat × Bool)} {es : Es} (hr : swC c ts vs = some r) (hn : trNames c ts = some l) (hs : EsOk T F X vs es) (h30 : l.length ≤ 30) :
    PS X (.Assign [.Tuple ts kt pt] (.Tuple vs k2 p2) pos) (tX T (xPar l (evR F es))) := by
  have nd : X.N.Nodup := by rw [k.N]; exact k.nd
  have hw := swC_eq (kt := kt) (k2 := k2) (pt := pt) (p2 := p2) k hf hr
  cases r with
  | none =>
    have hg : tgt c (ts.length + 1 + 1) (.Tuple ts kt pt) = some (.tp (toTGs l)) := by
      have := names_tgts (n := ts.length + 1) (Nat.le_refl _) hn
      unfold tgt
      rw [this]
      rfl
    refine PS.imp (L2.ps_asg (L2.pe_tup hs.r) (pg_tgt k _ _ _ hg) rfl hw rfl) fun D σ H h => ?_
    have := parN_of h30 h
    rw [k.K] at this
    exact this
  | some xs =>
    obtain ⟨hl, hv, hx⟩ := swC_len hr
    have lk : ∀ y, X.env.scope.names.lookup y = c.kind y := fun y => by rw [k.sc]; rfl
    have two : ∀ {t : Expr} {x : Str} {f : Expr → Option Str} {ln : Nat}, f = nmAt c ln → f t = some x → ∃ pos, t = .Name x pos ∧ X.env.scope.names.lookup x = some .local := by
      rintro t x f ln rfl h
      obtain ⟨pos, h1, h2⟩ := names_nm h
      exact ⟨pos, h1, by rw [lk]; exact h2⟩
    rcases hl with hl | hl
    · match ts, vs, hl, hv with
      | [t1, t2], [v1, v2], _, _ =>
        generalize hfe : nmAt c _ = f at hx
        simp only [List.mapM_cons, List.mapM_nil] at hx
        cases e1 : f t1 with
        | none => rw [e1] at hx; cases hx
        | some x1 =>
          cases e2 : f t2 with
          | none => rw [e1, e2] at hx; cases hx
          | some x2 =>
            rw [e1, e2] at hx
            have hx : some [x1, x2] = some xs := hx
            cases hx
            obtain ⟨p1, rfl, l1⟩ := two hfe.symm e1
            obtain ⟨p3, rfl, l2⟩ := two hfe.symm e2
            simp only [trNames] at hn
            split at hn
            · rename_i i l' s1 hn2
              split at hn
              · rename_i hall
                cases hn
                split at hn2
                · rename_i j l2' s2 hn3
                  cases hn3
                  simp only [List.all_nil, if_true] at hn2
                  cases hn2
                  simp only [List.all_cons, List.all_nil, Bool.and_true, bne_iff_ne, ne_eq] at hall
                  obtain ⟨q1, _, _⟩ := k.sto s1
                  obtain ⟨r1, _, _⟩ := k.sto s2
                  exact PS.imp (L2.ps_par k.calm nd q1 r1 (fun e => hall e.symm) l1 l2 hs.r hw) fun D σ H h => par2_of h
                · cases hn2
              · cases hn
            · cases hn
    · match ts, vs, hl, hv with
      | [t1, t2, t3], [v1, v2, v3], _, _ =>
        generalize hfe : nmAt c _ = f at hx
        simp only [List.mapM_cons, List.mapM_nil] at hx
        cases e1 : f t1 with
        | none => rw [e1] at hx; cases hx
        | some x1 =>
          cases e2 : f t2 with
          | none => rw [e1, e2] at hx; cases hx
          | some x2 =>
            cases e3 : f t3 with
            | none => rw [e1, e2, e3] at hx; cases hx
            | some x3 =>
              rw [e1, e2, e3] at hx
              have hx : some [x1, x2, x3] = some xs := hx
              cases hx
              obtain ⟨p1, rfl, l1⟩ := two hfe.symm e1
              obtain ⟨p3, rfl, l2⟩ := two hfe.symm e2
              obtain ⟨p4, rfl, l3⟩ := two hfe.symm e3
              simp only [trNames] at hn
              split at hn
              · rename_i i l' s1 hn2
                split at hn
                · rename_i hall
                  cases hn
                  split at hn2
                  · rename_i j l2' s2 hn3
                    split at hn2
                    · rename_i hall2
                      cases hn2
                      split at hn3
                      · rename_i jj l3' s3 hn4
                        cases hn4
                        simp only [List.all_nil, if_true] at hn3
                        cases hn3
                        simp only [List.all_cons, List.all_nil, Bool.and_true, bne_iff_ne, ne_eq, Bool.and_eq_true] at hall hall2
                        obtain ⟨q1, _, _⟩ := k.sto s1
                        obtain ⟨r1, _, _⟩ := k.sto s2
                        obtain ⟨u1, _, _⟩ := k.sto s3
                        exact PS.imp (L2.ps_par3 k.calm nd q1 r1 u1 (fun e => hall.1 e.symm) (fun e => hall.2 e.symm) (fun e => hall2 e.symm) l1 l2 l3 hs.r hw) fun D σ H h => par3_of h
                      · cases hn3
                    · cases hn2
                  · cases hn2
                · cases hn
              · cases hn
theorem asg_ha {X : Cx} {o i : Expr} {pos : PySem.Pos} (h : notSlice i = true) : ∀ v, PySem.assign (.Subscript o i pos) X.env v = (do
      let ov ← PySem.holding [v] (PySem.eval o X.env)
      let iv ← PySem.holding [v, ov] (PySem.eval i X.env)
      PySem.standAt pos
      PySem.holding [v, ov, iv] (PySem.setItem ov iv v)
      PySem.release [v, ov, iv] []) := by
  intro v
  cases i <;> first | rfl | cases h
theorem step_s {n : Nat} (ih : SIH T F n) (c : Ctx) (X : Cx) (k : CxOk T F c X) (st : Stmt) (m : S) (h : trS c (n + 1) st = some m) : PS X st (tX T (exec F m)) := by
  have nd : X.N.Nodup := by rw [k.N]; exact k.nd
  have hp : PySem.PassesOwn (model X.prog X.w) X.A X.env X.xe := by rw [k.xe]; exact PySem.PassesOwn.never
  have E := ih_all (T := T) (F := F) n
  unfold trS at h
  split at h
  · -- name = e
    split at h
    · rename_i i m1 hi he
      split at h
      · split at h
        · rename_i hc
          cases h
          obtain ⟨q1, q2, q3⟩ := k.sto hi
          exact PS.imp (L2.ps_set nd q1 q2 (E.e c X k _ _ he).v (sw_no hc _ _ _) q3) fun D σ H h => asgH_of h
        · cases h
      · split at h
        · cases h
        · rename_i hl
          cases h
          exact ok_set c X k hi he (by simpa using hl)
    · cases h
  · -- a, b = x, y
    split at h
    · rename_i hf
      split at h
      · rename_i r hr
        split at h
        · rename_i l es h1 h2
          split at h
          · rename_i h30
            cases h
            exact ok_par c X k hf hr h1 (E.es c X k _ _ h2) h30
          · cases h
        · cases h
      · cases h
    · cases h
  · -- a, b = e
    rename_i ts kt pt e pos hne
    split at h
    · rename_i hc
      split at h
      · rename_i g m1 h1 h2
        cases h
        have hg : tgt c (n + 1) (.Tuple ts kt pt) = some (.tp g) := by
          unfold tgt
          rw [h1]
          rfl
        have hw : PySem.swappedStores [.Tuple ts kt pt] e X.env = pure none := by
          cases e <;> first | rfl | exact absurd rfl (hne _ _ _)
        refine PS.imp (L2.ps_asg (E.e c X k _ _ h2).v (pg_tgt k _ _ _ hg) (show PySem.swapsWith e (some (.Tuple ts kt pt)) pos.line X.env = pure false from sw_no hc _ _ _) hw rfl) fun D σ H h => ?_
        have := unp_of h
        rw [k.K] at this
        exact this
      · cases h
    · cases h
  · -- x[i] = e
    rename_i y np i p2 e pos
    split at h
    · rename_i hs
      split at h
      · rename_i kk m1 m2 hy h1 h2
        cases h
        have hw : PySem.swappedStores [.Subscript (.Name y np) i p2] e X.env = pure none := by cases e <;> rfl
        have hsw : PySem.swapsWithSole [.Subscript (.Name y np) i p2] e pos.line X.env = pure false := by cases e <;> rfl
        exact PS.imp (L2.ps_asg (E.e c X k _ _ h2).v (L2.pg_sub (k.var hy) (E.e c X k _ _ h1).v L2.set_list (asg_ha hs)) hsw hw rfl) fun D σ H h => setIx_of h
      · cases h
    · cases h
  · -- e
    split at h
    · rename_i hc
      obtain ⟨m1, h1, h2⟩ := Option.map_eq_some_iff.mp h
      subst h2
      exact PS.imp (L2.ps_expr (E.e c X k _ _ h1).v (sw_no hc _ _ _)) fun D σ H h => drop_of h
    · cases h
  · -- if
    split at h
    · rename_i t a b h1 h2 h3
      cases h
      exact PS.imp (L2.ps_if (E.e c X k _ _ h1).t (ih.ss c X k _ _ h2) (ih.ss c X k _ _ h3)) fun D σ H h => if_of h
    · cases h
  · -- for
    split at h
    · rename_i g it b h1 h2 h3
      cases h
      obtain ⟨q1, q2⟩ := E.i c X k _ _ _ h2
      refine PS.imp (L2.ps_for hp k.calm q1 (pg_tgt k _ _ _ h1) (ih.ss c X k _ _ h3) q2) fun D σ H h => ?_
      have := for_of h
      rw [k.K] at this
      exact this
    · cases h
  · -- while
    split at h
    · rename_i t b h1 h2
      cases h
      exact PS.imp (L2.ps_while hp (E.e c X k _ _ h1).t (ih.ss c X k _ _ h2)) fun D σ H h => whl_of h
    · cases h
  · -- return name
    rename_i x np pos
    obtain ⟨m1, h1, h2⟩ := Option.map_eq_some_iff.mp h
    subst h2
    cases n with
    | zero => unfold trE at h1; cases h1
    | succ n =>
      unfold trE at h1
      simp only at h1
      split at h1
      · rename_i i hi
        cases h1
        exact PS.imp (L2.ps_ret (k.var hi)) fun D σ H h => retv_of (a := ev F (.var i)) h
      · split at h1
        · rename_i i hi
          cases h1
          exact PS.imp (L2.ps_ret (ok_gint (F := F) k hi).v) fun D σ H h => ret_of (m := .int i) (fun _ => nofun) h
        · cases h1
  · -- return e
    split at h
    · cases h
    · rename_i m1 hnv h1
      cases h
      exact PS.imp (L2.ps_ret (E.e c X k _ _ h1).v) fun D σ H h => ret_of (fun i e => hnv i e) h
    · cases h
  · cases h
    refine PS.imp L2.ps_retN fun D σ H h => ?_
    obtain ⟨w, z, o, s, ee, q⟩ := h
    cases ee
    exact q .non w H s.wf (Ext.refl w H) (show Rep T w H .non .non by simp [Rep])
  · cases h
    exact PS.imp L2.ps_pass fun D σ H h => next_of h
  · cases h
    exact PS.imp L2.ps_break fun D σ H h => brk_of h
  · cases h
    exact PS.imp L2.ps_continue fun D σ H h => cont_of h
  · cases h
    exact raise_of
  · cases h
theorem sih_all : ∀ n, SIH T F n
  | 0 => sih_zero
  | n + 1 => ⟨fun c X k => step_s (sih_all n) c X k, fun c X k => step_ss (sih_all n) c X k⟩
end
end BV

/-! Calls of the text's own defs. -/
namespace BV
open PySem (Str Addr Expr Stmt PyData Operator CmpOp cLine Value Shared Around Program World wpAny model Reads ReadsAll bootBuiltins Scope NameKind Arguments FuncData Heap)
open L2 (V HO Hp upd upd_same upd_ne SqL SqT Cx PE TE VK OpR Dp DpAll Inv Vals RelV PT PW TT PA TA CallR EP Gl MtR PG PGs PI PTs PS PSs TS Ends PO FnOk FunD FnScope Sp Room XK Binds CX0 E0)

/-- an argument's value: for good, or lent -/
def ArgOk (T : Tx) (w : W) (H : Hp) : Bool × D → V → Prop
  | (false, d), v => Rep T w H d v
  | (true, d), v => ∃ a, v = .ref a ∧ w.bor a ∧ Top T w H d a
def ArgsOk (T : Tx) (w : W) (H : Hp) : List (Bool × D) → List V → Prop
  | [], vs => vs = []
  | a :: r, vs => ∃ v vs', vs = v :: vs' ∧ ArgOk T w H a v ∧ ArgsOk T w H r vs'
/-- the promise of a def -/
def spD (T : Tx) (F : Phi) (f : Nat) : Sp := fun vs H Q _ => ∃ w h ds h' o d, Wf T w H h ∧ (∀ a, w.own a = none) ∧ F f ds h = some (h', o, d) ∧ ArgsOk T w H ds vs ∧
  ∀ v w' H', Wf T w' H' h' → Ext w H w' H' → RetR T w' H' w H o d v → Q v H'
section
variable {T : Tx} {w w' : W} {H H' : Hp} {σ : L2.St} {z : Z} {F : Phi}
theorem ArgsOk.length : ∀ {ds : List (Bool × D)} {vs : List V}, ArgsOk T w H ds vs → ds.length = vs.length
  | [], _, h => by cases h; rfl
  | a :: r, _, h => by
    obtain ⟨v, vs', rfl, _, h2⟩ := h
    simp [ArgsOk.length h2]
theorem ArgsOk.get : ∀ {ds : List (Bool × D)} {vs : List V} {i : Nat} {a : Bool × D}, ArgsOk T w H ds vs → ds[i]? = some a → ∃ v, vs[i]? = some v ∧ ArgOk T w H a v
  | [], _, _, _, _, e => by simp at e
  | b :: r, _, 0, a, h, e => by
    obtain ⟨v, vs', rfl, h1, _⟩ := h
    have e : b = a := Option.some.inj e
    subst e
    exact ⟨v, rfl, h1⟩
  | b :: r, _, i + 1, a, h, e => by
    obtain ⟨v, vs', rfl, _, h2⟩ := h
    exact ArgsOk.get (i := i) h2 (by simpa using e)
/-! ### the caller -/
/-- the world of a callee -/
def W.callee (w : W) : W := { w with own := fun _ => none, lk := fun _ => False, bor := fun a => w.bor a ∨ ∃ i, w.own a = some i }
theorem gr_callee : Gr w H w.callee H := ⟨fun _ x => ⟨x, rfl⟩, fun _ _ x => x, fun _ x => x⟩
theorem wf_callee {h : Option (List D)} (f : Wf T w H h) : Wf T w.callee H h := by
  refine ⟨fun a ha => ?_, fun a ha => ⟨rfl, (f.exL a ha).2⟩, fun a i e => ?_, f.cache, HandOk.mono gr_callee (fun _ _ => rfl) f.hand, fun a e => ?_, fun a e => ?_⟩
  · obtain ⟨h1, h2, _, h4⟩ := f.exF a ha
    exact ⟨h1, h2, rfl, h4⟩
  · cases e
  · exact e.elim
  · rcases e with e | ⟨i, e⟩
    · obtain ⟨h1, h2, _, h4⟩ := f.bor a e
      exact ⟨h1, h2, rfl, h4⟩
    · obtain ⟨h1, h2⟩ := f.exO a i e
      refine ⟨?_, h2, rfl, h1⟩
      show w.L a = none
      cases q : w.L a with
      | none => rfl
      | some ls =>
        have := (f.exL a (by rw [q]; simp)).1
        rw [e] at this
        cases this
theorem arg_ok (s : SR T w σ H z) {o : Opd} {v : V} {a : Bool × D} (r : OpdRep T w σ H o v) (e : o.arg z = some a) : ArgOk T w.callee H a v := by
  cases o with
  | val d =>
    cases e
    exact Rep.mono gr_callee (show Rep T w H d v from r)
  | slot i =>
    have r : σ[i]? = some (some v) := r
    unfold Opd.arg at e
    simp only at e
    split at e
    · rename_i d hd
      cases e
      obtain ⟨u, h1, h2⟩ := s.frz i d hd
      rw [r] at h1
      cases h1
      exact Rep.mono gr_callee h2
    · rename_i k d hn hd
      cases e
      cases k with
      | frz => exact (hn rfl).elim
      | own =>
        obtain ⟨b, h1, h2, t⟩ := s.own i d hd
        rw [r] at h1
        cases h1
        exact ⟨b, rfl, .inr ⟨i, h2⟩, t.mono gr_callee rfl⟩
      | bor =>
        obtain ⟨b, h1, h2, t⟩ := s.bor i d hd
        rw [r] at h1
        cases h1
        exact ⟨b, rfl, .inl h2, t.mono gr_callee rfl⟩
    · cases e
theorem args_ok (s : SR T w σ H z) : ∀ {os : List Opd} {vs : List V} {ds : List (Bool × D)}, OpdReps T w σ H os vs → args z os = some ds → ArgsOk T w.callee H ds vs
  | [], vs, ds, r, e => by
    cases e
    exact r
  | o :: os, vs, ds, r, e => by
    obtain ⟨v, vs', rfl, h1, h2⟩ := r
    unfold args at e
    split at e
    · rename_i d l e1 e2
      cases e
      exact ⟨v, vs', rfl, arg_ok s h1 e1, args_ok s h2 e2⟩
    · cases e
/-- behind a call -/
def W.ret (w' w : W) : W := { w' with own := w.own, lk := w.lk, bor := w.bor }
theorem ret_ok {h' : Option (List D)} (s : SR T w σ H z) (f : Wf T w' H' h') (x : Ext w.callee H w' H') : SR T (w'.ret w) σ H' { z with h := h' } ∧ Ext w H (w'.ret w) H' := by
  have keepO : ∀ a i, w.own a = some i → H' a = H a := fun a i e => by
    obtain ⟨h1, h2⟩ := s.wf.exO a i e
    cases q : H a with
    | none => exact absurd q h1
    | some u =>
      refine x.keep a u q ?_ h2 (.inl rfl)
      cases q : w.L a with
      | none => exact q
      | some ls => have := (s.wf.exL a (by rw [q]; simp)).1; rw [e] at this; cases this
  have keepB : ∀ a, w.bor a → H' a = H a := fun a e => by
    obtain ⟨h1, h2, h3, h4⟩ := s.wf.bor a e
    cases q : H a with
    | none => exact absurd q h4
    | some u => exact x.keep a u q h1 h2 (.inl rfl)
  have g : Gr w H (w'.ret w) H' := by
    have := gr_callee.trans (x.gr (wf_callee s.wf))
    exact ⟨this.F, this.L, this.hd⟩
  have noF : ∀ a i, w.own a = some i → ¬ w'.F a := fun a i e hF => by
    rcases x.Fn a hF with q | q | ⟨_, q⟩
    · have := (s.wf.exF a q).2.2.1
      rw [e] at this
      cases this
    · exact (s.wf.exO a i e).1 q
    · cases q
  have noL : ∀ a i, w.own a = some i → w'.L a = none := fun a i e => by
    cases q : w'.L a with
    | none => rfl
    | some ls =>
      rcases x.Ln a (by rw [q]; simp) with z2 | z2
      · have := (s.wf.exL a z2).1
        rw [e] at this
        cases this
      · exact absurd z2 (s.wf.exO a i e).1
  have noH : ∀ a i, w.own a = some i → w'.hd ≠ some a := fun a i e q => by
    rcases x.hdn a q with z2 | z2
    · exact (s.wf.exO a i e).2 z2
    · exact (s.wf.exO a i e).1 z2
  refine ⟨⟨⟨fun a ha => ?_, fun a ha => ?_, fun a i e => ⟨by rw [keepO a i e]; exact (s.wf.exO a i e).1, noH a i e⟩, f.cache, ?_, fun a e => x.dom a (s.wf.lkd a e), fun a e => ?_⟩, s.len,
    fun i d e => let ⟨v, e1, r⟩ := s.frz i d e; ⟨v, e1, r.mono g⟩, fun i d e => let ⟨b, e1, e2, r⟩ := s.own i d e; ⟨b, e1, e2, r.mono g (keepO b i e2)⟩, fun i d e => let ⟨b, e1, e2, r⟩ := s.bor i d e; ⟨b, e1, e2, r.mono g (keepB b e2)⟩, s.lk⟩,
    ⟨x.F, fun a h => ?_, x.L, x.Ln, x.hd, x.hdn, fun a i h => .inl h, rfl, rfl, fun a o h1 h2 h3 h4 => x.keep a o h1 h2 h3 (.inl rfl), x.dom⟩⟩
  · obtain ⟨h1, h2, _, h4⟩ := f.exF a ha
    refine ⟨h1, h2, ?_, h4⟩
    cases q : w.own a with
    | none => exact q
    | some i => exact absurd ha (noF a i q)
  · refine ⟨?_, (f.exL a ha).2⟩
    cases q : w.own a with
    | none => exact q
    | some i => exact absurd (noL a i q) ha
  · have hm : Gr w' H' (w'.ret w) H' := ⟨fun _ x => ⟨x, rfl⟩, fun _ _ x => x, fun _ x => x⟩
    exact HandOk.mono hm (fun _ _ => rfl) f.hand
  · obtain ⟨h1, h2, h3, h4⟩ := s.wf.bor a e
    refine ⟨?_, ?_, h3, x.dom a h4⟩
    · cases q : w'.L a with
      | none => exact q
      | some ls =>
        rcases x.Ln a (by rw [q]; simp) with z2 | z2
        · exact absurd h1 z2
        · exact absurd z2 h4
    · intro q
      rcases x.hdn a q with z2 | z2
      · exact h2 z2
      · exact h4 z2
  · rcases x.Fn a h with q | q | ⟨_, q⟩
    · exact .inl q
    · exact .inr (.inl q)
    · cases q
theorem RetR.rep {o : Bool} {d : D} {v : V} {h : Option (List D)} (f : Wf T w H h) (r : RetR T w' H' w.callee H o d v) : RepR T (w'.ret w) H' H o d v := by
  have g : Gr w' H' (w'.ret w) H' := ⟨fun _ x => ⟨x, rfl⟩, fun _ _ x => x, fun _ x => x⟩
  cases o with
  | false => exact Rep.mono g (show Rep T w' H' d v from r)
  | true =>
    obtain ⟨a, e, h0, h1, h2, h3, h4, h5, t⟩ := r
    have h0 : H a = none := by
      rcases h0 with h0 | ⟨i, h0⟩
      · exact h0
      · cases h0
    refine ⟨a, e, h0, h1, h2, h3, h4, ?_, t.mono g rfl⟩
    show w.own a = none
    cases q : w.own a with
    | none => rfl
    | some i => exact absurd h0 (f.exO a i q).1
theorem call_of {f : Nat} {os : OsT} {Q : VK} (h : tE T (sCall F f os) σ H Q) : L2.tCall (spD T F f) [] E0 (tOs T os) σ H Q := by
  obtain ⟨w, z, z', o, d, s, e, q⟩ := h
  unfold sCall at e
  split at e
  case h_2 => cases e
  case h_1 z1 os' e1 =>
    split at e
    case h_2 => cases e
    case h_1 ds e2 =>
      split at e
      case h_2 => cases e
      case h_1 h' o' d' e3 =>
        cases e
        refine ⟨w, z, z1, os', s, e1, fun vs w1 H1 s1 x1 r1 => ?_⟩
        refine ⟨w1.callee, z1.h, ds, h', o, d, wf_callee s1.wf, fun _ => rfl, e3, by rw [List.append_nil]; exact args_ok s1 r1 e2, fun v w2 H2 f2 x2 r2 => ?_⟩
        obtain ⟨s3, x3⟩ := ret_ok s1 f2 x2
        refine q v _ H2 s3 (x1.trans x3) ((RetR.rep s1.wf r2).back x1)
end
end BV

/-! All defs keep their promises. -/
namespace BV
open PySem (Str Addr Expr Stmt PyData Operator CmpOp cLine Value Shared Around Program World wpAny model Reads ReadsAll bootBuiltins Scope NameKind Arguments FuncData Heap)
open L2 (V HO Hp upd upd_same upd_ne SqL SqT Cx PE TE VK OpR Dp DpAll Inv Vals RelV PT PW TT PA TA CallR EP Gl MtR PG PGs PI PTs PS PSs TS Ends PO FnOk FunD FnScope Sp Room XK Binds CX0 E0)

structure FDat where
  name : Str
  params : Arguments
  body : List Stmt
  scope : Scope
  ps : List Str
  N : List Str
  mu : List Nat
def FDat.ctx (d : FDat) (gl : List (Str × GK)) : Ctx := ⟨d.N, d.scope, true, gl, d.mu⟩
/-- levels kept for the calls behind Web(..) -/
def lev : Nat := 4
/-- where a rule is used -/
structure At (Pr : Program) (w : World) (K : PySem.W.Frag) (mg : Str → Option Value) (base : Heap) (X : Cx) : Prop where
  prog : X.prog = Pr
  w : X.w = w
  K : X.K = K
  mg : X.mg = mg
  base : X.base = base
  calm : X.calm = true
structure Prog0 (Pr : Program) (w : World) (K : PySem.W.Frag) (mg : Str → Option Value) (base : Heap) (T : Tx) (gl : List (Str × GK)) (P : List Def) (fns : List FDat) : Prop where
  eK : T.K = K
  fact : ∀ (i : Nat) (d : FDat), fns[i]? = some d → ∃ f fd, FunD K d.name d.name d.params d.body d.scope [] [] f fd ∧ mg d.name = some (.ref f)
  bnd : ∀ (i : Nat) (d : FDat), fns[i]? = some d → ∀ (kV doc pm : Value) (an : Option Addr) (cdv ct : Value) (us : List Value), us.length = d.ps.length → PySem.bindArgs (PySem.W.fnOf d.name d.name d.params d.body d.scope .none kV doc pm an cdv ct) ⟨us, []⟩ = pure (d.ps.zip us)
  sc : ∀ (i : Nat) (d : FDat), fns[i]? = some d → FnScope d.N d.ps d.scope
  tr : ∀ (i : Nat) (d : FDat), fns[i]? = some d → ∃ n b, trSs (d.ctx gl) n d.body = some b ∧ P[i]? = some ⟨d.ps.length, d.N.length, b⟩
  len : P.length = fns.length
  few : fns.length ≤ gIdx
  glf : ∀ (x : Str) (f : Nat) (kp : List Nat), gl.lookup x = some (.fn f kp) → ∃ d : FDat, fns[f]? = some d ∧ d.name = x
  gi : ∀ (x : Str) (i : Int), gl.lookup x = some (.int i) → ∃ t, mg x = some (.int i t)
  gb : ∀ x : Str, gl.lookup x = some .blt → mg x = none
  gw : ∀ x : Str, gl.lookup x = some .web → mg x = some (.ref T.C)
  wk : WebK K T.C
structure Prog (Pr : Program) (w : World) (K : PySem.W.Frag) (mg : Str → Option Value) (base : Heap) (T : Tx) (gl : List (Str × GK)) (P : List Def) (fns : List FDat) : Prop extends Prog0 Pr w K mg base T gl P fns where
  web : (∀ j' ≤ 7, ∀ (i : Nat) (d : FDat) (f : Addr) (fd : FuncData), fns[i]? = some d → FunD K d.name d.name d.params d.body d.scope [] [] f fd → FnOk Pr w K mg base CX0 (j' + lev) f fd d.ps (spD T (den P j') i)) → ∀ X, At Pr w K mg base X → Room (9 + lev) X.A → ∀ (x : Str) (a b : Expr) (oa ob : OpT) (p pos : PySem.Pos),
    gl.lookup x = some .web → Gl X x → (x == ("__debug__" : Str)) = false → notStar a = true → notStar b = true → PE X a (tO T oa) → PE X b (tO T ob) → PE X (.Call (.Name x p) [a, b] [] pos) (tE T (sOp2 (plain2 webop) oa ob))
  there : ∀ X, At Pr w K mg base X → Room (9 + lev) X.A → ∀ (a : Expr) (oa : OpT) (ap pos : PySem.Pos), (ap.endLine == pos.line) = true → notCall0 a = true → PE X a (tO T oa) → PE X (.Call (.Attribute a "there" ap) [] [] pos) (tE T (sOp1 (plain1 thop) oa))
section
variable {Pr : Program} {w : World} {K : PySem.W.Frag} {mg : Str → Option Value} {base : Heap} {T : Tx} {gl : List (Str × GK)} {P : List Def} {fns : List FDat}
theorem At.sim {X X' : Cx} (a : At Pr w K mg base X) (s : Sim X X') : At Pr w K mg base X' := ⟨s.prog.trans a.prog, s.w.trans a.w, s.K.trans a.K, s.mg.trans a.mg, s.base.trans a.base, s.calm.trans a.calm⟩
/-- the promises at a depth -/
def Kept (Pr : Program) (w : World) (K : PySem.W.Frag) (mg : Str → Option Value) (base : Heap) (T : Tx) (P : List Def) (fns : List FDat) (j : Nat) : Prop :=
  ∀ (i : Nat) (d : FDat) (f : Addr) (fd : FuncData), fns[i]? = some d → FunD K d.name d.name d.params d.body d.scope [] [] f fd → FnOk Pr w K mg base CX0 (j + lev) f fd d.ps (spD T (den P j) i)
theorem no_web {X : Cx} {op : CmpOp} {neg : Bool} : OpR X (PySem.compareOp op) (rWeb T neg) := fun _ _ _ _ _ _ _ _ _ _ _ _ ⟨_, _, _, _, _, _, _, _, _, h, _⟩ => by cases h
theorem g_deep {j : Nat} (h : (den P j gIdx [] none).isSome = true) : 9 ≤ j := by
  cases j with
  | zero => cases h
  | succ j =>
    unfold den at h
    rw [if_pos rfl] at h
    split at h
    · omega
    · cases h
theorem rule_call (pr : Prog0 Pr w K mg base T gl P fns) {j : Nat} (kj : Kept Pr w K mg base T P fns j) {X : Cx} (at_ : At Pr w K mg base X) (hr : Room (j + lev) X.A) : ∀ X', Sim X X' → ∀ (x : Str) (f : Nat) (kp : List Nat) (es : List Expr) (os : OsT) (p pos : PySem.Pos), gl.lookup x = some (.fn f kp) → Gl X' x → (x == ("__debug__" : Str)) = false → es ≠ [] → (∀ u ∈ es, notStar u = true) → PA X' es (tOs T os) →
    PE X' (.Call (.Name x p) es [] pos) (tE T (sCall (den P j) f os)) := fun X' s x f kp es os p pos hx hg hd hne hs ha => by
    have a' := at_.sim s
    obtain ⟨d, hd1, rfl⟩ := pr.glf x f kp hx
    obtain ⟨fa, fd, FF, hm⟩ := pr.fact f d hd1
    have F := kj f d fa fd hd1 FF
    have F' : FnOk X'.prog X'.w X'.K X'.mg X'.base CX0 (j + lev) fa fd d.ps (spD T (den P j) f) := by
      rw [a'.prog, a'.w, a'.K, a'.mg, a'.base]; exact F
    have hm' : X'.mg d.name = some (.ref fa) := by rw [a'.mg]; exact hm
    have hk : PySem.W.keepIn X'.K (.ref fa) = true := by rw [a'.K]; exact FF.kp
    have hb : Binds X'.K fd d.ps [] := by rw [a'.K]; exact FF.bindsN (pr.bnd f d hd1)
    have hr' : Room (j + lev) X'.A := by rw [s.A]; exact hr
    cases es with
    | nil => exact absurd rfl hne
    | cons e es =>
      exact PE.imp (L2.pe_call F' hr' hg hm' hk hb .nil L2.pass0 ha hd (star_no (hs e List.mem_cons_self)) (plain_any fun u hu => hs u (List.mem_cons_of_mem _ hu))) fun σ H Q h => call_of h
/-- no web is made at low depths -/
theorem rules_low (pr : Prog0 Pr w K mg base T gl P fns) {j : Nat} (hj : j ≤ 8) (kj : Kept Pr w K mg base T P fns j) {X : Cx} (at_ : At Pr w K mg base X) (hr : Room (j + lev) X.A) : Rules T (den P j) gl X where
  call := rule_call pr kj at_ hr
  web := fun g => by
    have := g_deep g
    omega
  there := fun g => by
    have := g_deep g
    omega
  eq := fun X' s => no_web
  ne := fun X' s => no_web
theorem rules_ok (pr : Prog Pr w K mg base T gl P fns) {j : Nat} (kj : ∀ j' ≤ j, Kept Pr w K mg base T P fns j') {X : Cx} (at_ : At Pr w K mg base X) (hr : Room (j + lev) X.A) : Rules T (den P j) gl X where
  call := rule_call pr.toProg0 (kj j (Nat.le_refl _)) at_ hr
  web := fun g X' s x a b oa ob p pos hx hg hd n1 n2 ha hb => by
    have h9 := g_deep g
    exact pr.web (fun j' hj => kj j' (by omega)) X' (at_.sim s) (by rw [s.A]; exact hr.mono (by omega)) x a b oa ob p pos hx hg hd n1 n2 ha hb
  there := fun g X' s a oa ap pos hl hn ha => by
    have h9 := g_deep g
    exact pr.there X' (at_.sim s) (by rw [s.A]; exact hr.mono (by omega)) a oa ap pos hl hn ha
  eq := fun X' s => no_web
  ne := fun X' s => no_web
/-- the start of a body -/
theorem start_sr {W0 : W} {H : Hp} {h : Option (List D)} {N : List Str} {ds : List (Bool × D)} {vs : List V} {d : Def} (f : Wf T W0 H h) (ho : ∀ a, W0.own a = none) (ha : ArgsOk T W0 H ds vs) (hN : N.length = d.n) (hl : ds.length ≤ d.n) : SR T W0 (L2.start N vs) H (startZ d ds h) := by
  have hlen := ha.length
  have at_is : ∀ {i : Nat} {k : Ow} {x : D}, (startZ d ds h).at i = some (k, x) → ∃ b, ds[i]? = some (b, x) ∧ k = (if b then .bor else .frz) := by
    intro i k x e
    unfold startZ Z.at at e
    simp only at e
    by_cases hi : i < ds.length
    · rw [List.getElem?_append_left (by simpa using hi), List.getElem?_map] at e
      cases q : ds[i]? with
      | none => rw [q] at e; cases e
      | some a =>
        rw [q] at e
        have e : some (if a.1 = true then Ow.bor else Ow.frz, a.2) = some (k, x) := e
        cases e
        exact ⟨a.1, rfl, rfl⟩
    · rw [List.getElem?_append_right (by simpa using hi), List.getElem?_replicate] at e
      split at e <;> cases e
  have st_is : ∀ {i : Nat} {v : V}, vs[i]? = some v → (L2.start N vs)[i]? = some (some v) := by
    intro i v e
    unfold L2.start
    have hi := (List.getElem?_eq_some_iff.mp e).1
    rw [List.getElem?_append_left (by simpa using hi), List.getElem?_map, e]
    rfl
  refine ⟨f, ?_, fun i x e => ?_, fun i x e => ?_, fun i x e => ?_, fun a i e => ?_⟩
  · unfold startZ L2.start
    simp only [List.length_append, List.length_map, List.length_replicate]
    omega
  · obtain ⟨b, h1, h2⟩ := at_is e
    cases b with
    | true => cases h2
    | false =>
      obtain ⟨v, h3, h4⟩ := ha.get h1
      exact ⟨v, st_is h3, h4⟩
  · obtain ⟨b, h1, h2⟩ := at_is e
    cases b <;> cases h2
  · obtain ⟨b, h1, h2⟩ := at_is e
    cases b with
    | false => cases h2
    | true =>
      obtain ⟨v, h3, a, h4, h5, h6⟩ := ha.get h1
      subst h4
      exact ⟨a, st_is h3, h5, h6⟩
  · rw [ho] at e
    cases e
theorem kept_zero (pr : Prog Pr w K mg base T gl P fns) : Kept Pr w K mg base T P fns 0 := by
  intro i d f fd hd FF
  refine FF.ok (k := lev - 1) (N := d.N) (pr.sc i d hd) (fun vs H Q E h => ?_) (fun cdv A outer s H vs Q E hr h => ?_)
  · obtain ⟨_, _, _, _, _, _, _, _, e, _⟩ := h
    cases e
  · obtain ⟨_, _, _, _, _, _, _, _, e, _⟩ := h
    cases e
theorem kept_succ (pr : Prog Pr w K mg base T gl P fns) {j : Nat} (kj : ∀ j' ≤ j, Kept Pr w K mg base T P fns j') : Kept Pr w K mg base T P fns (j + 1) := by
  intro i d f fd hd FF
  obtain ⟨n, b, htr, hP⟩ := pr.tr i d hd
  have unf : ∀ {ds : List (Bool × D)} {h h' : Option (List D)} {o : Bool} {x : D}, den P (j + 1) i ds h = some (h', o, x) → i ≠ gIdx → ds.length = d.ps.length ∧ d.ps.length ≤ d.N.length ∧
      ∃ out, execs (den P j) b (startZ ⟨d.ps.length, d.N.length, b⟩ ds h) = some out ∧ (out = .rt h' o x ∨ ∃ z, out = .nx z ∧ h' = z.h ∧ o = false ∧ x = .non) := by
    intro ds h h' o x e hi
    unfold den at e
    rw [if_neg hi, hP] at e
    simp only at e
    split at e
    · rename_i hc
      refine ⟨hc.1, hc.2, ?_⟩
      split at e
      · rename_i h1 o1 v1 he
        cases e
        exact ⟨_, he, .inl rfl⟩
      · rename_i z he
        cases e
        exact ⟨_, he, .inr ⟨z, rfl, rfl, rfl, rfl⟩⟩
      · cases e
    · cases e
  have hi : i ≠ gIdx := by
    have h1 := (List.getElem?_eq_some_iff.mp hd).1
    have h2 := pr.few
    omega
  have lv : j + 1 + lev = (j + lev) + 1 := by omega
  rw [lv]
  refine FF.ok (k := j + lev) (N := d.N) (pr.sc i d hd) (fun vs H Q E h => ?_) (fun cdv A outer s H vs Q E hr h => ?_)
  · obtain ⟨w1, h, ds, h', o, x, wf, ho, e, ha, _⟩ := h
    rw [← ha.length]
    exact (unf e hi).1
  · obtain ⟨w1, h, ds, h', o, x, wf, ho, e, ha, q⟩ := h
    obtain ⟨hl, hle, out, hx, hout⟩ := unf e hi
    have at_ : At Pr w K mg base (L2.cxOf CX0 Pr w K mg base d.N d.name d.scope f cdv A outer s H E).nox := ⟨rfl, rfl, rfl, rfl, rfl, rfl⟩
    have ru : Rules T (den P j) gl (L2.cxOf CX0 Pr w K mg base d.N d.name d.scope f cdv A outer s H E).nox := rules_ok pr kj at_ hr
    have k : CxOk T (den P j) (d.ctx gl) (L2.cxOf CX0 Pr w K mg base d.N d.name d.scope f cdv A outer s H E).nox :=
      ⟨rfl, (pr.sc i d hd).nd, rfl, pr.eK, rfl, by have := hr.un; show (A.deeper _).units + 200 < cLine; omega, fun _ _ => rfl, pr.gi, pr.gb, pr.gw, pr.wk, rfl, ru⟩
    refine ⟨tX T (execs (den P j) b), PSs.nox ((sih_all n).ss _ _ k _ _ htr), ?_⟩
    refine ⟨w1, startZ ⟨d.ps.length, d.N.length, b⟩ ds h, out, start_sr wf ho ha rfl (by rw [hl]; exact hle), hx, ?_⟩
    rcases hout with rfl | ⟨z, rfl, rfl, rfl, rfl⟩
    · exact fun v w' H' f' x' r' => q v w' H' f' x' r'
    · exact fun σ' w' H' s' x' => q .non w' H' s'.wf x' (show Rep T w' H' .non .non by simp [Rep])
theorem kept_all (pr : Prog Pr w K mg base T gl P fns) : ∀ j, ∀ j' ≤ j, Kept Pr w K mg base T P fns j'
  | 0, j', h => by
    have : j' = 0 := by omega
    subst this
    exact kept_zero pr
  | j + 1, j', h => by
    by_cases q : j' = j + 1
    · subst q
      exact kept_succ pr (kept_all pr j)
    · exact kept_all pr j j' (by omega)
end
end BV

/-! Web(..). -/
namespace BV
open PySem (Str Addr Expr Stmt PyData Operator CmpOp cLine Value Shared Around Program World wpAny model Reads ReadsAll bootBuiltins Scope NameKind Arguments FuncData Heap)
open L2 (V HO Hp upd upd_same upd_ne SqL SqT Cx PE TE VK OpR Dp DpAll Inv Vals RelV PT PW TT PA TA CallR EP Gl MtR PG PGs PI PTs PS PSs TS Ends PO FnOk FunD FnScope Sp Room XK Binds CX0 E0)

/-! ### o.f = value, as a target -/
def gFld (K : PySem.W.Frag) (to : TE) (f : Str) : L2.TG := fun v σ H Q => to σ H fun x H1 => ∃ a C dx fs, x = .ref a ∧ H1 a = some (.ins C dx fs) ∧ L2.Cls K C ∧ L2.NoAttr K C f ∧ fs.length < 1000 ∧ Q σ (upd H1 a (.ins C dx (L2.putF f v fs)))
section
variable {X : Cx} {o : Expr} {f : Str} {pos : PySem.Pos} {to : TE}
theorem pg_fld (ho : PE X o to) : PG X (.Attribute o f pos) (gFld X.K to f) := by
  refine ⟨fun pins s σ H v u Q I r h => ?_⟩
  show wpAny (model X.prog X.w) X.A (do
    let ov ← PySem.holding [u] (PySem.eval o X.env)
    PySem.standAt pos.atName
    PySem.holding [u, ov] (PySem.setAttr ov f u)
    PySem.release [u, ov] []) _ X.xe s
  refine PySem.wpAny_bind (PySem.wpAny_holding (L2.thn (ho.run pins s σ H _ I h) fun ov s1 ⟨x, H1, I1, r1, a, C, dx, fs, ex, ea, c, n, l, q⟩ => ?_))
  subst ex
  obtain rfl : ov = Value.ref a := r1
  refine PySem.wpAny_bind (PySem.wpAny_standAt (PySem.wpAny_bind (PySem.wpAny_holding (L2.setattr_ok I1 ea c n l r fun s3 I3 => ?_))))
  exact PySem.wpAny_release ⟨σ, _, I3, q⟩
end
section
variable {T : Tx} {w w' w0 : W} {H H' H0 H3 : Hp} {σ : L2.St} {z : Z}
theorem reps_pairs : ∀ {ls : List (Nat × Nat)} {xs : List V}, Reps T w H (ls.map pairD) xs → RepPairs w H ls xs
  | [], _, h => by
    simp only [List.map_nil, Reps] at h
    subst h
    trivial
  | c :: ls, _, h => by
    simp only [List.map_cons, Reps] at h
    obtain ⟨v, vs, rfl, h1, h2⟩ := h
    simp only [pairD, Rep] at h1
    obtain ⟨b, ys, rfl, hf, hb, hr⟩ := h1
    refine ⟨⟨b, rfl, hf, ?_⟩, reps_pairs h2⟩
    have := hr.ints (ns := [(c.1 : Int), (c.2 : Int)]) rfl
    subst this
    exact hb
/-- a web laid -/
def W.web (w : W) (x p : Addr) (ls : List (Nat × Nat)) : W := { w with F := fun a => a = x ∨ w.F a, L := fun a => if a = p then some ls else w.L a }
theorem web_new {n : Nat} {ls : List (Nat × Nat)} {x p l dx : Addr} (s : SR T w σ H z) (lo : Loose w H x) (hx : H x ≠ none) (hp : H p = none) (hok : webOk n ls = true) (rl : Rep T w H (.tup (ls.map pairD)) (.ref l))
    (h1 : H3 x = some (.ins T.C dx (webFs n l p))) (h2 : H3 p = some (.dK [])) (h3 : ∀ b, b ≠ x → H b ≠ none → H3 b = H b) (x0 : Ext w0 H0 w H) (hx0 : H0 x = none) :
    SR T (w.web x p ls) σ H3 z ∧ Ext w0 H0 (w.web x p ls) H3 ∧ Rep T (w.web x p ls) H3 (.web n ls) (.ref x) := by
  have hxp : x ≠ p := fun e => hx (e ▸ hp)
  have lop : Loose w H p := Loose.of s.wf hp
  have Lp : (w.web x p ls).L p = some ls := if_pos rfl
  have Lne : ∀ a, a ≠ p → (w.web x p ls).L a = w.L a := fun a h => if_neg h
  have keep : ∀ b, H b ≠ none → b ≠ x → H3 b = H b := fun b hb he => h3 b he hb
  have dom3 : ∀ b, H b ≠ none → H3 b ≠ none := fun b hb => by
    by_cases e : b = x
    · subst e; rw [h1]; simp
    · rw [keep b hb e]; exact hb
  have g : Gr w H (w.web x p ls) H3 := ⟨fun b hb => ⟨.inr hb, keep b (s.wf.exF b hb).1 fun e => lo.F (e ▸ hb)⟩, fun k ks e => by
    rw [Lne k fun q => by rw [q, lop.L] at e; cases e]
    exact e, fun _ h => h⟩
  have wf3 : Wf T (w.web x p ls) H3 z.h := by
    refine ⟨fun a ha => ?_, fun a ha => ?_, fun a i e => ?_, fun k ks e => ?_, s.wf.hand.mono g fun a e => keep a (s.wf.hd_some e) fun q => lo.hd (q ▸ e), fun a e => dom3 a (s.wf.lkd a e), fun a e => ?_⟩
    · rcases ha with rfl | ha
      · exact ⟨by rw [h1]; simp, by rw [Lne _ hxp]; exact lo.L, lo.own, lo.hd⟩
      · obtain ⟨q1, q2, q3, q4⟩ := s.wf.exF a ha
        exact ⟨dom3 a q1, by rw [Lne a fun e => q1 (e ▸ hp)]; exact q2, q3, q4⟩
    · by_cases e : a = p
      · subst e; exact ⟨lop.own, lop.hd⟩
      · rw [Lne a e] at ha
        exact s.wf.exL a ha
    · obtain ⟨q1, q2⟩ := s.wf.exO a i e
      exact ⟨dom3 a q1, q2⟩
    · by_cases q : k = p
      · subst q
        exact .inl h2
      · rw [Lne k q] at e
        have nk : H k ≠ none := s.wf.L_some (by rw [e]; simp)
        have nx : k ≠ x := fun q => by rw [q, lo.L] at e; cases e
        rcases s.wf.cache k ks e with c | ⟨e2, c1, c2, c3⟩
        · exact .inl ((keep k nk nx).trans c)
        · exact .inr ⟨e2, (keep k nk nx).trans c1, .inr c2, (g.F e2 c2).2.trans c3⟩
    · obtain ⟨q1, q2, q3, q4⟩ := s.wf.bor a e
      exact ⟨by rw [Lne a fun e2 => q4 (e2 ▸ hp)]; exact q1, q2, q3, dom3 a q4⟩
  refine ⟨⟨wf3, s.len, fun i d e => let ⟨v, e1, r⟩ := s.frz i d e; ⟨v, e1, r.mono g⟩, fun i d e => let ⟨b, e1, e2, r⟩ := s.own i d e; ⟨b, e1, e2, r.mono g (keep b (s.wf.exO b i e2).1 fun q => by rw [q, lo.own] at e2; cases e2)⟩,
    fun i d e => let ⟨b, e1, e2, r⟩ := s.bor i d e; ⟨b, e1, e2, r.mono g (keep b (s.wf.bor b e2).2.2.2 fun q => lo.bor (q ▸ e2))⟩, s.lk⟩, ⟨fun a h => .inr (x0.F a h), fun a h => ?_, fun k ks e => ?_, fun k e => ?_, x0.hd, x0.hdn, x0.own, x0.lk, x0.bor, fun a o e1 e2 e3 e4 => ?_, fun a e => dom3 a (x0.dom a e)⟩, ?_⟩
  · rcases h with rfl | h
    · exact .inr (.inl hx0)
    · exact x0.Fn a h
  · have := x0.L k ks e
    rw [Lne k fun q => by rw [q, lop.L] at this; cases this]
    exact this
  · by_cases q : k = p
    · subst q
      right
      cases q0 : H0 k with
      | none => rfl
      | some u => exact absurd hp (x0.dom k (by rw [q0]; simp))
    · rw [Lne k q] at e
      exact x0.Ln k e
  · have k1 := x0.keep a o e1 e2 e3 e4
    rw [keep a (by rw [k1]; simp) fun q => by rw [q, hx0] at e1; cases e1]
    exact k1
  · have rl3 : Rep T (w.web x p ls) H3 (.tup (ls.map pairD)) (.ref l) := rl.mono g
    simp only [Rep] at rl3
    obtain ⟨l', xs, e, hf, hl, hr⟩ := rl3
    cases e
    simp only [Rep]
    refine ⟨hok, x, dx, l, p, xs, rfl, .inl rfl, h1, hf, hl, ?_, Lp⟩
    exact reps_pairs hr
end
/-! ### __init__ -/
def N3 : List Str := ["self", "corners", "lines"]
def initTr (c : Ctx) : List Stmt → Option (E × E)
  | [.If t1 _ [] _, .If t2 _ [] _, .Assign [.Tuple [.Attribute (.Name a _) b _, .Attribute (.Name d _) e _] _ _] (.Tuple [.Name f _, .Name g _] _ _) _, .Assign [.Attribute (.Name i _) j _] (.Dict [] [] _) _] =>
    if a = ("self" : Str) ∧ b = ("corners" : Str) ∧ d = ("self" : Str) ∧ e = ("lines" : Str) ∧ f = ("corners" : Str) ∧ g = ("lines" : Str) ∧ i = ("self" : Str) ∧ j = ("looked" : Str) ∧ c.slot "self" = some 0 ∧ c.slot "corners" = some 1 ∧ c.slot "lines" = some 2 then
      match trE c 100 t1, trE c 100 t2 with
      | some m1, some m2 => some (m1, m2)
      | _, _ => none
    else none
  | _ => none
/-- the state of the tests -/
def z3 (n : Nat) (ls : List (Nat × Nat)) (h : Option (List D)) : Z := ⟨[none, some (.frz, .int n), some (.frz, .tup (ls.map pairD))], h, []⟩
def spInit (T : Tx) : Sp := fun vs H Q _ => ∃ W h n ls x dx l, vs = [.ref x, .int (n : Nat), .ref l] ∧ Wf T W H h ∧ (∀ a, W.own a = none) ∧ webOk n ls = true ∧ Rep T W H (.tup (ls.map pairD)) (.ref l) ∧ H x = some (.ins T.C dx []) ∧ Loose W H x ∧
  ∀ W' H' H3 p, Wf T W' H' h → Ext W H W' H' → Loose W' H' x → H' p = none → H3 x = some (.ins T.C dx (webFs n l p)) → H3 p = some (.dK []) → (∀ b, b ≠ x → H' b ≠ none → H3 b = H' b) → Q .non H3
section
variable {T : Tx} {F : Phi} {c : Ctx} {X : Cx}
theorem z3_sr {W : W} {H : Hp} {h : Option (List D)} {n : Nat} {ls : List (Nat × Nat)} {x l : Addr} (f : Wf T W H h) (ho : ∀ a, W.own a = none) (rl : Rep T W H (.tup (ls.map pairD)) (.ref l)) : SR T W [some (.ref x), some (.int n), some (.ref l)] H (z3 n ls h) := by
  refine ⟨f, rfl, fun i d e => ?_, fun i d e => ?_, fun i d e => ?_, fun a i e => by rw [ho] at e; cases e⟩
  · match i, e with
    | 0, e => cases e
    | 1, e => cases e; exact ⟨_, rfl, rep_int⟩
    | 2, e => cases e; exact ⟨_, rfl, rl⟩
    | i + 3, e => cases e
  · match i, e with
    | 0, e => cases e
    | 1, e => cases e
    | 2, e => cases e
    | i + 3, e => cases e
  · match i, e with
    | 0, e => cases e
    | 1, e => cases e
    | 2, e => cases e
    | i + 3, e => cases e
theorem init_body (k : CxOk T F c X) (hf : c.isFun = true) {body : List Stmt} {m1 m2 : E} (htr : initTr c body = some (m1, m2))
    (e1 : ∀ n ls h, webOk n ls = true → ∃ o, ev F m1 (z3 n ls h) = some (z3 n ls h, o, .bl false)) (e2 : ∀ n ls h, webOk n ls = true → ∃ o, ev F m2 (z3 n ls h) = some (z3 n ls h, o, .bl false)) :
    ∃ t, PSs X body t ∧ ∀ vs H Q E, spInit T vs H Q E → t { nx := fun _ H' => Q .non H', rt := Q } (L2.start N3 vs) H := by
  unfold initTr at htr
  split at htr
  case h_2 => cases htr
  case h_1 t1 r1 p1 t2 r2 p2 a pa b pb d pd e pe kt pt f pf g pg kv pv ps i pi j pj pdd plast =>
    split at htr
    · rename_i hc
      obtain ⟨rfl, rfl, rfl, rfl, rfl, rfl, rfl, rfl, s0, s1, s2⟩ := hc
      split at htr
      · rename_i m1' m2' h1 h2
        cases htr
        have o1 := (ih_all 100).e c X k _ _ h1
        have o2 := (ih_all 100).e c X k _ _ h2
        have hw := swC_eq (kt := kt) (k2 := kv) (pt := pt) (p2 := pv) (r := none) k hf (ts := [.Attribute (.Name "self" pa) "corners" pb, .Attribute (.Name "self" pd) "lines" pe]) (vs := [.Name "corners" pf, .Name "lines" pg]) (by
          unfold swC nmAt isStar
          simp)
        refine ⟨_, L2.pss_cons (L2.ps_if o1.t L2.pss_never L2.pss_nil) (L2.pss_cons (L2.ps_if o2.t L2.pss_never L2.pss_nil) (L2.pss_cons (L2.ps_asg (L2.pe_tup (L2.pa_cons (k.var s1) (L2.pa_cons (k.var s2) L2.pa_nil)))
          (L2.pg_tup k.calm (L2.pgs_cons (pg_fld (k.var s0)) (L2.pgs_cons (pg_fld (k.var s0)) L2.pgs_nil)) rfl rfl) rfl hw rfl) (L2.pss_one (L2.ps_fld (k.var s0) L2.pe_dnewK rfl)))), ?_⟩
        rintro vs H Q E ⟨W, h, n, ls, x, dx, l, rfl, wf, ho, hok, rl, hx, lo, q⟩
        have sr := z3_sr (n := n) (x := x) wf ho rl
        obtain ⟨ob1, ev1⟩ := e1 n ls h hok
        obtain ⟨ob2, ev2⟩ := e2 n ls h hok
        refine ⟨W, z3 n ls h, z3 n ls h, ob1, false, sr, ev1, fun W1 H1 sr1 x1 => L2.iteF ?_⟩
        refine ⟨W1, z3 n ls h, z3 n ls h, ob2, false, sr1, ev2, fun W2 H2 sr2 x2 => L2.iteF ?_⟩
        have xx := x1.trans x2
        have lo2 : Loose W2 H2 x := lo.ext (by rw [hx]; simp) xx
        have hx2 : H2 x = some (.ins T.C dx []) := lo.keep xx hx
        refine ⟨.int n, rfl, .ref l, rfl, by show 2 ≤ PySem.sizeLine; rw [← lim_line]; decide, fun q1 hq1 => ?_⟩
        have nq : x ≠ q1 := fun e => by rw [e, hq1] at hx2; cases hx2
        refine ⟨q1, _, rfl, SqT.of upd_same, rfl, .int n, _, rfl, .ref x, rfl, x, T.C, dx, [], rfl, by rw [upd_ne nq]; exact hx2, k.wk.cls, k.wk.corners, by decide, ?_⟩
        refine ⟨.ref l, _, rfl, .ref x, rfl, x, T.C, dx, _, rfl, upd_same, k.wk.cls, k.wk.lines, (by show 1 < 1000; decide), rfl, ?_⟩
        intro p hp
        have np : x ≠ p := fun e => by rw [e, upd_same] at hp; cases hp
        have np1 : p ≠ q1 := fun e => by
          rw [upd_ne (Ne.symm np), upd_ne (Ne.symm np), e, upd_same] at hp
          cases hp
        have hp2 : H2 p = none := by
          rw [upd_ne (Ne.symm np), upd_ne (Ne.symm np), upd_ne np1] at hp
          exact hp
        refine ⟨.ref x, rfl, x, T.C, dx, _, rfl, by rw [upd_ne np]; exact upd_same, k.wk.cls, k.wk.looked, (by show 2 < 1000; decide), ?_⟩
        refine q W2 H2 _ p sr2.wf xx lo2 hp2 upd_same (by rw [upd_ne (Ne.symm np)]; exact upd_same) fun b hb hn => ?_
        have hbp : b ≠ p := fun e => hn (e ▸ hp2)
        have hbq : b ≠ q1 := fun e => hn (e ▸ hq1)
        rw [upd_ne hb, upd_ne hbp, upd_ne hb, upd_ne hb, upd_ne hbq]
      · cases htr
    · cases htr
end
/-- what is asked of __init__ -/
structure InitOk (K : PySem.W.Frag) (T : Tx) (gl : List (Str × GK)) (P : List Def) (fi : Addr) (fd : FuncData) (params : Arguments) (body : List Stmt) (scope : Scope) (m1 m2 : E) : Prop where
  mkr : L2.Mk K T.C fi
  fn : FunD K "__init__" "Web.__init__" params body scope [] [] fi fd
  bnd : ∀ (kV doc pm : Value) (an : Option Addr) (cdv ct : Value) (us : List Value), us.length = N3.length → PySem.bindArgs (PySem.W.fnOf "__init__" "Web.__init__" params body scope .none kV doc pm an cdv ct) ⟨us, []⟩ = pure (N3.zip us)
  sc : FnScope N3 N3 scope
  tr : initTr ⟨N3, scope, true, gl, []⟩ body = some (m1, m2)
  e1 : ∀ n ls h, webOk n ls = true → ∃ o, ev (den P 7) m1 (z3 n ls h) = some (z3 n ls h, o, .bl false)
  e2 : ∀ n ls h, webOk n ls = true → ∃ o, ev (den P 7) m2 (z3 n ls h) = some (z3 n ls h, o, .bl false)
section
variable {Pr : Program} {w : World} {K : PySem.W.Frag} {mg : Str → Option Value} {base : Heap} {T : Tx} {gl : List (Str × GK)} {P : List Def} {fns : List FDat}
theorem pairOf_is {d : D} {p : Nat × Nat} (h : pairOf d = some p) : d = pairD p := by
  unfold pairOf at h
  split at h
  · rename_i a b
    split at h
    · rename_i i j h1 h2
      cases h
      have nat : ∀ {d : D} {i : Nat}, natOf d = some i → d = .int i := by
        intro d i h
        unfold natOf at h
        split at h
        · rename_i v
          split at h
          · cases h
            rw [Int.toNat_of_nonneg (by assumption)]
          · cases h
        · cases h
      rw [nat h1, nat h2]
      rfl
    · cases h
  · cases h
theorem pairsOf_is : ∀ {l : List D} {ls : List (Nat × Nat)}, pairsOf l = some ls → l = ls.map pairD
  | [], ls, h => by cases h; rfl
  | d :: r, ls, h => by
    unfold pairsOf at h
    split at h
    · rename_i p l h1 h2
      cases h
      rw [List.map_cons, ← pairsOf_is h2, pairOf_is h1]
    · cases h
theorem web_rule (pr : Prog0 Pr w K mg base T gl P fns) {fi : Addr} {fd : FuncData} {params : Arguments} {body : List Stmt} {scope : Scope} {m1 m2 : E} (io : InitOk K T gl P fi fd params body scope m1 m2)
    (kj : ∀ j' ≤ 7, Kept Pr w K mg base T P fns j') : ∀ X, At Pr w K mg base X → Room (9 + lev) X.A → ∀ (x : Str) (a b : Expr) (oa ob : OpT) (p pos : PySem.Pos),
    gl.lookup x = some .web → Gl X x → (x == ("__debug__" : Str)) = false → notStar a = true → notStar b = true → PE X a (tO T oa) → PE X b (tO T ob) → PE X (.Call (.Name x p) [a, b] [] pos) (tE T (sOp2 (plain2 webop) oa ob)) := by
  intro X at_ hr x a b oa ob p pos hx hg hd n1 n2 ha hb
  have F : FnOk Pr w K mg base CX0 (7 + lev + 1) fi fd N3 (spInit T) := by
    refine io.fn.ok (k := 7 + lev) (N := N3) io.sc (fun vs H Q E h => ?_) (fun cdv A outer s H vs Q E hr h => ?_)
    · obtain ⟨_, _, _, _, _, _, _, rfl, _⟩ := h
      rfl
    · have at2 : At Pr w K mg base (L2.cxOf CX0 Pr w K mg base N3 "Web.__init__" scope fi cdv A outer s H E).nox := ⟨rfl, rfl, rfl, rfl, rfl, rfl⟩
      have ru : Rules T (den P 7) gl (L2.cxOf CX0 Pr w K mg base N3 "Web.__init__" scope fi cdv A outer s H E).nox := rules_low pr (by omega) (kj 7 (Nat.le_refl _)) at2 hr
      have k : CxOk T (den P 7) ⟨N3, scope, true, gl, []⟩ (L2.cxOf CX0 Pr w K mg base N3 "Web.__init__" scope fi cdv A outer s H E).nox :=
        ⟨rfl, io.sc.nd, rfl, pr.eK, rfl, by have := hr.un; show (A.deeper _).units + 200 < cLine; omega, fun _ _ => rfl, pr.gi, pr.gb, pr.gw, pr.wk, rfl, ru⟩
      obtain ⟨t, ht, hq⟩ := init_body k (by unfold Ctx.isFun; simp only [io.sc.kind]) io.tr io.e1 io.e2
      exact ⟨t, PSs.nox ht, hq vs H Q E h⟩
  have F' : FnOk X.prog X.w X.K X.mg X.base CX0 (7 + lev + 1) fi fd N3 (spInit T) := by
    rw [at_.prog, at_.w, at_.K, at_.mg, at_.base]; exact F
  have hm : X.mg x = some (.ref T.C) := by rw [at_.mg]; exact pr.gw x hx
  have hmk : L2.Mk X.K T.C fi := by rw [at_.K]; exact io.mkr
  have hbn : Binds X.K fd N3 [] := by rw [at_.K]; exact io.fn.bindsN io.bnd
  refine PE.imp (L2.pe_make (dvs := []) (E := E0) hmk F' (hr.mono (by omega)) hg hm hbn .nil L2.pass0 (L2.pa_cons ha (L2.pa_cons hb L2.pa_nil (star_no n2)) (star_no n1)) hd (star_no n1) (by rw [star_no n2]; rfl)) ?_
  rintro σ H Q ⟨w1, z, z', o, d, s, e, q⟩
  unfold sOp2 at e
  split at e
  case h_2 => cases e
  case h_1 z1 oa' ea =>
    split at e
    case h_2 => cases e
    case h_1 z2 ob' eb =>
      refine ⟨w1, z, z1, oa', s, ea, fun x1v w2 H2 s2 x2 r2 => ⟨w2, z1, z2, ob', s2, eb, fun yv w3 H3 s3 x3 r3 => ?_⟩⟩
      split at e
      · rename_i da db ga gb
        obtain ⟨⟨o', d'⟩, ef, e2⟩ := Option.map_eq_some_iff.mp e
        cases e2
        obtain ⟨d2, ew, e3⟩ := Option.map_eq_some_iff.mp ef
        cases e3
        have ra := (r2.mono (x3.gr s2.wf)).use s3 ga
        have rb := r3.use s3 gb
        cases db <;> simp only [webop, reduceCtorEq] at ew
        rename_i l
        split at ew
        · rename_i n ls hn hl
          split at ew
          · rename_i hok
            cases ew
            have el := pairsOf_is hl
            subst el
            have en : da = .int n := by
              unfold natOf at hn
              split at hn
              · split at hn
                · cases hn
                  rw [Int.toNat_of_nonneg (by assumption)]
                · cases hn
              · cases hn
            subst en
            have e1 := repU_int ra
            subst e1
            have rl := repU_tupF rb
            obtain ⟨la, lx, rfl, _⟩ := repU_tup rb
            intro xa dxa hxa hdx hne
            -- the two objects laid
            have s4 := (s3.alloc (o := .own xa) hdx)
            have hxa4 : upd H3 dxa (.own xa) xa = none := by rw [upd_ne (Ne.symm hne)]; exact hxa
            have s5 := s4.alloc (o := .ins T.C dxa []) hxa4
            have x5 : Ext w3 H3 w3 (upd (upd H3 dxa (.own xa)) xa (.ins T.C dxa [])) := (ext_alloc s3.wf hdx).trans (ext_alloc s4.wf hxa4)
            have lo5 : Loose w3 (upd (upd H3 dxa (.own xa)) xa (.ins T.C dxa [])) xa := (Loose.of s3.wf hxa).cast
            have loc : Loose w3.callee (upd (upd H3 dxa (.own xa)) xa (.ins T.C dxa [])) xa := ⟨lo5.F, lo5.L, lo5.hd, rfl, fun hb => by
              rcases hb with hb | ⟨i, hb⟩
              · exact lo5.bor hb
              · rw [lo5.own] at hb; cases hb⟩
            refine ⟨w3.callee, _, n, ls, xa, dxa, la, rfl, wf_callee s5.wf, fun _ => rfl, hok, Rep.mono gr_callee (rl.mono (x5.gr s3.wf)), upd_same, loc, ?_⟩
            intro W' H' Hn pp wf' x' lo' hp hx3 hp3 hk3
            refine ⟨rfl, ?_⟩
            obtain ⟨s6, x6⟩ := ret_ok s5 wf' x'
            have hxn : H' xa ≠ none := x'.dom xa (by rw [upd_same]; simp)
            have lo6 : Loose (W'.ret w3) H' xa := ⟨lo'.F, lo'.L, lo'.hd, lo5.own, lo5.bor⟩
            have rl6 : Rep T (W'.ret w3) H' (.tup (ls.map pairD)) (.ref la) := rl.mono ((x5.trans x6).gr s3.wf)
            have hx0 : H xa = none := by
              cases q0 : H xa with
              | none => rfl
              | some u => exact absurd hxa ((x2.trans x3).dom xa (by rw [q0]; simp))
            obtain ⟨s7, x7, r7⟩ := web_new s6 lo6 hxn hp hok rl6 hx3 hp3 hk3 ((x2.trans x3).trans (x5.trans x6)) hx0
            exact q (.ref xa) _ Hn s7 x7 r7
          · cases ew
        · cases ew
      · cases e
end
end BV

/-! dict(xs), tuples as keys. -/
namespace BV
open PySem (Str Addr Expr Stmt PyData Operator CmpOp cLine Value Shared Around Program World wpAny model Reads ReadsAll bootBuiltins Scope NameKind Arguments FuncData Heap)
open L2 (V HO Hp upd upd_same upd_ne SqL SqT Cx PE TE VK OpR Dp DpAll Inv Vals RelV PT PW TT PA TA CallR EP Gl MtR)

structure KPair where
  T : Addr
  b : Addr
  k : List Key
  v : V
def rDictT (K : PySem.W.Frag) : List V → Hp → VK → Prop := fun xs H Q => ∃ (a : Addr) (ts : List KPair), xs = [.ref a] ∧ SqL K H a (ts.map fun t => .ref t.T) ∧ (∀ t ∈ ts, H t.T = some (.tup [.ref t.b, t.v]) ∧ H t.b = some (.tup (t.k.map L2.kV))) ∧ (ts.map (·.k)).Nodup ∧
  ∀ p, H p = none → Q (.ref p) (upd H p (.dT (ts.map fun t => (t.k, t.v))))
theorem storedAll_new {κ : Type} [DecidableEq κ] : ∀ (ps acc : List (κ × Addr × Value)), ((acc ++ ps).map (·.1)).Nodup → PySem.storedAllH acc ps = acc ++ ps
  | [], acc, _ => by simp [PySem.storedAllH]
  | p :: ps, acc, h => by
    have hn : PySem.atKey acc p.1 = none := by
      unfold PySem.atKey
      cases q : acc.find? (fun x => decide (x.1 = p.1)) with
      | none => simp [q]
      | some x =>
        exfalso
        have h1 := List.find?_some q
        have h2 := List.mem_of_find?_eq_some q
        simp only [decide_eq_true_eq] at h1
        rw [List.map_append, List.nodup_append] at h
        exact h.2.2 x.1 (List.mem_map_of_mem h2) p.1 (by simp) h1
    have e : PySem.storedAllH acc (p :: ps) = PySem.storedAllH (acc ++ [p]) ps := by
      show PySem.storedAllH (PySem.storedH acc p.1 p.2.1 p.2.2) ps = _
      rw [PySem.storedH_new hn]
    rw [e, storedAll_new ps (acc ++ [p]) (by simpa using h)]
    simp
theorem call_dictT {X : Cx} (hc : X.calm = true) (hu : X.A.units + 90 < cLine) : CallR X (.type "dict") (rDictT X.K) := by
  intro pins s σ H xs us Q I r ⟨a, ts, e, hs, ht, hnd, q⟩
  subst e
  rw [L2.Vals.ref1 r]
  obtain ⟨its, rv, hl, hz⟩ := I.list hs
  have ei : its = ts.map fun t => Value.ref t.T := by
    clear hl hz hs ht hnd q
    induction ts generalizing its with
    | nil => cases rv; rfl
    | cons t ts ih =>
      rw [List.map_cons] at rv
      cases rv with
      | cons r1 r2 =>
        cases r1
        rw [List.map_cons, ih _ r2]
  subst ei
  -- the values
  have hps : ∃ ps : List (List Key × Addr × Value), ps.length = ts.length ∧ PySem.Paired (fun (p : List Key × V) (q : List Key × Addr × Value) => p.1 = q.1 ∧ H q.2.1 = some (.tup (p.1.map L2.kV)) ∧ RelV p.2 q.2.2) (ts.map fun t => (t.k, t.v)) ps ∧
      (∀ (j : Nat) (t : KPair), ts[j]? = some t → ∃ u, ps[j]? = some (t.k, t.b, u) ∧ PySem.PairAt s.heap t.T (.ref t.b) u) ∧ ps.map (·.1) = ts.map (·.k) ∧ ∀ x ∈ ps, (PySem.tupleKind (L2.mixKind X.prog X.w)).is s.heap x.1 x.2.1 := by
    clear hl hz hs hnd q rv
    induction ts with
    | nil => exact ⟨[], rfl, .nil, fun j t h => by simp at h, rfl, fun x h => by simp at h⟩
    | cons t ts ih =>
      obtain ⟨ps, h1, h2, h3, h4, h5⟩ := ih fun t ht' => ht t (List.mem_cons_of_mem _ ht')
      obtain ⟨t1, t2⟩ := ht t List.mem_cons_self
      obtain ⟨i2, r2, p2, _⟩ := I.tuple (SqT.of t1)
      cases r2 with
      | cons ra rb =>
        cases rb with
        | cons rb rc =>
          cases rc
          cases ra
          rename_i u
          refine ⟨(t.k, t.b, u) :: ps, by simp [h1], .cons ⟨rfl, t2, rb⟩ h2, fun j t' hj => ?_, by simp [h4], fun x hx => ?_⟩
          · cases j with
            | zero =>
              have : t = t' := Option.some.inj hj
              subst this
              exact ⟨u, rfl, .inl p2⟩
            | succ j => exact h3 j t' (by simpa using hj)
          · rcases List.mem_cons.mp hx with rfl | hx
            · exact L2.key_of I.hok t2
            · exact h5 x hx
  obtain ⟨ps, h1, h2, h3, h4, h5⟩ := hps
  have hzl : ts.length ≤ PySem.sizeLine := by simpa using hz
  obtain ⟨o, n, ho, hcl, hd, hdat⟩ := hl
  refine PySem.call_dict_pairsH (knd := PySem.tupleKind (L2.mixKind X.prog X.w)) (ps := ps) (PySem.PairArg.list a (ts.map fun t => Value.ref t.T).toArray (fun j => ((ts[j]?).map (·.T)).getD 0) (ps.map fun p => (Value.ref p.2.1, p.2.2))) (I.ok.hd hc)
    (PySem.tupleKind_room_in1 (A := X.A.in1) (by show X.A.units + 1 + 1 < cLine; omega)) ⟨⟨o, n, ho, hcl, hd, hdat⟩, by simp [h1], fun j k v hj => ?_⟩ ⟨by simp, fun i key v hrel => ?_⟩ (fun h' hk x hx => ?_) (by simpa [h1] using hzl) fun h' tk hdo hk => ?_
  · -- the items
    rw [List.getElem?_map] at hj
    obtain ⟨x, hx, e⟩ := Option.map_eq_some_iff.mp hj
    cases e
    have hlt : j < ts.length := by rw [← h1]; exact (List.getElem?_eq_some_iff.mp hx).1
    have hts : ts[j]? = some ts[j] := by simp [hlt]
    obtain ⟨u, k1, k2⟩ := h3 j _ hts
    rw [hx] at k1
    cases k1
    have hT : ((ts[j]?).map (·.T)).getD 0 = ts[j].T := by rw [hts]; rfl
    refine ⟨?_, ?_⟩
    · simp [hts, hT]
    · show PySem.PairAt s.heap (((ts[j]?).map (·.T)).getD 0) _ _
      rw [hT]; exact k2
  · have hrel : (ps.map fun p => (Value.ref p.2.1, p.2.2))[i]? = some (key, v) := hrel
    rw [List.getElem?_map] at hrel
    obtain ⟨x, hx, e⟩ := Option.map_eq_some_iff.mp hrel
    cases e
    exact ⟨x.1, x.2.1, hx, rfl⟩
  · obtain ⟨ob, its, nn, k1, k2, k3, k4⟩ := h5 x hx
    exact ⟨ob, its, nn, hk _ _ (Nat.ne_of_lt (Heap.lt_size k1)) (by simp) k1, k2, k3, k4⟩
  · have hm : (s.heap.objs.size == PySem.sysModules) = false := beq_eq_false_iff_ne.mpr (Nat.ne_of_gt I.big)
    have hn : (([] : List (List Key × Addr × Value)) ++ ps).map (·.1) = ts.map (·.k) := by rw [List.nil_append, h4]
    rw [storedAll_new ps [] (by rw [hn]; exact hnd), List.nil_append] at hdo
    obtain ⟨ob, es, ep, g1, g2, g3, g4, g5, g6⟩ := hdo
    refine ⟨.ref s.heap.objs.size, upd H s.heap.objs.size (.dT (ts.map fun t => (t.k, t.v))), I.laid (t' := tk) (fun b o e => hk b o (by simp) e) (Nat.le_refl _) ?_, rfl, q _ (I.hok.fresh (Nat.le_refl _))⟩
    refine ⟨by simpa using hzl, hm, ps, ?_, ob, es, ep, g1, g2, g3, g4, g6⟩
    refine h2.mono fun p x hp => ⟨hp.1, ?_, hp.2.2⟩
    rw [upd_ne fun e => ?_]
    · exact hp.2.1
    · have := I.hok.fresh (Nat.le_refl s.heap.objs.size)
      rw [← e, hp.2.1] at this
      cases this
end BV

/-! web.there(). -/
namespace BV
open PySem (Str Addr Expr Stmt PyData Operator CmpOp cLine Value Shared Around Program World wpAny model Reads ReadsAll bootBuiltins Scope NameKind Arguments FuncData Heap)
open L2 (V HO Hp upd upd_same upd_ne SqL SqT Cx PE TE VK OpR Dp DpAll Inv Vals RelV PT PW TT PA TA CallR EP Gl MtR PG PGs PI PTs PS PSs TS Ends PO FnOk FunD FnScope Sp Room XK Binds CX0 E0)
section
variable {T : Tx} {w w' w0 : W} {H H' H0 : Hp} {σ : L2.St} {z : Z} {h : Option (List D)}
theorem meth0_eq {o : Expr} {m : Str} {apos pos : PySem.Pos} {env : PySem.Env} (hb : PySem.attributeBase o m env (PySem.eval o env) = PySem.eval o env) (hl : (apos.endLine == pos.line) = true) :
    PySem.eval (.Call (.Attribute o m apos) [] [] pos) env = (do
      let ov ← PySem.eval o env
      PySem.standAt apos.atName
      let (f, first) ← PySem.holding [ov] (PySem.getMethod ov m (do return (← PySem.importBound o env).getD true))
      PySem.callWith pos f first (PySem.backTo pos (PySem.starEach [] env)) (PySem.backToKw pos (PySem.keywordEach [] env))) := by
  show (do
    let ov ← PySem.attributeBase o m env (PySem.eval o env)
    PySem.standAt apos.atName
    PySem.methodCall o m apos pos env ov 0 (PySem.backTo pos (PySem.starEach [] env)) (PySem.backToKw pos (PySem.keywordEach [] env))) = _
  rw [hb]
  unfold PySem.methodCall PySem.methodCallPos
  simp only [hl, Bool.or_true, if_true, pure_bind]
  rfl
/-- the cache filled -/
theorem cache_set {k e : Addr} {ls : List (Nat × Nat)} (s : SR T w σ H z) (hL : w.L k = some ls) (hF : w.F e) (he : H e = some (.dT (thereV ls))) :
    SR T w σ (upd H k (.dK [(Sum.inr ("there" : Str), V.ref e)])) z ∧ Ext w H w (upd H k (.dK [(Sum.inr ("there" : Str), V.ref e)])) := by
  have hn : w.L k ≠ none := by rw [hL]; simp
  have nF : ∀ b, w.F b → b ≠ k := fun b hb e => by
    have := (s.wf.exF b hb).2.1
    rw [e, hL] at this
    cases this
  have g : Gr w H w (upd H k (.dK [(Sum.inr ("there" : Str), V.ref e)])) := ⟨fun b hb => ⟨hb, upd_ne (nF b hb)⟩, fun _ _ x => x, fun _ x => x⟩
  obtain ⟨k1, k2⟩ := s.wf.exL k hn
  have nO : ∀ b i, w.own b = some i → b ≠ k := fun b i hb e => by rw [e, k1] at hb; cases hb
  have nB : ∀ b, w.bor b → b ≠ k := fun b hb e => by
    have := (s.wf.bor b hb).1
    rw [e, hL] at this
    cases this
  refine ⟨⟨⟨fun b hb => ⟨upd_dom (s.wf.exF b hb).1, (s.wf.exF b hb).2⟩, s.wf.exL, fun b j hb => ⟨upd_dom (s.wf.exO b j hb).1, (s.wf.exO b j hb).2⟩, fun c cs q => ?_, s.wf.hand.mono g fun b e => upd_ne fun q => k2 (q ▸ e), fun b hb => upd_dom (s.wf.lkd b hb), fun b hb => let ⟨b1, b2, b3, b4⟩ := s.wf.bor b hb; ⟨b1, b2, b3, upd_dom b4⟩⟩, s.len,
    fun j d e => let ⟨v, e1, r⟩ := s.frz j d e; ⟨v, e1, r.mono g⟩, fun j d e => let ⟨b, e1, e2, r⟩ := s.own j d e; ⟨b, e1, e2, r.mono g (upd_ne (nO b j e2))⟩, fun j d e => let ⟨b, e1, e2, r⟩ := s.bor j d e; ⟨b, e1, e2, r.mono g (upd_ne (nB b e2))⟩, s.lk⟩,
    ⟨fun _ x => x, fun _ x => .inl x, fun _ _ x => x, fun _ x => .inl x, fun _ x => x, fun _ x => .inl x, fun _ j x => .inl x, rfl, rfl, fun b o e h2 _ _ => by rw [upd_ne fun q => hn (by rw [← q]; exact h2)]; exact e, fun b e => upd_dom e⟩⟩
  by_cases q2 : c = k
  · subst q2
    rw [hL] at q
    cases q
    exact .inr ⟨e, upd_same, hF, (upd_ne (nF e hF)).trans he⟩
  · rcases s.wf.cache c cs q with c1 | ⟨e2, c1, c2, c3⟩
    · exact .inl ((upd_ne q2).trans c1)
    · exact .inr ⟨e2, (upd_ne q2).trans c1, c2, (upd_ne (nF e2 c2)).trans c3⟩
theorem rep_there {e : Addr} {ls : List (Nat × Nat)} (hF : w.F e) (he : H e = some (.dT (thereV ls))) : Rep T w H (thereD ls) (.ref e) := by
  unfold thereD
  simp only [Rep]
  refine ⟨e, ls.map fun _ => V.bl true, rfl, hF, ⟨by simp, .inr ⟨ls.map fun p => [Sum.inl (p.1 : Int), Sum.inl (p.2 : Int)], ?_, ?_⟩⟩, ?_⟩
  · rw [List.map_map, List.map_map]
    rfl
  · rw [he]
    congr 2
    unfold thereV
    clear he
    induction ls with
    | nil => rfl
    | cons p ls ih => simp only [List.map_cons, List.zip_cons_cons, ih]
  · clear he
    induction ls with
    | nil => simp [RepVs]
    | cons p ls ih =>
      simp only [List.map_cons, RepVs]
      exact ⟨_, _, rfl, by simp [Rep], ih⟩
/-- the pairs of the lines, told by addresses -/
theorem pairs_told : ∀ {ls : List (Nat × Nat)} {xs : List V}, Reps T w H (ls.map fun p => D.tup [pairD p, .bl true]) xs → ∃ ts : List KPair, xs = ts.map (fun t => V.ref t.T) ∧ (∀ t ∈ ts, H t.T = some (.tup [.ref t.b, t.v]) ∧ H t.b = some (.tup (t.k.map L2.kV))) ∧
    (ts.map fun t => (t.k, t.v)) = thereV ls ∧ ts.map (·.k) = ls.map fun p => [Sum.inl (p.1 : Int), Sum.inl (p.2 : Int)]
  | [], _, h => by
    simp only [List.map_nil, Reps] at h
    subst h
    exact ⟨[], rfl, fun t h => by simp at h, rfl, rfl⟩
  | p :: ls, _, h => by
    simp only [List.map_cons, Reps] at h
    obtain ⟨v, vs, rfl, h1, h2⟩ := h
    obtain ⟨ts, e1, e2, e3, e4⟩ := pairs_told h2
    simp only [pairD, Rep, Reps] at h1
    obtain ⟨a, ys, rfl, hf, ha, y, ys2, rfl, ⟨b, ws, rfl, hbf, hb, hw⟩, u, us, rfl, rfl, rfl⟩ := h1
    obtain ⟨x1, _, rfl, rfl, x2, _, rfl, rfl, rfl⟩ := hw
    refine ⟨⟨a, b, [Sum.inl (p.1 : Int), Sum.inl (p.2 : Int)], .bl true⟩ :: ts, by simp [e1], fun t ht => ?_, by simp only [List.map_cons, e3]; rfl, by simp [e4]⟩
    rcases List.mem_cons.mp ht with rfl | ht
    · exact ⟨ha, hb⟩
    · exact e2 t ht
end

/-! ### there -/
def thereTr (c : Ctx) : List Stmt → Option E
  | [.If (.Compare (.Constant (.str a) _ _) [.NotIn] [.Attribute (.Name b _) d _] _) [.Assign [.Subscript (.Attribute (.Name e _) f _) (.Constant (.str g) _ _) _] (.Call (.Name i _) [lc] [] _) _] [] _, .Return (some (.Subscript (.Attribute (.Name j _) l _) (.Constant (.str m) _ _) _)) _] =>
    if a = ("there" : Str) ∧ b = ("self" : Str) ∧ d = ("looked" : Str) ∧ e = ("self" : Str) ∧ f = ("looked" : Str) ∧ g = ("there" : Str) ∧ i = ("dict" : Str) ∧ j = ("self" : Str) ∧ l = ("looked" : Str) ∧ m = ("there" : Str) ∧ c.slot "self" = some 0 ∧ c.g "dict" = some .blt ∧ notStar lc = true then
      trE c 100 lc
    else none
  | _ => none
def lcE : E := .comp (.tup (.cons (.var 1) (.cons (.bl true) .nil))) (.nm 1) (.seq (.fld (.var 0) .lines)) (.bl true) [1]
def NT : List Str := ["self", "line"]
def spThere (T : Tx) : Sp := fun vs H Q _ => ∃ W h n ls a, vs = [.ref a] ∧ Wf T W H h ∧ (∀ a, W.own a = none) ∧ Rep T W H (.web n ls) (.ref a) ∧ ls.length < lim ∧ (ls.map fun p => ([Sum.inl (p.1 : Int), Sum.inl (p.2 : Int)] : List Key)).Nodup ∧
  ∀ v W' H', Wf T W' H' h → Ext W H W' H' → Rep T W' H' (thereD ls) v → Q v H'
section
variable {T : Tx} {F : Phi} {c : Ctx} {X : Cx}
def zT (n : Nat) (ls : List (Nat × Nat)) (h : Option (List D)) : Z := ⟨[some (.frz, .web n ls), none], h, []⟩
/-- the list of the lines with True -/
theorem lc_ev {n : Nat} {ls : List (Nat × Nat)} {h : Option (List D)} (hl : ls.length < lim) : ∃ z', z'.h = h ∧ ev F lcE (zT n ls h) = some (z', true, .lst (ls.map fun p => D.tup [pairD p, .bl true])) := by
  have loop : ∀ (r : List (Nat × Nat)) (x : Option (Ow × D)) (acc : List D), acc.length + r.length < lim → ∃ z' : Z, z'.h = h ∧ compLoop (bindT (.nm 1)) (ev F (.bl true)) (ev F (.tup (.cons (.var 1) (.cons (.bl true) .nil)))) [1] (r.map pairD) ⟨[some (.frz, .web n ls), x], h, []⟩ acc = some (z', acc ++ r.map fun p => D.tup [pairD p, .bl true]) := by
    intro r
    induction r with
    | nil => intro x acc _; exact ⟨⟨[some (.frz, .web n ls), x], h, []⟩, rfl, by simp [compLoop]⟩
    | cons p r ih =>
      intro x acc hlen
      rw [List.length_cons] at hlen
      obtain ⟨z', hh, hz⟩ := ih (some (.frz, pairD p)) (acc ++ [D.tup [pairD p, .bl true]]) (by simp; omega)
      refine ⟨z', hh, ?_⟩
      have hz2 : compLoop (bindT (.nm 1)) (ev F (.bl true)) (ev F (.tup (.cons (.var 1) (.cons (.bl true) .nil)))) [1] (r.map pairD) ⟨[some (.frz, .web n ls), some (.frz, pairD p)], h, []⟩ (acc ++ [D.tup [pairD p, .bl true]]) = some (z', acc ++ (p :: r).map fun p => D.tup [pairD p, .bl true]) := by
        rw [hz]
        simp
      have hacc : acc.length < lim := by omega
      have h2l : (2 : Nat) ≤ lim := by decide
      simp only [List.map_cons, compLoop]
      simp only [bindT, Z.wipe, List.set, List.length_cons, List.length_nil, Z.put, ev, evF, sTup, sEfCons, sEfNil, sVar, Z.at, Z.freeze]
      simp [hacc, h2l]
      exact hz2
  obtain ⟨z', hh, hz⟩ := loop ls none [] (by simpa using hl)
  refine ⟨unbor (zT n ls h) ((z'.wipe [1]).back (zT n ls h) [1]), hh, ?_⟩
  have hz3 : compLoop (bindT (.nm 1)) (ev F (.bl true)) (ev F (.tup (.cons (.var 1) (.cons (.bl true) .nil)))) [1] (ls.map pairD) (bor [] (zT n ls h)) [] = some (z', ls.map fun p => D.tup [pairD p, .bl true]) := by
    have : bor [] (zT n ls h) = ⟨[some (.frz, .web n ls), none], h, []⟩ := rfl
    rw [this, hz]
    rfl
  show sComp _ _ _ _ _ _ = _
  have hit : evI F (.seq (.fld (.var 0) .lines)) (zT n ls h) = some (zT n ls h, ls.map pairD, []) := rfl
  unfold sComp
  rw [hit]
  simp only
  rw [hz3]
theorem zT_sr {W : W} {H : Hp} {h : Option (List D)} {n : Nat} {ls : List (Nat × Nat)} {a : Addr} (f : Wf T W H h) (ho : ∀ a, W.own a = none) (r : Rep T W H (.web n ls) (.ref a)) : SR T W (L2.start NT [.ref a]) H (zT n ls h) := by
  refine ⟨f, rfl, fun i d e => ?_, fun i d e => ?_, fun i d e => ?_, fun a i e => by rw [ho] at e; cases e⟩
  · match i, e with
    | 0, e => cases e; exact ⟨_, rfl, r⟩
    | 1, e => cases e
    | i + 2, e => cases e
  · match i, e with
    | 0, e => cases e
    | 1, e => cases e
    | i + 2, e => cases e
  · match i, e with
    | 0, e => cases e
    | 1, e => cases e
    | i + 2, e => cases e
theorem noSl_str {s : Str} {j : Nat} {p : PySem.Pos} : L2.NoSl (.Constant (.str s) j p) := fun _ _ => rfl
theorem there_body (k : CxOk T F c X) {body : List Stmt} (htr : thereTr c body = some lcE) : ∃ t, PSs X body t ∧ ∀ vs H Q E, spThere T vs H Q E → t { nx := fun _ H' => Q .non H', rt := Q } (L2.start NT vs) H := by
  unfold thereTr at htr
  split at htr
  case h_2 => cases htr
  case h_1 a1 k1 p1 b1 p2 d1 p3 p4 e1 p5 f1 p6 g1 k2 p7 p8 i1 p9 lc p10 p11 p12 j1 p13 l1 p14 m1 k3 p15 p16 p17 =>
    split at htr
    · rename_i hc
      obtain ⟨rfl, rfl, rfl, rfl, rfl, rfl, rfl, rfl, rfl, rfl, s0, hd, hn⟩ := hc
      obtain ⟨q1, q2, q3⟩ := k.g_ hd
      have hu : X.A.units + 1 < cLine := by have := k.un; omega
      have hu9 : X.A.units + 90 < cLine := by have := k.un; omega
      have lk : ∀ {pa pb : PySem.Pos}, PE X (.Attribute (.Name "self" pa) "looked" pb) (L2.tFld X.K (L2.tVar 0) "looked") := L2.pe_fld (k.var s0) (base_of rfl)
      have olc := (ih_all 100).e c X k _ _ htr
      refine ⟨_, L2.pss_cons (L2.ps_if (L2.pt_cmp (L2.pc_dnotin hu L2.pe_str lk) rfl) (L2.pss_one (L2.ps_dput hu lk L2.pe_str (L2.pe_callTy (call_dictT k.calm hu9) q1 (k.gb _ q3) (by kernel_rfl) (L2.pa_cons olc.v L2.pa_nil (star_no hn)) (by decide) q2 (star_no hn) rfl) rfl)) L2.pss_nil)
        (L2.pss_one (L2.ps_ret (L2.pe_dget hu lk L2.pe_str noSl_str))), ?_⟩
      rintro vs H Q E ⟨W, h, n, ls, a, rfl, wf, ho, rw', hlim, hnd, q⟩
      have sr := zT_sr wf ho rw'
      -- the cache's place
      have get : ∀ {W2 : BV.W} {H2 : Hp}, Rep T W2 H2 (.web n ls) (.ref a) → ∃ dx l kk, H2 a = some (.ins T.C dx (webFs n l kk)) ∧ W2.L kk = some ls := by
        intro W2 H2 r
        simp only [Rep] at r
        obtain ⟨_, a', dx, l, kk, xs, e, _, h1, _, _, _, h2⟩ := r
        cases e
        exact ⟨dx, l, kk, h1, h2⟩
      -- the read behind
      have fin : ∀ {W2 : BV.W} {H2 : Hp} {e : Addr} {kk : Addr} {dx l : Addr}, Wf T W2 H2 h → Ext W H W2 H2 → H2 a = some (.ins T.C dx (webFs n l kk)) → H2 kk = some (.dK [(Sum.inr ("there" : Str), V.ref e)]) → W2.F e → H2 e = some (.dT (thereV ls)) →
          L2.tRet (L2.tDGet (L2.tFld X.K (L2.tVar 0) "looked") (L2.tC (.str "there"))) { nx := fun _ H' => Q .non H', rt := Q } (L2.start NT [.ref a]) H2 := by
        intro W2 H2 e kk dx l f2 x2 ha hk hF he
        refine ⟨.ref a, rfl, a, T.C, dx, _, .ref kk, rfl, ha, k.wk.cls, k.wk.looked, rfl, kk, .ref e, rfl, ?_, q _ W2 H2 f2 x2 (rep_there hF he)⟩
        exact L2.DGet.k (k := Sum.inr ("there" : Str)) hk
      obtain ⟨dx, l, kk, ha, hL⟩ := get rw'
      rcases wf.cache kk ls hL with hk | ⟨e, hk, hF, he⟩
      · -- not yet
        refine ⟨.ref a, rfl, a, T.C, dx, _, .ref kk, rfl, ha, k.wk.cls, k.wk.looked, rfl, kk, none, rfl, L2.DGet.k (k := Sum.inr ("there" : Str)) hk, true, rfl, L2.iteT ?_⟩
        obtain ⟨z', hzh, ez⟩ := lc_ev (F := F) (n := n) (h := h) hlim
        refine ⟨W, zT n ls h, z', true, _, sr, ez, fun v W1 H1 s1 x1 r1 => ?_⟩
        obtain ⟨p, rfl, hp0, hp1, hpF, hpL, hpH, hpO, xs, hpx, hpr⟩ := r1
        obtain ⟨ts, e1, e2, e3, e4⟩ := pairs_told hpr
        subst e1
        refine ⟨p, ts, rfl, SqL.of hpx, e2, by rw [e4]; exact hnd, fun pd hpd => ?_⟩
        rw [e3]
        have s2 := s1.allocF (o := .dT (thereV ls)) hpd
        have x2 : Ext W1 H1 (W1.add pd) (upd H1 pd (.dT (thereV ls))) := ext_allocF s1.wf hpd
        have r2 : Rep T (W1.add pd) (upd H1 pd (.dT (thereV ls))) (.web n ls) (.ref a) := rw'.mono ((x1.trans x2).gr wf)
        obtain ⟨dx2, l2, kk2, ha2, hL2⟩ := get r2
        have ek : kk2 = kk := by
          have a1 : W1.L kk = some ls := x1.L kk ls hL
          have h1a : upd H1 pd (.dT (thereV ls)) a = some (.ins T.C dx (webFs n l kk)) := by
            simp only [Rep] at rw'
            obtain ⟨_, a', _, _, _, _, e, hFa, _⟩ := rw'
            cases e
            have := ((x1.trans x2).gr wf).F a hFa
            rw [this.2]
            exact ha
          rw [h1a] at ha2
          cases ha2
          rfl
        subst ek
        have hk1 : upd H1 pd (.dT (thereV ls)) kk2 = some (.dK []) ∨ ∃ e, upd H1 pd (.dT (thereV ls)) kk2 = some (.dK [(Sum.inr ("there" : Str), V.ref e)]) ∧ (W1.add pd).F e ∧ upd H1 pd (.dT (thereV ls)) e = some (.dT (thereV ls)) := s2.wf.cache kk2 ls hL2
        have put : ∀ kvs : List (Key × V), upd H1 pd (.dT (thereV ls)) kk2 = some (.dK kvs) → kvs.length < PySem.sizeLine → L2.putK kvs (Sum.inr ("there" : Str)) (V.ref pd) = [(Sum.inr ("there" : Str), V.ref pd)] →
            L2.tFld X.K (L2.tVar 0) "looked" (L2.start NT [.ref a]) (upd H1 pd (.dT (thereV ls))) fun x H2 => L2.tC (.str "there") (L2.start NT [.ref a]) H2 fun y H3 => ∃ a_1 H4, x = .ref a_1 ∧ L2.DPut H3 a_1 y (.ref pd) H4 ∧
              L2.tRet (L2.tDGet (L2.tFld X.K (L2.tVar 0) "looked") (L2.tC (.str "there"))) { nx := fun _ H' => Q .non H', rt := Q } (L2.start NT [.ref a]) H4 := by
          intro kvs hkv hlen hput
          refine ⟨.ref a, rfl, a, T.C, dx2, _, .ref kk2, rfl, ha2, k.wk.cls, k.wk.looked, rfl, kk2, _, rfl, L2.DPut.k (k := Sum.inr ("there" : Str)) hkv hlen, ?_⟩
          rw [hput]
          obtain ⟨s3, x3⟩ := cache_set s2 hL2 (.inl rfl) upd_same
          have hak : a ≠ kk2 := fun e => by rw [e, hkv] at ha2; cases ha2
          have hpk : pd ≠ kk2 := fun e => by rw [← e, upd_same] at hkv; cases hkv
          exact fin (hzh ▸ s3.wf) ((x1.trans x2).trans x3) (by rw [upd_ne hak]; exact ha2) upd_same (.inl rfl) (by rw [upd_ne hpk]; exact upd_same)
        rcases hk1 with hk1 | ⟨e0, hk1, _, _⟩
        · exact put [] hk1 (by show 0 < PySem.sizeLine; rw [← lim_line]; decide) rfl
        · exact put _ hk1 (by show 1 < PySem.sizeLine; rw [← lim_line]; decide) (by simp [L2.putK])
      · -- there
        refine ⟨.ref a, rfl, a, T.C, dx, _, .ref kk, rfl, ha, k.wk.cls, k.wk.looked, rfl, kk, some (.ref e), rfl, L2.DGet.k (k := Sum.inr ("there" : Str)) hk, false, rfl, L2.iteF ?_⟩
        exact fin wf (Ext.refl W H) ha hk hF he
    · cases htr
end
end BV

/-! web.there(): the rule. -/
namespace BV
open PySem (Str Addr Expr Stmt PyData Operator CmpOp cLine Value Shared Around Program World wpAny model Reads ReadsAll bootBuiltins Scope NameKind Arguments FuncData Heap)
open L2 (V HO Hp upd upd_same upd_ne SqL SqT Cx PE TE VK OpR Dp DpAll Inv Vals RelV PT PW TT PA TA CallR EP Gl MtR PG PGs PI PTs PS PSs TS Ends PO FnOk FunD FnScope Sp Room XK Binds CX0 E0)
theorem asc_pw : ∀ {ls : List (Nat × Nat)}, ascP ls = true → ls.Pairwise fun p q => ltP p q = true
  | [], _ => .nil
  | [p], _ => .cons (fun _ h => by simp at h) .nil
  | p :: q :: r, h => by
    simp only [ascP, Bool.and_eq_true] at h
    have ih := asc_pw h.2
    refine .cons (fun x hx => ?_) ih
    have tr : ∀ a b c : Nat × Nat, ltP a b = true → ltP b c = true → ltP a c = true := by
      intro a b c h1 h2
      simp only [ltP, Bool.or_eq_true, Bool.and_eq_true, decide_eq_true_eq] at h1 h2 ⊢
      omega
    rcases List.mem_cons.mp hx with rfl | hx
    · exact h.1
    · exact tr _ _ _ h.1 (List.rel_of_pairwise_cons ih hx)
theorem web_keys {n : Nat} {ls : List (Nat × Nat)} (h : webOk n ls = true) : (ls.map fun p => ([Sum.inl (p.1 : Int), Sum.inl (p.2 : Int)] : List Key)).Nodup := by
  unfold webOk at h
  simp only [Bool.and_eq_true] at h
  have := asc_pw h.2
  rw [List.Nodup, List.pairwise_map]
  refine this.imp fun {p q} hpq e => ?_
  simp only [List.cons.injEq, Sum.inl.injEq, and_true, Int.natCast_inj] at e
  simp only [ltP, Bool.or_eq_true, Bool.and_eq_true, decide_eq_true_eq] at hpq
  omega
theorem asc_len : ∀ (l : List Nat) (k B : Nat), l.Pairwise (· < ·) → (∀ x ∈ l, k ≤ x ∧ x < B) → k ≤ B → l.length + k ≤ B
  | [], k, B, _, _, h => by simpa using h
  | x :: r, k, B, hp, hb, h => by
    have h1 := hb x List.mem_cons_self
    have := asc_len r (x + 1) B (List.Pairwise.of_cons hp) (fun y hy => ⟨List.rel_of_pairwise_cons hp hy, (hb y (List.mem_cons_of_mem _ hy)).2⟩) (by omega)
    rw [List.length_cons]
    omega
theorem web_len {n : Nat} {ls : List (Nat × Nat)} (h : webOk n ls = true) : ls.length ≤ 49 := by
  unfold webOk at h
  simp only [Bool.and_eq_true, decide_eq_true_eq, List.all_eq_true] at h
  have hp := asc_pw h.2
  have := asc_len (ls.map fun p => p.1 * 7 + p.2) 0 49 (by
    rw [List.pairwise_map]
    refine hp.imp_of_mem fun {p q} hp' hq' hpq => ?_
    have a := h.1.2 p hp'
    have b := h.1.2 q hq'
    simp only [ltP, lineOk, Bool.or_eq_true, Bool.and_eq_true, decide_eq_true_eq] at hpq a b
    omega) (fun x hx => by
    obtain ⟨p, hp, rfl⟩ := List.mem_map.mp hx
    have a := h.1.2 p hp
    simp only [lineOk, Bool.and_eq_true, decide_eq_true_eq] at a
    omega) (by omega)
  simpa using this
structure ThereOk (K : PySem.W.Frag) (T : Tx) (gl : List (Str × GK)) (ft : Addr) (fd : FuncData) (params : Arguments) (body : List Stmt) (scope : Scope) : Prop where
  meth : L2.Meth K T.C "there" ft
  fn : FunD K "there" "Web.there" params body scope [] [] ft fd
  bnd : ∀ (kV doc pm : Value) (an : Option Addr) (cdv ct : Value) (us : List Value), us.length = 1 → PySem.bindArgs (PySem.W.fnOf "there" "Web.there" params body scope .none kV doc pm an cdv ct) ⟨us, []⟩ = pure ((["self"] : List Str).zip us)
  sc : FnScope NT ["self"] scope
  tr : thereTr ⟨NT, scope, true, gl, []⟩ body = some lcE
section
variable {Pr : Program} {w : World} {K : PySem.W.Frag} {mg : Str → Option Value} {base : Heap} {T : Tx} {gl : List (Str × GK)} {P : List Def} {fns : List FDat}
theorem den0_rules {X : Cx} : Rules T (den P 0) gl X where
  call := fun X' s x f kp es os p pos hx hg hd hne hs ha => ⟨fun pins s1 σ H Q I ⟨w1, z, z', o, d, sr, e, q⟩ => by
    unfold sCall at e
    split at e
    · split at e
      · split at e
        · rename_i he
          cases he
        · cases e
      · cases e
    · cases e⟩
  web := fun g => by cases g
  there := fun g => by cases g
  eq := fun X' s => no_web
  ne := fun X' s => no_web
theorem there_rule (pr : Prog0 Pr w K mg base T gl P fns) {ft : Addr} {fd : FuncData} {params : Arguments} {body : List Stmt} {scope : Scope} (to : ThereOk K T gl ft fd params body scope) :
    ∀ X, At Pr w K mg base X → Room (9 + lev) X.A → ∀ (a : Expr) (oa : OpT) (ap pos : PySem.Pos), (ap.endLine == pos.line) = true → notCall0 a = true → PE X a (tO T oa) → PE X (.Call (.Attribute a "there" ap) [] [] pos) (tE T (sOp1 (plain1 thop) oa)) := by
  intro X at_ hr a oa ap pos hl h0 ha
  have FF : FnOk Pr w K mg base CX0 1 ft fd ["self"] (spThere T) := by
    refine to.fn.ok (k := 0) (N := NT) to.sc (fun vs H Q E h => ?_) (fun cdv A outer s H vs Q E hr h => ?_)
    · obtain ⟨_, _, _, _, _, rfl, _⟩ := h
      rfl
    · have k : CxOk T (den P 0) ⟨NT, scope, true, gl, []⟩ (L2.cxOf CX0 Pr w K mg base NT "Web.there" scope ft cdv A outer s H E).nox :=
        ⟨rfl, to.sc.nd, rfl, pr.eK, rfl, by have := hr.un; show (A.deeper _).units + 200 < cLine; omega, fun _ _ => rfl, pr.gi, pr.gb, pr.gw, pr.wk, rfl, den0_rules⟩
      obtain ⟨t, ht, hq⟩ := there_body k to.tr
      exact ⟨t, PSs.nox ht, hq vs H Q E h⟩
  have F' : FnOk X.prog X.w X.K X.mg X.base CX0 1 ft fd ["self"] (spThere T) := by
    rw [at_.prog, at_.w, at_.K, at_.mg, at_.base]; exact FF
  have hm : L2.Meth X.K T.C "there" ft := by rw [at_.K]; exact to.meth
  have hc : L2.Cls X.K T.C := by rw [at_.K]; exact pr.wk.cls
  have hbn : Binds X.K fd ["self"] [] := by rw [at_.K]; exact to.fn.bindsN to.bnd
  refine PE.imp (L2.pe_meth0 (dvs := []) (E := E0) ha hc hm F' (hr.mono (by unfold lev; omega)) hbn .nil L2.pass0 (meth0_eq (base_of h0) hl)) ?_
  rintro σ H Q ⟨w1, z, z', o, d, s, e, q⟩
  unfold sOp1 at e
  split at e
  case h_2 => cases e
  case h_1 z1 oa' ea =>
    refine ⟨w1, z, z1, oa', s, ea, fun xv w2 H2 s2 x2 r2 => ?_⟩
    split at e
    · rename_i da ga
      obtain ⟨⟨o', d'⟩, ef, e2⟩ := Option.map_eq_some_iff.mp e
      cases e2
      obtain ⟨d2, ew, e3⟩ := Option.map_eq_some_iff.mp ef
      cases e3
      cases da <;> simp only [thop, reduceCtorEq, Option.some.injEq] at ew
      subst ew
      rename_i n ls
      have r := repU_web (r2.use s2 ga)
      have r0 := r
      simp only [Rep] at r
      obtain ⟨hok, a', dx, l, kk, xs, rfl, hF, h1, _⟩ := r
      refine ⟨a', dx, _, rfl, h1, rfl, w2.callee, z'.h, n, ls, a', rfl, wf_callee s2.wf, fun _ => rfl, Rep.mono gr_callee r0, ?_, web_keys hok, fun v W' H' wf' x' r' => ?_⟩
      · have := web_len hok
        unfold lim
        omega
      · obtain ⟨s3, x3⟩ := ret_ok s2 wf' x'
        exact q v _ H' s3 (x2.trans x3) (show Rep T (W'.ret w2) H' (thereD ls) v from Rep.mono (show Gr W' H' (W'.ret w2) H' from ⟨fun _ x => ⟨x, rfl⟩, fun _ _ x => x, fun _ x => x⟩) r')
    · cases e
end
end BV

/-! The end. -/
namespace BV
open PySem (Str Addr Expr Stmt PyData Operator CmpOp cLine Value Shared Around Program World wpAny model Reads ReadsAll bootBuiltins Scope NameKind Arguments FuncData Heap)
open L2 (V HO Hp upd upd_same upd_ne SqL SqT Cx PE TE VK OpR Dp DpAll Inv Vals RelV PT PW TT PA TA CallR EP Gl MtR PG PGs PI PTs PS PSs TS Ends PO FnOk FunD FnScope Sp Room XK Binds CX0 E0)

/-- the law's promise, from what its tree says -/
theorem end_sp {T : Tx} {F : Phi} {f : Nat} {H : Hp} {a : Addr} {ns : List Int} (ho : L2.Only H) (hs : SqL T.K H a (ns.map V.int)) (hd : ∃ h' , F f [(false, .scr ns)] none = some (h', false, .bl true)) :
    spD T F f [.ref a] H (fun v _ => v = .bl true) (fun _ _ _ => False) := by
  obtain ⟨h', hd⟩ := hd
  let W0 : W := ⟨fun b => b = a ∧ H b ≠ none, fun _ => none, none, fun _ => none, fun _ => False, fun _ => False⟩
  have wf0 : Wf T W0 H none := by
    refine ⟨fun b hb => ⟨hb.2, rfl, rfl, fun e => absurd (show (none : Option Addr) = some b from e) (by simp)⟩, fun b hb => absurd rfl hb, fun b i e => absurd (show (none : Option Nat) = some i from e) (by simp), fun k ls e => absurd (show (none : Option (List (Nat × Nat))) = some ls from e) (by simp), trivial, fun b e => e.elim, fun b e => e.elim⟩
  refine ⟨W0, none, [(false, .scr ns)], h', false, .bl true, wf0, fun _ => rfl, hd, ?_, fun v w' H' _ _ r => ?_⟩
  · refine ⟨.ref a, [], rfl, ?_, rfl⟩
    show Rep T W0 H (.scr ns) (.ref a)
    simp only [Rep]
    refine ⟨a, rfl, ?_, hs⟩
    rcases hs with hs | hs
    · left
      refine ⟨rfl, ?_⟩
      rcases hs with hs | ⟨o, hs⟩ <;> rw [hs] <;> simp
    · right
      exact fun H2 => .inr hs
  · have r : Rep T w' H' (.bl true) v := r
    simpa only [Rep] using r
theorem walk_end {l : PySem.W.OpenLaw} {n k : Nat} {q : Program} {loose : List Str} {XP : (Str → Option Value) → Heap → Prop} {YP : World → Heap → Prop} {d : PySem.DefRec} {x : Str}
    (hn : l.most = some n) (hn2 : n ≤ PySem.sizeLine) (hdf : d.params.defaults = []) (hr : Room k PySem.callerA)
    (F : ∀ (w : World) (mg : Str → Option Value) (fa : Addr) (h : Heap), YP w h → h.Ns PySem.mainGlobals mg → mg d.name = some (.ref fa) →
      ∃ (K : PySem.W.Frag) (fd : FuncData) (sp : Sp), K.In h ∧ (∀ (s : Shared) (u : Value), PySem.BindsTo s fd ⟨[u], []⟩ [(x, u)]) ∧
        (∀ (H : Hp) (a : Addr) (ns : List Int), ns.length ≤ n → (∀ z ∈ ns, PySem.Builtin.Int.intBits z ≤ 1048576) → L2.Only H → SqL K H a (ns.map V.int) → sp [.ref a] H (fun v _ => v = .bl true) fun _ _ _ => False) ∧
        ∀ base : Heap, K.In base → base.Ns PySem.mainGlobals mg → FnOk l.prog w K mg base CX0 k fa fd [x] sp) :
    PySem.W.WalkO q loose XP YP l.row.toRowW d [] (fun f vs => PySem.call f vs) := by
  refine Att.attach_callB hn hdf fun w s₀ s₁ mg mb fa o pm cd doc a vs ns G Y ho hd hcd hmg hobj hints hlen hbits hg => ?_
  obtain ⟨K, fd, sp, KX, hb, hsp, hF⟩ := F w mg fa _ Y G.T.g hmg
  exact L2.law_call KX G.T.g G.T.b G.T.builtins G.T.nolimit hg hobj hints (Nat.le_trans hlen hn2) hr hF hb (fun H hO hS => hsp H a ns hlen hbits hO hS) fun H e s' h => h.elim
end BV

/-! What the head tells, put together. -/
namespace BV
open PySem (Str Addr Expr Stmt PyData Operator CmpOp cLine Value Shared Around Program World wpAny model Reads ReadsAll bootBuiltins Scope NameKind Arguments FuncData Heap Obj)
open L2 (V HO Hp FnOk FunD FnScope Sp Room Binds CX0)

def obsX (fa : List He.Fa) (fn : List He.DefD) (K : PySem.W.Frag) : Bool × He.AlD := (webB K (He.ga K "Web"), He.obsD fa fn K)
def obsXG (n : Nat) (fa : List He.Fa) (fn : List He.DefD) (g : Addr → Option Obj) : Bool × He.AlD := obsX fa fn (He.frG g (He.asD g n))
def hookX (n : Nat) (fa : List He.Fa) (fn : List He.DefD) : PySem.W.Hook where
  α := Bool × He.AlD
  obs := fun s => obsXG n fa fn s.heap.get?
  val := fun _ => (true, He.valD fn)
  says := fun _ h => ∃ K : PySem.W.Frag, K.In h ∧ obsX fa fn K = (true, He.valD fn)
  of := fun _ _ e => ⟨_, He.frG_in, e⟩
  keeps := fun _ _ _ ⟨K, hK, c⟩ k => ⟨K, PySem.W.Frag.In.keeps hK k, c⟩
theorem obsXG_eq {n : Nat} {fa : List He.Fa} {fn : List He.DefD} {g : Addr → Option Obj} {s : Shared} (h : ∀ a, g a = s.heap.get? a) : obsXG n fa fn g = (hookX n fa fn).obs s := by
  have e : g = s.heap.get? := funext h
  rw [e] <;> rfl
/-- one property of each -/
def AllI {α : Type} (Q : Nat → α → Prop) : Nat → List α → Prop
  | _, [] => True
  | i, d :: r => Q i d ∧ AllI Q (i + 1) r
theorem AllI.get {α : Type} {Q : Nat → α → Prop} : ∀ {l : List α} {k i : Nat} {d : α}, AllI Q k l → l[i]? = some d → Q (k + i) d
  | [], _, _, _, _, h => by simp at h
  | a :: r, k, 0, d, h, e => by
    have e : a = d := Option.some.inj e
    subst e
    exact h.1
  | a :: r, k, i + 1, d, h, e => by
    have := AllI.get (i := i) h.2 (by simpa using e)
    rw [show k + (i + 1) = k + 1 + i by omega]
    exact this
def FDat.defD (d : FDat) : He.DefD := ⟨(d.name, none), d.name, d.name, d.params, d.body, d.scope, [], []⟩
def faOf : Str × GK → He.Fa
  | (x, .fn _ _) => .glo x
  | (x, .int i) => .int x i
  | (x, .web) => .glo x
  | (x, .blt) => .free x
def faX : List He.Fa := [.cls "Web", .mkr "Web", .noat "Web" "corners", .noat "Web" "lines", .noat "Web" "looked", .meth "Web" "there", .meth "Web" "__eq__"]
/-- what one def is asked for -/
structure DefQ (gl : List (Str × GK)) (P : List Def) (i : Nat) (d : FDat) : Prop where
  bnd : ∀ (kV doc pm : Value) (an : Option Addr) (cdv ct : Value) (us : List Value), us.length = d.ps.length → PySem.bindArgs (PySem.W.fnOf d.name d.name d.params d.body d.scope .none kV doc pm an cdv ct) ⟨us, []⟩ = pure (d.ps.zip us)
  sc : FnScope d.N d.ps d.scope
  tr : ∃ n b, trSs (d.ctx gl) n d.body = some b ∧ P[i]? = some ⟨d.ps.length, d.N.length, b⟩
  gl : gl.lookup d.name = some (.fn i (match gl.lookup d.name with
    | some (.fn _ kp) => kp
    | _ => []))
theorem mem_of_lookup {α β : Type} [BEq α] [LawfulBEq α] : ∀ {l : List (α × β)} {x : α} {y : β}, l.lookup x = some y → (x, y) ∈ l
  | [], _, _, h => by cases h
  | (a, b) :: r, x, y, h => by
    rw [List.lookup_cons] at h
    by_cases e : x == a
    · simp only [e] at h
      cases h
      rw [eq_of_beq e]
      exact List.mem_cons_self
    · simp only [Bool.not_eq_true _ ▸ e] at h
      exact List.mem_cons_of_mem _ (mem_of_lookup h)
section
variable {Pr : Program} {w : World} {K : PySem.W.Frag} {mg : Str → Option Value} {base : Heap} {gl : List (Str × GK)} {P : List Def} {fns : List FDat} {fn2 : List He.DefD}
def Tof (K : PySem.W.Frag) : Tx := ⟨K, He.ga K "Web"⟩
theorem says_parts {fa : List He.Fa} {fn : List He.DefD} (c : obsX fa fn K = (true, He.valD fn)) : webB K (He.ga K "Web") = true ∧ He.SaysD fa fn K := by
  unfold obsX at c
  exact ⟨congrArg Prod.fst c, congrArg Prod.snd c⟩
theorem fact_mem {fa : List He.Fa} {fn : List He.DefD} (c : He.SaysD fa fn K) {f : He.Fa} (h : f ∈ fa) : f.ok K = true := by
  obtain ⟨i, hi⟩ := List.getElem?_of_mem h
  exact c.fact i hi
theorem prog0_of (KB : K.In base) (G : base.Ns PySem.mainGlobals mg) (c : obsX (gl.map faOf ++ faX) (fns.map FDat.defD ++ fn2) K = (true, He.valD (fns.map FDat.defD ++ fn2)))
    (hq : AllI (DefQ gl P) 0 fns) (hlen : P.length = fns.length) (hfew : fns.length ≤ gIdx)
    (hgl : (gl.all fun p => match p.2 with
      | .fn f _ => decide ((fns[f]?).map (·.name) = some p.1)
      | .web => decide (p.1 = "Web")
      | _ => true) = true) : Prog0 Pr w K mg base (Tof K) gl P fns := by
  obtain ⟨hw, cs⟩ := says_parts c
  have glob : ∀ {x : Str} {g : GK}, gl.lookup x = some g → (faOf (x, g)).ok K = true := fun {x g} h => fact_mem cs (List.mem_append_left _ (List.mem_map_of_mem (mem_of_lookup h)))
  have xf : ∀ {f : He.Fa}, f ∈ faX → f.ok K = true := fun {f} h => fact_mem cs (List.mem_append_right _ h)
  refine ⟨rfl, fun i d hd => ?_, fun i d hd => ?_, fun i d hd => ?_, fun i d hd => ?_, hlen, hfew, fun x f kp h => ?_, fun x i h => He.int_ok KB G (glob h), fun x h => He.free_ok KB G (glob h), fun x h => ?_, ⟨He.cls_ok (xf (by simp [faX])), He.noat_ok (xf (by simp [faX])), He.noat_ok (xf (by simp [faX])), He.noat_ok (xf (by simp [faX])), hw⟩⟩
  · have q := hq.get hd
    obtain ⟨fd, FF⟩ := cs.def_ i (d := d.defD) (by
      rw [List.getElem?_append_left (by rw [List.length_map]; exact (List.getElem?_eq_some_iff.mp hd).1), List.getElem?_map, hd]
      rfl)
    exact ⟨_, fd, FF, He.glo_ok KB G (glob q.gl)⟩
  · exact (hq.get hd).bnd
  · exact (hq.get hd).sc
  · have := (hq.get hd).tr
    rw [Nat.zero_add] at this
    exact this
  · have := List.all_eq_true.mp hgl _ (mem_of_lookup h)
    simp only [decide_eq_true_eq] at this
    obtain ⟨d, h1, h2⟩ := Option.map_eq_some_iff.mp this
    exact ⟨d, h1, h2⟩
  · have := List.all_eq_true.mp hgl _ (mem_of_lookup h)
    simp only [decide_eq_true_eq] at this
    have e := He.glo_ok KB G (glob h)
    rw [e, this]
    rfl
end
end BV

/-! What the tests of Web.__init__ answer. -/
namespace BV
open PySem (Str)
def bInteger : Ss := .cons (.ret (.and (.isi (.var 0) [.int]) (.not (.isi (.var 0) [.bool])))) .nil
def bWithin (iI : Nat) : Ss := .cons (.ret (.and (.call iI (.cons (.var 0) .nil)) (.cmp2 .le .le (.var 1) (.var 0) (.var 2)))) .nil
def bTuple : Ss := .cons (.ret (.and (.isi (.var 0) [.tuple]) (.cmp2 .le .le (.var 1) (.blt .len (.cons (.var 0) .nil)) (.var 2)))) .nil
def bCount (iW : Nat) : Ss := .cons (.ret (.call iW (.cons (.var 0) (.cons (.int 1) (.cons (.int 7) .nil))))) .nil
def bLine (iT iW : Nat) : Ss := (.cons (.ite (.or (.not (.call iT (.cons (.var 1) (.cons (.int 2) (.cons (.int 2) .nil))))) (.not (.blt .all (.cons (.comp (.call iW (.cons (.var 2) (.cons (.int 0) (.cons (.bin .sub (.var 0) (.int 1)) .nil)))) (.nm 2) (.seq (.var 1)) (.bl true) [2]) .nil)))) (.cons (.ret (.bl false))
  .nil) .nil)
  (.cons (.ret (.cmp .lt (.ix (.var 1) (.int 0)) (.ix (.var 1) (.int 1))))
  .nil))
def bLines (iL : Nat) : Ss := (.cons (.ite (.or (.not (.isi (.var 1) [.tuple])) (.not (.blt .all (.cons (.comp (.call iL (.cons (.var 0) (.cons (.var 4) .nil))) (.nm 4) (.seq (.var 1)) (.bl true) [4]) .nil)))) (.cons (.ret (.bl false))
  .nil) .nil)
  (.cons (.ret (.blt .all (.cons (.comp (.cmp .lt (.var 2) (.var 3)) (.tp (.cons (.nm 2) (.cons (.nm 3) .nil))) (.zip (.var 1) (.sl (.var 1) (some (.int 1)) none)) (.bl true) [2,3]) .nil)))
  .nil))
/-- a call of a def -/
theorem den_call {P : List Def} {k f : Nat} {d : Def} {ds : List (Bool × D)} {h : Option (List D)} (hf : P[f]? = some d) (hg : f ≠ gIdx) (h1 : ds.length = d.ps) (h2 : d.ps ≤ d.n) :
    den P (k + 1) f ds h = match execs (den P k) d.body (startZ d ds h) with
      | some (.rt h' o v) => some (h', o, v)
      | some (.nx z) => some (z.h, false, .non)
      | _ => none := by
  conv => lhs; unfold den
  rw [if_neg hg, hf]
  simp only
  rw [if_pos ⟨h1, h2⟩]
  all_goals rfl
section
variable {P : List Def} {iI iW iT iC iLn iL : Nat}
theorem integer_den {k : Nat} {v : Int} {h : Option (List D)} (hf : P[iI]? = some ⟨1, 1, bInteger⟩) (hg : iI ≠ gIdx) : den P (k + 1) iI [(false, .int v)] h = some (h, false, .bl true) := by
  rw [den_call hf hg rfl (by decide)]
  rfl
theorem cmp2_int {o p : Cop} {F : Phi} {z : Z} {a b c : E} {i j l : Int} (ho : ∀ x y, cmpop o (.int x) (.int y) = some (iop o x y)) (hp : ∀ x y, cmpop p (.int x) (.int y) = some (iop p x y)) : True := trivial
theorem within_den {k : Nat} {v lo hi : Int} {h : Option (List D)} (hI : P[iI]? = some ⟨1, 1, bInteger⟩) (gI : iI ≠ gIdx) (hW : P[iW]? = some ⟨3, 3, bWithin iI⟩) (gW : iW ≠ gIdx) :
    den P (k + 2) iW [(false, .int v), (false, .int lo), (false, .int hi)] h = some (h, false, .bl (decide (lo ≤ v) && decide (v ≤ hi))) := by
  rw [den_call hW gW rfl (Nat.le_refl 3)]
  have e := integer_den (P := P) (k := k) (v := v) (h := h) hI gI
  simp only [bWithin, execs, exec, xSeq, xRet, ev, sAnd, sCall, evs, sOsCons, sOsNil, opd, Z.at, args, Opd.arg, startZ, List.map_cons, List.map_nil, List.length_cons, List.length_nil, List.cons_append, List.nil_append, List.getElem?_cons_zero, List.getElem?_cons_succ, Option.join_some, if_false, Bool.false_eq_true, sCmp2, Opd.get, cmpop, D.cmpo, iop, Option.map_some]
  rw [e]
  by_cases h1 : lo ≤ v
  · simp [h1, sCmp2, Opd.get, cmpop, D.cmpo, iop, Z.at]
  · simp [h1, sCmp2, Opd.get, cmpop, D.cmpo, iop, Z.at]
theorem tuple_den {k : Nat} {l : List D} {h : Option (List D)} (hT : P[iT]? = some ⟨3, 3, bTuple⟩) (gT : iT ≠ gIdx) :
    den P (k + 1) iT [(false, .tup l), (false, .int 2), (false, .int 2)] h = some (h, false, .bl (decide (l.length = 2))) := by
  rw [den_call hT gT rfl (Nat.le_refl 3)]
  by_cases h1 : l.length = 2
  · simp [bTuple, execs, exec, xSeq, xRet, xIte, ev, evs, evF, evO, evI, sVar, sOp1, sOp2, plainB, plainB2, plain1, sNeg, sNot, sAnd, sOr, sIte, sTup, sEfCons, sEfNil, sItem, ixop, sCall, sBlt, sOsCons, sOsNil, sCmp2, opd, Opd.get, Opd.arg, args, gets, Z.at, Z.freeze, startZ, isInsts, isInst, bltin, bltin1, bltin2, lenop, lstop, cmpop, D.cmpo, iop, binop, sIt1, itSeq, slotsOf, h1]
  · by_cases h2 : (2 : Int) ≤ (l.length : Int)
    · have h3 : ¬ (l.length : Int) ≤ 2 := by omega
      simp [bTuple, execs, exec, xSeq, xRet, xIte, ev, evs, evF, evO, evI, sVar, sOp1, sOp2, plainB, plainB2, plain1, sNeg, sNot, sAnd, sOr, sIte, sTup, sEfCons, sEfNil, sItem, ixop, sCall, sBlt, sOsCons, sOsNil, sCmp2, opd, Opd.get, Opd.arg, args, gets, Z.at, Z.freeze, startZ, isInsts, isInst, bltin, bltin1, bltin2, lenop, lstop, cmpop, D.cmpo, iop, binop, sIt1, itSeq, slotsOf, h1, h2, h3]
    · simp [bTuple, execs, exec, xSeq, xRet, xIte, ev, evs, evF, evO, evI, sVar, sOp1, sOp2, plainB, plainB2, plain1, sNeg, sNot, sAnd, sOr, sIte, sTup, sEfCons, sEfNil, sItem, ixop, sCall, sBlt, sOsCons, sOsNil, sCmp2, opd, Opd.get, Opd.arg, args, gets, Z.at, Z.freeze, startZ, isInsts, isInst, bltin, bltin1, bltin2, lenop, lstop, cmpop, D.cmpo, iop, binop, sIt1, itSeq, slotsOf, h1, h2]
theorem count_den {k : Nat} {v : Int} {h : Option (List D)} (hI : P[iI]? = some ⟨1, 1, bInteger⟩) (gI : iI ≠ gIdx) (hW : P[iW]? = some ⟨3, 3, bWithin iI⟩) (gW : iW ≠ gIdx) (hC : P[iC]? = some ⟨1, 1, bCount iW⟩) (gC : iC ≠ gIdx) :
    den P (k + 3) iC [(false, .int v)] h = some (h, false, .bl (decide (1 ≤ v) && decide (v ≤ 7))) := by
  rw [den_call hC gC rfl (Nat.le_refl 1)]
  have e := within_den (P := P) (k := k) (v := v) (lo := 1) (hi := 7) (h := h) hI gI hW gW
  simp only [bCount, execs, exec, xSeq, xRet, ev, sCall, evs, sOsCons, sOsNil, opd, Z.at, args, Opd.arg, startZ, List.map_cons, List.map_nil, List.length_cons, List.length_nil, List.cons_append, List.nil_append, List.getElem?_cons_zero, Option.join_some, if_false, Bool.false_eq_true, Option.map_some]
  rw [e]
/-- a line of a right web -/
theorem line_den {k n : Nat} {p : Nat × Nat} {h : Option (List D)} (hI : P[iI]? = some ⟨1, 1, bInteger⟩) (gI : iI ≠ gIdx) (hW : P[iW]? = some ⟨3, 3, bWithin iI⟩) (gW : iW ≠ gIdx) (hT : P[iT]? = some ⟨3, 3, bTuple⟩) (gT : iT ≠ gIdx)
    (hL : P[iL]? = some ⟨2, 3, bLine iT iW⟩) (gL : iL ≠ gIdx) (hp : lineOk n p = true) : den P (k + 3) iL [(false, .int n), (false, pairD p)] h = some (h, false, .bl true) := by
  simp only [lineOk, Bool.and_eq_true, decide_eq_true_eq] at hp
  rw [den_call hL gL rfl (by show 2 ≤ 3; omega)]
  have e1 := tuple_den (P := P) (k := k + 1) (l := [.int p.1, .int p.2]) (h := h) hT gT
  have w1 := within_den (P := P) (k := k) (v := p.1) (lo := 0) (hi := (n : Int) - 1) (h := h) hI gI hW gW
  have w2 := within_den (P := P) (k := k) (v := p.2) (lo := 0) (hi := (n : Int) - 1) (h := h) hI gI hW gW
  have b1 : (decide (0 ≤ (p.1 : Int)) && decide ((p.1 : Int) ≤ (n : Int) - 1)) = true := by
    simp only [Bool.and_eq_true, decide_eq_true_eq]; omega
  have b2 : (decide (0 ≤ (p.2 : Int)) && decide ((p.2 : Int) ≤ (n : Int) - 1)) = true := by
    simp only [Bool.and_eq_true, decide_eq_true_eq]; omega
  rw [b1] at w1
  rw [b2] at w2
  have hlt : decide ((p.1 : Int) < (p.2 : Int)) = true := by simp only [decide_eq_true_eq]; omega
  have e1 : den P (k + 2) iT [(false, .tup [.int p.1, .int p.2]), (false, .int 2), (false, .int 2)] h = some (h, false, .bl true) := e1
  have hlt2 : (p.1 : Int) < (p.2 : Int) := by omega
  simp [bLine, execs, exec, xSeq, xRet, xIte, ev, evs, evF, evO, evI, sVar, sOp1, sOp2, plainB, plainB2, plain1, sNeg, sNot, sAnd, sOr, sIte, sTup, sEfCons, sEfNil, sItem, ixop, sCall, sBlt, sOsCons, sOsNil, sCmp2, opd, Opd.get, Opd.arg, args, gets, Z.at, Z.freeze, startZ, isInsts, isInst, bltin, bltin1, bltin2, lenop, lstop, cmpop, D.cmpo, iop, binop, sIt1, itSeq, slotsOf, sComp, compLoop, bindT, Z.wipe, Z.put, bor, unbor, Z.back, keepF, pairD, lim, boolsD, atI, ixN, w1, w2, e1, hlt2]
/-- all of a list -/
theorem all_comp {F : Phi} {iL n : Nat} {h : Option (List D)} {lk : List Nat} {a0 a1 a2 a3 : Option (Ow × D)} (hn : a0 = some (.frz, .int n)) : ∀ (r : List (Nat × Nat)) (x : Option (Ow × D)) (acc : List D), acc.length + r.length < lim → (∀ p ∈ r, F iL [(false, .int n), (false, pairD p)] h = some (h, false, .bl true)) →
    ∃ x', compLoop (bindT (.nm 4)) (ev F (.bl true)) (ev F (.call iL (.cons (.var 0) (.cons (.var 4) .nil)))) [4] (r.map pairD) ⟨[a0, a1, a2, a3, x], h, lk⟩ acc = some (⟨[a0, a1, a2, a3, x'], h, lk⟩, acc ++ r.map fun _ => D.bl true)
  | [], x, acc, _, _ => ⟨x, by simp [compLoop]⟩
  | p :: r, x, acc, hl, hp => by
    subst hn
    rw [List.length_cons] at hl
    obtain ⟨x', hx⟩ := all_comp (F := F) (iL := iL) (n := n) (h := h) (lk := lk) (a1 := a1) (a2 := a2) (a3 := a3) rfl r (some (.frz, pairD p)) (acc ++ [D.bl true]) (by simp; omega) fun q hq => hp q (List.mem_cons_of_mem _ hq)
    refine ⟨x', ?_⟩
    have h1 := hp p List.mem_cons_self
    have hacc : acc.length < lim := by omega
    have hx2 : compLoop (bindT (.nm 4)) (ev F (.bl true)) (ev F (.call iL (.cons (.var 0) (.cons (.var 4) .nil)))) [4] (r.map pairD) ⟨[some (.frz, .int n), a1, a2, a3, some (.frz, pairD p)], h, lk⟩ (acc ++ [D.bl true]) = some (⟨[some (.frz, .int n), a1, a2, a3, x'], h, lk⟩, acc ++ (p :: r).map fun _ => D.bl true) := by
      rw [hx]
      simp
    simp only [List.map_cons, compLoop]
    simp [ev, evs, sCall, sOsCons, sOsNil, opd, Z.at, args, Opd.arg, bindT, Z.wipe, Z.put, h1, hacc]
    exact hx2
theorem bools_true (l : List Bool) : boolsD (l.map .bl) = some l := by
  induction l with
  | nil => rfl
  | cons a l ih => simp [boolsD, ih]
/-- the pairs of neighbours ascend -/
theorem asc_comp {F : Phi} {h : Option (List D)} {lk : List Nat} {a0 a1 a4 : Option (Ow × D)} : ∀ (r : List (Nat × Nat)) (x2 x3 : Option (Ow × D)) (acc : List D), acc.length + r.length < lim → ascP r = true →
    ∃ y2 y3, compLoop (bindT (.tp (.cons (.nm 2) (.cons (.nm 3) .nil)))) (ev F (.bl true)) (ev F (.cmp .lt (.var 2) (.var 3))) [2, 3] (zipL (r.map pairD) ((r.map pairD).drop 1)) ⟨[a0, a1, x2, x3, a4], h, lk⟩ acc = some (⟨[a0, a1, y2, y3, a4], h, lk⟩, acc ++ (r.drop 1).map fun _ => D.bl true)
  | [], x2, x3, acc, _, _ => ⟨x2, x3, by simp [compLoop, zipL]⟩
  | [p], x2, x3, acc, _, _ => ⟨x2, x3, by simp [compLoop, zipL]⟩
  | p :: q :: r, x2, x3, acc, hl, hp => by
    simp only [ascP, Bool.and_eq_true] at hp
    rw [List.length_cons] at hl
    obtain ⟨y2, y3, hx⟩ := asc_comp (F := F) (h := h) (lk := lk) (a0 := a0) (a1 := a1) (a4 := a4) (q :: r) (some (.frz, pairD p)) (some (.frz, pairD q)) (acc ++ [D.bl true]) (by simp at hl ⊢; omega) hp.2
    refine ⟨y2, y3, ?_⟩
    have hacc : acc.length < lim := by omega
    have hlt : cmpop .lt (pairD p) (pairD q) = some true := by
      have h1 := hp.1
      simp only [ltP, Bool.or_eq_true, Bool.and_eq_true, decide_eq_true_eq] at h1
      simp only [cmpop, pairD, D.cmpo, D.cmpos, D.okd, D.eqv, iop, nop]
      by_cases e : p.1 = q.1
      · have h2 : p.2 < q.2 := by omega
        have e2 : ¬ (p.2 : Int) = (q.2 : Int) := by omega
        simp [e, e2, h2]
      · have h2 : p.1 < q.1 := by omega
        have e2 : ¬ (p.1 : Int) = (q.1 : Int) := by omega
        by_cases e3 : (p.2 : Int) = (q.2 : Int) <;> simp [e2, e3, h2]
    have hx2 : compLoop (bindT (.tp (.cons (.nm 2) (.cons (.nm 3) .nil)))) (ev F (.bl true)) (ev F (.cmp .lt (.var 2) (.var 3))) [2, 3] (zipL ((q :: r).map pairD) (((q :: r).map pairD).drop 1)) ⟨[a0, a1, some (.frz, pairD p), some (.frz, pairD q), a4], h, lk⟩ (acc ++ [D.bl true]) = some (⟨[a0, a1, y2, y3, a4], h, lk⟩, acc ++ ((p :: q :: r).drop 1).map fun _ => D.bl true) := by
      rw [hx]
      simp
    have hz : zipL ((p :: q :: r).map pairD) (((p :: q :: r).map pairD).drop 1) = .tup [pairD p, pairD q] :: zipL ((q :: r).map pairD) (((q :: r).map pairD).drop 1) := by simp [zipL]
    rw [hz]
    simp only [compLoop]
    have hb : bindT (.tp (.cons (.nm 2) (.cons (.nm 3) .nil))) (.tup [pairD p, pairD q]) ((⟨[a0, a1, x2, x3, a4], h, lk⟩ : Z).wipe [2, 3]) = some ⟨[a0, a1, some (.frz, pairD p), some (.frz, pairD q), a4], h, lk⟩ := rfl
    have hc : ev F (.cmp .lt (.var 2) (.var 3)) ⟨[a0, a1, some (.frz, pairD p), some (.frz, pairD q), a4], h, lk⟩ = some (⟨[a0, a1, some (.frz, pairD p), some (.frz, pairD q), a4], h, lk⟩, false, .bl true) := by
      simp [ev, sOp2, opd, Z.at, Opd.get, plainB2, hlt]
    have ht : ev F (.bl true) ⟨[a0, a1, some (.frz, pairD p), some (.frz, pairD q), a4], h, lk⟩ = some (⟨[a0, a1, some (.frz, pairD p), some (.frz, pairD q), a4], h, lk⟩, false, .bl true) := rfl
    rw [hb]
    simp only
    rw [ht]
    simp only
    rw [hc]
    simp only
    rw [if_pos hacc]
    exact hx2
theorem all_true (l : List (Nat × Nat)) : bltin .all [.lst (l.map fun _ => D.bl true)] = some (false, .bl true) := by
  have : boolsD (l.map fun _ => D.bl true) = some (l.map fun _ => true) := by
    induction l with
    | nil => rfl
    | cons a l ih => simp [boolsD, ih]
  simp [bltin, bltin1, lstop, this]
/-- the lines of a right web -/
theorem lines_den {k n : Nat} {ls : List (Nat × Nat)} {h : Option (List D)} {iLs : Nat} (hI : P[iI]? = some ⟨1, 1, bInteger⟩) (gI : iI ≠ gIdx) (hW : P[iW]? = some ⟨3, 3, bWithin iI⟩) (gW : iW ≠ gIdx) (hT : P[iT]? = some ⟨3, 3, bTuple⟩) (gT : iT ≠ gIdx)
    (hL : P[iL]? = some ⟨2, 3, bLine iT iW⟩) (gL : iL ≠ gIdx) (hLs : P[iLs]? = some ⟨2, 5, bLines iL⟩) (gLs : iLs ≠ gIdx) (hw : webOk n ls = true) : den P (k + 4) iLs [(false, .int n), (false, .tup (ls.map pairD))] h = some (h, false, .bl true) := by
  have hlen := web_len hw
  have hlim : ls.length < lim := by unfold lim; omega
  have hok : ls.all (lineOk n) = true ∧ ascP ls = true := by
    unfold webOk at hw
    simp only [Bool.and_eq_true] at hw
    exact ⟨hw.1.2, hw.2⟩
  rw [den_call hLs gLs rfl (by show 2 ≤ 5; omega)]
  let z0 : Z := ⟨[some (.frz, .int n), some (.frz, .tup (ls.map pairD)), none, none, none], h, []⟩
  have hz : startZ ⟨2, 5, bLines iL⟩ [(false, .int n), (false, .tup (ls.map pairD))] h = z0 := rfl
  rw [hz]
  have c1 : ev (den P (k + 3)) (.comp (.call iL (.cons (.var 0) (.cons (.var 4) .nil))) (.nm 4) (.seq (.var 1)) (.bl true) [4]) z0 = some (z0, true, .lst (ls.map fun _ => D.bl true)) := by
    obtain ⟨x', hx⟩ := all_comp (F := den P (k + 3)) (iL := iL) (n := n) (h := h) (lk := [1]) (a1 := some (.frz, .tup (ls.map pairD))) (a2 := none) (a3 := none) rfl ls none [] (by simpa using hlim) fun p hp => line_den hI gI hW gW hT gT hL gL (List.all_eq_true.mp hok.1 p hp)
    have hit : evI (den P (k + 3)) (.seq (.var 1)) z0 = some (z0, ls.map pairD, [1]) := rfl
    show sComp _ _ _ _ _ _ = _
    unfold sComp
    rw [hit]
    simp only
    have hx2 : compLoop (bindT (.nm 4)) (ev (den P (k + 3)) (.bl true)) (ev (den P (k + 3)) (.call iL (.cons (.var 0) (.cons (.var 4) .nil)))) [4] (ls.map pairD) (bor [1] z0) [] = some (⟨[some (.frz, .int n), some (.frz, .tup (ls.map pairD)), none, none, x'], h, [1]⟩, ls.map fun _ => D.bl true) := hx
    rw [hx2]
    rfl
  have c2 : ev (den P (k + 3)) (.comp (.cmp .lt (.var 2) (.var 3)) (.tp (.cons (.nm 2) (.cons (.nm 3) .nil))) (.zip (.var 1) (.sl (.var 1) (some (.int 1)) none)) (.bl true) [2,3]) z0 = some (z0, true, .lst ((ls.drop 1).map fun _ => D.bl true)) := by
    obtain ⟨y2, y3, hx⟩ := asc_comp (F := den P (k + 3)) (h := h) (lk := [1]) (a0 := some (.frz, .int n)) (a1 := some (.frz, .tup (ls.map pairD))) (a4 := none) ls none none [] (by simpa using hlim) hok.2
    have hcut : BV.cut (ls.map pairD) (some 1) none = (ls.map pairD).drop 1 := by
      unfold BV.cut sIx
      simp
      cases ls with
      | nil => simp
      | cons a l =>
        simp
        rw [List.take_of_length_le (by simp)]
    have hit : evI (den P (k + 3)) (.zip (.var 1) (.sl (.var 1) (some (.int 1)) none)) z0 = some (z0, zipL (ls.map pairD) ((ls.map pairD).drop 1), [1]) := by
      rw [← hcut]
      rfl
    show sComp _ _ _ _ _ _ = _
    unfold sComp
    rw [hit]
    simp only
    have hx2 : compLoop (bindT (.tp (.cons (.nm 2) (.cons (.nm 3) .nil)))) (ev (den P (k + 3)) (.bl true)) (ev (den P (k + 3)) (.cmp .lt (.var 2) (.var 3))) [2, 3] (zipL (ls.map pairD) ((ls.map pairD).drop 1)) (bor [1] z0) [] = some (⟨[some (.frz, .int n), some (.frz, .tup (ls.map pairD)), y2, y3, none], h, [1]⟩, (ls.drop 1).map fun _ => D.bl true) := hx
    rw [hx2]
    rfl
  have a1 : ev (den P (k + 3)) (.blt .all (.cons (.comp (.call iL (.cons (.var 0) (.cons (.var 4) .nil))) (.nm 4) (.seq (.var 1)) (.bl true) [4]) .nil)) z0 = some (z0, false, .bl true) := by
    show sBlt .all (sOsCons (fun z => (ev (den P (k + 3)) (.comp (.call iL (.cons (.var 0) (.cons (.var 4) .nil))) (.nm 4) (.seq (.var 1)) (.bl true) [4]) z).map fun x => (x.1, Opd.val x.2.2)) sOsNil) z0 = _
    simp only [sBlt, sOsCons, sOsNil, c1, Option.map_some, gets, Opd.get, all_true]
  have a2 : ev (den P (k + 3)) (.blt .all (.cons (.comp (.cmp .lt (.var 2) (.var 3)) (.tp (.cons (.nm 2) (.cons (.nm 3) .nil))) (.zip (.var 1) (.sl (.var 1) (some (.int 1)) none)) (.bl true) [2,3]) .nil)) z0 = some (z0, false, .bl true) := by
    show sBlt .all (sOsCons (fun z => (ev (den P (k + 3)) (.comp (.cmp .lt (.var 2) (.var 3)) (.tp (.cons (.nm 2) (.cons (.nm 3) .nil))) (.zip (.var 1) (.sl (.var 1) (some (.int 1)) none)) (.bl true) [2,3]) z).map fun x => (x.1, Opd.val x.2.2)) sOsNil) z0 = _
    simp only [sBlt, sOsCons, sOsNil, c2, Option.map_some, gets, Opd.get, all_true]
  have t1 : ev (den P (k + 3)) (.or (.not (.isi (.var 1) [.tuple])) (.not (.blt .all (.cons (.comp (.call iL (.cons (.var 0) (.cons (.var 4) .nil))) (.nm 4) (.seq (.var 1)) (.bl true) [4]) .nil)))) z0 = some (z0, false, .bl false) := by
    have hi : ev (den P (k + 3)) (.not (.isi (.var 1) [.tuple])) z0 = some (z0, false, .bl false) := rfl
    have hn : ev (den P (k + 3)) (.not (.blt .all (.cons (.comp (.call iL (.cons (.var 0) (.cons (.var 4) .nil))) (.nm 4) (.seq (.var 1)) (.bl true) [4]) .nil))) z0 = some (z0, false, .bl false) := by
      show sNot (ev (den P (k + 3)) _) z0 = _
      unfold sNot
      rw [a1]
      rfl
    show sOr (ev (den P (k + 3)) _) (ev (den P (k + 3)) _) z0 = _
    unfold sOr
    rw [hi]
    simp only
    rw [hn]
  show (match xSeq (xIte (ev (den P (k + 3)) _) _ _) (execs (den P (k + 3)) _) z0 with
    | some (.rt h' o v) => some (h', o, v)
    | some (.nx z) => some (z.h, false, .non)
    | _ => none) = _
  unfold xSeq xIte
  rw [t1]
  have e2 : execs (den P (k + 3)) (.cons (.ret (.blt .all (.cons (.comp (.cmp .lt (.var 2) (.var 3)) (.tp (.cons (.nm 2) (.cons (.nm 3) .nil))) (.zip (.var 1) (.sl (.var 1) (some (.int 1)) none)) (.bl true) [2,3]) .nil))) .nil) z0 = some (.rt h false (.bl true)) := by
    simp only [execs, exec, xSeq, xRet]
    rw [a2]
  exact (congrArg (fun o => match o with
    | some (Out.rt h' o v) => some (h', o, v)
    | some (Out.nx z) => some (z.h, false, D.non)
    | _ => none) e2).trans rfl
/-- both tests of __init__ -/
theorem init_tests {iLs : Nat} (hI : P[iI]? = some ⟨1, 1, bInteger⟩) (gI : iI ≠ gIdx) (hW : P[iW]? = some ⟨3, 3, bWithin iI⟩) (gW : iW ≠ gIdx) (hT : P[iT]? = some ⟨3, 3, bTuple⟩) (gT : iT ≠ gIdx) (hC : P[iC]? = some ⟨1, 1, bCount iW⟩) (gC : iC ≠ gIdx)
    (hL : P[iL]? = some ⟨2, 3, bLine iT iW⟩) (gL : iL ≠ gIdx) (hLs : P[iLs]? = some ⟨2, 5, bLines iL⟩) (gLs : iLs ≠ gIdx) :
    (∀ n ls h, webOk n ls = true → ∃ o, ev (den P 7) (.not (.call iC (.cons (.var 1) .nil))) (z3 n ls h) = some (z3 n ls h, o, .bl false)) ∧
    ∀ n ls h, webOk n ls = true → ∃ o, ev (den P 7) (.not (.call iLs (.cons (.var 1) (.cons (.var 2) .nil)))) (z3 n ls h) = some (z3 n ls h, o, .bl false) := by
  constructor
  · intro n ls h hw
    refine ⟨false, ?_⟩
    have e := count_den (P := P) (k := 4) (v := n) (h := h) hI gI hW gW hC gC
    have hn : (decide (1 ≤ (n : Int)) && decide ((n : Int) ≤ 7)) = true := by
      unfold webOk at hw
      simp only [Bool.and_eq_true, decide_eq_true_eq] at hw ⊢
      omega
    rw [hn] at e
    simp only [ev, sNot, sCall, evs, sOsCons, sOsNil, opd, z3, Z.at, List.getElem?_cons_succ, List.getElem?_cons_zero, Option.join_some, args, Opd.arg]
    rw [e]
    rfl
  · intro n ls h hw
    refine ⟨false, ?_⟩
    have e := lines_den (P := P) (k := 3) (n := n) (ls := ls) (h := h) hI gI hW gW hT gT hL gL hLs gLs hw
    simp only [ev, sNot, sCall, evs, sOsCons, sOsNil, opd, z3, Z.at, List.getElem?_cons_succ, List.getElem?_cons_zero, Option.join_some, args, Opd.arg]
    rw [e]
    rfl
end
end BV

/-! How the trees are run: comprehensions, loops, whole. -/
namespace BV
open PySem (Str)
theorem wipe_twice {z : Z} {own : List Nat} : (z.wipe own).wipe own = z.wipe own := by
  have hg : ((z.wipe own).wipe own).g = (z.wipe own).g := by
    apply List.ext_getElem?
    intro j
    have e1 := @wipe_at (z.wipe own) own j
    have e2 := @wipe_at z own j
    have l1 : ((z.wipe own).wipe own).g.length = (z.wipe own).g.length := wipe_len
    unfold Z.at at e1 e2
    by_cases hj : j < (z.wipe own).g.length
    · rw [List.getElem?_eq_getElem (by rw [l1]; exact hj)] at e1 ⊢
      rw [List.getElem?_eq_getElem hj] at e1 e2 ⊢
      simp only [Option.join_some] at e1 e2
      rw [e1]
      by_cases q : j ∈ own
      · rw [if_pos q]
        rw [if_pos q] at e2
        rw [e2]
      · rw [if_neg q]
    · rw [List.getElem?_eq_none (by omega), List.getElem?_eq_none (by omega)]
  have hh : ((z.wipe own).wipe own).h = (z.wipe own).h := wipe_h
  have hl : ((z.wipe own).wipe own).lk = (z.wipe own).lk := wipe_lk
  generalize (z.wipe own).wipe own = a at *
  generalize z.wipe own = b at *
  cases a
  cases b
  simp only at hg hh hl
  subst hg hh hl
  rfl
theorem compLoop_pure {b : D → Z → Option Z} {cd el : EvT} {own : List Nat} {c : D → Bool} {f : D → D} {zw : Z} : ∀ (items : List D) (z : Z) (acc : List D), z.wipe own = zw → acc.length + items.length < lim →
    (∀ x ∈ items, ∃ zb zc o, b x zw = some zb ∧ cd zb = some (zc, o, .bl (c x)) ∧ zc.wipe own = zw ∧ (c x = true → ∃ zd o', el zc = some (zd, o', f x) ∧ zd.wipe own = zw)) →
    ∃ z', compLoop b cd el own items z acc = some (z', acc ++ (items.filter c).map f) ∧ z'.wipe own = zw
  | [], z, acc, hz, _, _ => ⟨z, by simp [compLoop], hz⟩
  | x :: r, z, acc, hz, hl, hs => by
    rw [List.length_cons] at hl
    obtain ⟨zb, zc, o, h1, h2, h3, h4⟩ := hs x List.mem_cons_self
    cases hc : c x with
    | false =>
      obtain ⟨z', e, hz'⟩ := compLoop_pure (b := b) (cd := cd) (el := el) (c := c) (f := f) r zc acc h3 (by omega) fun y hy => hs y (List.mem_cons_of_mem _ hy)
      refine ⟨z', ?_, hz'⟩
      unfold compLoop
      rw [hz, h1]
      simp only
      rw [h2, hc]
      simp only [List.filter_cons, hc, Bool.false_eq_true, if_false]
      exact e
    | true =>
      obtain ⟨zd, o', h5, h6⟩ := h4 hc
      obtain ⟨z', e, hz'⟩ := compLoop_pure (b := b) (cd := cd) (el := el) (c := c) (f := f) r zd (acc ++ [f x]) h6 (by simp; omega) fun y hy => hs y (List.mem_cons_of_mem _ hy)
      refine ⟨z', ?_, hz'⟩
      unfold compLoop
      rw [hz, h1]
      simp only
      rw [h2, hc]
      simp only
      rw [h5]
      simp only
      rw [if_pos (by omega), e]
      simp [List.filter_cons, hc]
theorem back_all {z : Z} {bs own : List Nat} (hown : ∀ i ∈ own, keepF (z.at i) = z.at i) : unbor z ((((bor bs z).wipe own)).back z own) = z := by
  have hg : ((((bor bs z).wipe own)).back z own).g = z.g := by
    apply List.ext_getElem?
    intro j
    have e1 := @back_at ((bor bs z).wipe own) z own j
    have l0 : ((bor bs z).wipe own).g.length = z.g.length := wipe_len
    have l1 : ((((bor bs z).wipe own)).back z own).g.length = z.g.length := by rw [back_len, l0]
    by_cases hj : j < z.g.length
    · rw [List.getElem?_eq_getElem (by omega), List.getElem?_eq_getElem hj]
      have a1 : ((((bor bs z).wipe own)).back z own).at j = ((((bor bs z).wipe own)).back z own).g[j]'(by omega) := by
        unfold Z.at
        rw [List.getElem?_eq_getElem (by omega)]
        rfl
      have a2 : z.at j = z.g[j] := by
        unfold Z.at
        rw [List.getElem?_eq_getElem hj]
        rfl
      rw [← a1, ← a2, e1]
      by_cases q : j ∈ own
      · rw [if_pos ⟨q, by omega⟩, hown j q]
      · rw [if_neg fun h => q h.1, wipe_at, if_neg q]
        rfl
    · rw [List.getElem?_eq_none (by omega), List.getElem?_eq_none (by omega)]
  have hh : ((((bor bs z).wipe own)).back z own).h = z.h := by rw [back_h, wipe_h]; rfl
  unfold unbor
  generalize ((bor bs z).wipe own).back z own = a at *
  cases a
  cases z
  simp only at hg hh
  subst hg hh
  rfl
/-- a comprehension that leaves the state as it is -/
theorem ev_comp {F : Phi} {elt cd : E} {g : TG} {it : It} {own : List Nat} {z : Z} {items : List D} {bs : List Nat} (c : D → Bool) (f : D → D) (hit : evI F it z = some (z, items, bs)) (hlen : items.length < lim) (hown : ∀ i ∈ own, keepF (z.at i) = z.at i)
    (hs : ∀ x ∈ items, ∃ zb zc o, bindT g x ((bor bs z).wipe own) = some zb ∧ ev F cd zb = some (zc, o, .bl (c x)) ∧ zc.wipe own = (bor bs z).wipe own ∧ (c x = true → ∃ zd o', ev F elt zc = some (zd, o', f x) ∧ zd.wipe own = (bor bs z).wipe own)) :
    ev F (.comp elt g it cd own) z = some (z, true, .lst ((items.filter c).map f)) := by
  obtain ⟨z', e, hz⟩ := compLoop_pure (b := bindT g) (cd := ev F cd) (el := ev F elt) (own := own) (c := c) (f := f) items (bor bs z) [] rfl (by simpa using hlen) hs
  show sComp _ _ _ _ _ _ = _
  unfold sComp
  rw [hit]
  simp only
  rw [e]
  simp only [List.nil_append]
  rw [hz, back_all hown]
end BV

/-! Rules for runs of the trees: calls, comprehensions, loops; the forms one by one. -/
namespace BV
open PySem (Str)
theorem den_rt {P : List Def} {m f : Nat} {d : Def} {ds : List (Bool × D)} {h h' : Option (List D)} {o : Bool} {v : D} (z0 : Z) (hf : P[f]? = some d) (hg : f ≠ gIdx) (hm : 1 ≤ m) (h1 : ds.length = d.ps) (h2 : d.ps ≤ d.n)
    (hz : startZ d ds h = z0) (he : execs (den P (m - 1)) d.body z0 = some (.rt h' o v)) : den P m f ds h = some (h', o, v) := by
  obtain ⟨k, rfl⟩ : ∃ k, m = k + 1 := ⟨m - 1, by omega⟩
  rw [den_call hf hg h1 h2, hz]
  simp only [Nat.add_sub_cancel] at he
  rw [he]
theorem den_nx {P : List Def} {m f : Nat} {d : Def} {ds : List (Bool × D)} {h : Option (List D)} {z : Z} (z0 : Z) (hf : P[f]? = some d) (hg : f ≠ gIdx) (hm : 1 ≤ m) (h1 : ds.length = d.ps) (h2 : d.ps ≤ d.n)
    (hz : startZ d ds h = z0) (he : execs (den P (m - 1)) d.body z0 = some (.nx z)) : den P m f ds h = some (z.h, false, .non) := by
  obtain ⟨k, rfl⟩ : ∃ k, m = k + 1 := ⟨m - 1, by omega⟩
  rw [den_call hf hg h1 h2, hz]
  simp only [Nat.add_sub_cancel] at he
  rw [he]
/-- deep enough for a web -/
theorem den_guard {P : List Def} {m : Nat} (hm : 9 ≤ m) : den P m gIdx [] none = some (none, false, .non) := by
  obtain ⟨k, rfl⟩ : ∃ k, m = k + 1 := ⟨m - 1, by omega⟩
  unfold den
  rw [if_pos rfl, if_pos (by omega)]
/-- a comprehension over a mapped list, the state unchanged -/
theorem ev_compM {α : Type} {F : Phi} {elt cd : E} {g : TG} {it : It} {own : List Nat} {z : Z} {bs : List Nat} (l : List α) (q : α → D) (c : α → Bool) (f : α → D) (hit : evI F it z = some (z, l.map q, bs)) (hlen : l.length < lim) (hown : ∀ i ∈ own, keepF (z.at i) = z.at i)
    (hs : ∀ x ∈ l, ∃ zb zc o, bindT g (q x) ((bor bs z).wipe own) = some zb ∧ ev F cd zb = some (zc, o, .bl (c x)) ∧ zc.wipe own = (bor bs z).wipe own ∧ (c x = true → ∃ zd o', ev F elt zc = some (zd, o', f x) ∧ zd.wipe own = (bor bs z).wipe own)) :
    ev F (.comp elt g it cd own) z = some (z, true, .lst ((l.filter c).map f)) := by
  have key : ∀ (l : List α) (z1 : Z) (acc : List D), z1.wipe own = (bor bs z).wipe own → acc.length + l.length < lim →
    (∀ x ∈ l, ∃ zb zc o, bindT g (q x) ((bor bs z).wipe own) = some zb ∧ ev F cd zb = some (zc, o, .bl (c x)) ∧ zc.wipe own = (bor bs z).wipe own ∧ (c x = true → ∃ zd o', ev F elt zc = some (zd, o', f x) ∧ zd.wipe own = (bor bs z).wipe own)) →
    ∃ z', compLoop (bindT g) (ev F cd) (ev F elt) own (l.map q) z1 acc = some (z', acc ++ (l.filter c).map f) ∧ z'.wipe own = (bor bs z).wipe own := by
    intro l
    induction l with
    | nil => exact fun z1 acc hz _ _ => ⟨z1, by simp [compLoop], hz⟩
    | cons x r ih =>
      intro z1 acc hz hl hs
      rw [List.length_cons] at hl
      obtain ⟨zb, zc, o, h1, h2, h3, h4⟩ := hs x List.mem_cons_self
      cases hc : c x with
      | false =>
        obtain ⟨z', e, hz'⟩ := ih zc acc h3 (by omega) fun y hy => hs y (List.mem_cons_of_mem _ hy)
        refine ⟨z', ?_, hz'⟩
        rw [List.map_cons]
        unfold compLoop
        rw [hz, h1]
        simp only
        rw [h2, hc]
        simp only [List.filter_cons, hc, Bool.false_eq_true, if_false]
        exact e
      | true =>
        obtain ⟨zd, o', h5, h6⟩ := h4 hc
        obtain ⟨z', e, hz'⟩ := ih zd (acc ++ [f x]) h6 (by simp; omega) fun y hy => hs y (List.mem_cons_of_mem _ hy)
        refine ⟨z', ?_, hz'⟩
        rw [List.map_cons]
        unfold compLoop
        rw [hz, h1]
        simp only
        rw [h2, hc]
        simp only
        rw [h5]
        simp only
        rw [if_pos (by omega), e]
        simp [List.filter_cons, hc]
  obtain ⟨z', e, hz⟩ := key l (bor bs z) [] rfl (by simpa using hlen) hs
  show sComp _ _ _ _ _ _ = _
  unfold sComp
  rw [hit]
  simp only
  rw [e]
  simp only [List.nil_append]
  rw [hz, back_all hown]
/-- a comprehension with an invariant -/
theorem compLoop_inv {b : D → Z → Option Z} {cd el : EvT} {own : List Nat} (Inv : List D → Z → List D → Prop)
    (hs : ∀ x r z acc, Inv (x :: r) z acc → acc.length < lim ∧ ∃ zb zc o, b x (z.wipe own) = some zb ∧ ((cd zb = some (zc, o, .bl false) ∧ Inv r zc acc) ∨ (cd zb = some (zc, o, .bl true) ∧ ∃ zd o' d, el zc = some (zd, o', d) ∧ Inv r zd (acc ++ [d])))) :
    ∀ (items : List D) (z : Z) (acc : List D), Inv items z acc → ∃ z' ds, compLoop b cd el own items z acc = some (z', ds) ∧ Inv [] z' ds
  | [], z, acc, hi => ⟨z, acc, by simp [compLoop], hi⟩
  | x :: r, z, acc, hi => by
    obtain ⟨hl, zb, zc, o, h1, h2⟩ := hs x r z acc hi
    unfold compLoop
    rw [h1]
    rcases h2 with ⟨h2, h3⟩ | ⟨h2, zd, o', d, h3, h4⟩
    · simp only
      rw [h2]
      exact compLoop_inv Inv hs r zc acc h3
    · simp only
      rw [h2]
      simp only
      rw [h3]
      simp only
      rw [if_pos hl]
      exact compLoop_inv Inv hs r zd _ h4
theorem ev_compInv {F : Phi} {elt cd : E} {g : TG} {it : It} {own : List Nat} {z z1 : Z} {items : List D} {bs : List Nat} (Inv : List D → Z → List D → Prop) (hit : evI F it z = some (z1, items, bs)) (h0 : Inv items (bor bs z1) [])
    (hs : ∀ x r z acc, Inv (x :: r) z acc → acc.length < lim ∧ ∃ zb zc o, bindT g x (z.wipe own) = some zb ∧ ((ev F cd zb = some (zc, o, .bl false) ∧ Inv r zc acc) ∨ (ev F cd zb = some (zc, o, .bl true) ∧ ∃ zd o' d, ev F elt zc = some (zd, o', d) ∧ Inv r zd (acc ++ [d])))) :
    ∃ z' ds, ev F (.comp elt g it cd own) z = some (unbor z1 ((z'.wipe own).back z1 own), true, .lst ds) ∧ Inv [] z' ds := by
  obtain ⟨z', ds, e, hi⟩ := compLoop_inv Inv hs items (bor bs z1) [] h0
  refine ⟨z', ds, ?_, hi⟩
  show sComp _ _ _ _ _ _ = _
  unfold sComp
  rw [hit]
  simp only
  rw [e]
/-- a for loop with an invariant, never left -/
theorem for_inv {b : D → Z → Option Z} {body : ExT} (Inv : List D → Z → Prop) (hs : ∀ x r z, Inv (x :: r) z → ∃ z1 z2, b x z = some z1 ∧ body z1 = some (.nx z2) ∧ Inv r z2) :
    ∀ (items : List D) (z : Z), Inv items z → ∃ z', forLoop b body items z = some (.nx z') ∧ Inv [] z'
  | [], z, hi => ⟨z, by simp [forLoop], hi⟩
  | x :: r, z, hi => by
    obtain ⟨z1, z2, h1, h2, h3⟩ := hs x r z hi
    unfold forLoop
    rw [h1]
    simp only
    rw [h2]
    exact for_inv Inv hs r z2 h3
theorem ex_forInv {F : Phi} {g : TG} {it : It} {body : Ss} {z z1 : Z} {items : List D} {bs : List Nat} (Inv : List D → Z → Prop) (hit : evI F it z = some (z1, items, bs)) (h0 : Inv items (bor bs z1))
    (hs : ∀ x r z, Inv (x :: r) z → ∃ z1 z2, bindT g x z = some z1 ∧ execs F body z1 = some (.nx z2) ∧ Inv r z2) :
    ∃ z', exec F (.for g it body) z = some (.nx (unbor z1 z')) ∧ Inv [] z' := by
  obtain ⟨z', e, hi⟩ := for_inv Inv hs items (bor bs z1) h0
  refine ⟨z', ?_, hi⟩
  show xFor _ _ _ _ = _
  unfold xFor
  rw [hit]
  simp only
  rw [e]
  rfl
/-- a for loop over a mapped list, with an invariant by number -/
theorem ex_forN {α : Type} {F : Phi} {g : TG} {it : It} {body : Ss} {z z1 : Z} {bs : List Nat} (l : List α) (q : α → D) (Inv : Nat → Z → Prop) (hit : evI F it z = some (z1, l.map q, bs)) (h0 : Inv 0 (bor bs z1))
    (hs : ∀ i x z, l[i]? = some x → Inv i z → ∃ z1 z2, bindT g (q x) z = some z1 ∧ execs F body z1 = some (.nx z2) ∧ Inv (i + 1) z2) :
    ∃ z', exec F (.for g it body) z = some (.nx (unbor z1 z')) ∧ Inv l.length z' := by
  obtain ⟨z', e, i, hr, hi, hI⟩ := ex_forInv (F := F) (g := g) (it := it) (body := body) (z := z) (z1 := z1) (items := l.map q) (bs := bs)
    (fun r z => ∃ i, r = (l.drop i).map q ∧ i ≤ l.length ∧ Inv i z) hit ⟨0, rfl, Nat.zero_le _, h0⟩ (by
      rintro x r z ⟨i, hr, hi, hI⟩
      have hlt : i < l.length := by
        rcases Nat.lt_or_ge i l.length with h | h
        · exact h
        · rw [List.drop_eq_nil_of_le h] at hr
          simp at hr
      rw [List.drop_eq_getElem_cons hlt, List.map_cons] at hr
      injection hr with hx hr
      obtain ⟨z1, z2, h1, h2, h3⟩ := hs i l[i] z (List.getElem?_eq_getElem hlt) hI
      exact ⟨z1, z2, hx ▸ h1, h2, i + 1, hr, hlt, h3⟩)
  refine ⟨z', e, ?_⟩
  have hl : i = l.length := by
    rcases Nat.lt_or_ge i l.length with h | h
    · rw [List.drop_eq_getElem_cons h] at hr
      cases hr
    · omega
  exact hl ▸ hI
theorem rngL_nat (n : Nat) : rngL 0 n = (List.range n).map fun i => D.int (i : Nat) := by
  unfold rngL
  simp
theorem rngOk_nat {n : Nat} (h : n ≤ 1000) : rngOk 0 n = true := by
  unfold rngOk lim
  simp
  omega

/-! the forms one by one (comprehensions and loops stay whole) -/
section
variable {F : Phi}
theorem e_var {i : Nat} : ev F (.var i) = sVar i := rfl
theorem e_int {i : Int} {z : Z} : ev F (.int i) z = some (z, false, .int i) := rfl
theorem e_bl {b : Bool} {z : Z} : ev F (.bl b) z = some (z, false, .bl b) := rfl
theorem e_non {z : Z} : ev F .non z = some (z, false, .non) := rfl
theorem e_str {s : Str} {z : Z} : ev F (.str s) z = some (z, false, .str s) := rfl
theorem e_bin {o : Bop} {a b : E} : ev F (.bin o a b) = sOp2 (binop o) (opd a (ev F a)) (opd b (ev F b)) := rfl
theorem e_neg {a : E} : ev F (.neg a) = sNeg (ev F a) := rfl
theorem e_not {a : E} : ev F (.not a) = sNot (ev F a) := rfl
theorem e_cmp {o : Cop} {a b : E} : ev F (.cmp o a b) = sOp2 (plainB2 (cmpop o)) (opd a (ev F a)) (opd b (ev F b)) := rfl
theorem e_cmp2 {o p : Cop} {a b c : E} : ev F (.cmp2 o p a b c) = sCmp2 o p (opd a (ev F a)) (opd b (ev F b)) (opd c (ev F c)) := rfl
theorem e_and {a b : E} : ev F (.and a b) = sAnd (ev F a) (ev F b) := rfl
theorem e_or {a b : E} : ev F (.or a b) = sOr (ev F a) (ev F b) := rfl
theorem e_ite {c a b : E} : ev F (.ite c a b) = sIte (ev F c) (ev F a) (ev F b) := rfl
theorem e_tup {l : Es} : ev F (.tup l) = sTup (evF F l) := rfl
theorem e_lst {l : Es} : ev F (.lst l) = sLst (evF F l) := rfl
theorem e_dic0 {z : Z} : ev F .dic0 z = some (z, true, .dic []) := rfl
theorem e_ix {a i : E} : ev F (.ix a i) = sItem (opd a (ev F a)) (opd i (ev F i)) := rfl
theorem e_sl {a : E} {lo hi : Option E} : ev F (.sl a lo hi) = sSl (opd a (ev F a)) (evO F lo) (evO F hi) := rfl
theorem e_rev {a : E} : ev F (.rev a) = sOp1 revop (opd a (ev F a)) := rfl
theorem e_fld {a : E} {f : Fld} : ev F (.fld a f) = sOp1 (plain1 fun d => fldop d f) (opd a (ev F a)) := rfl
theorem e_there {a : E} : ev F (.there a) = sGuard F (sOp1 (plain1 thop) (opd a (ev F a))) := rfl
theorem e_call {f : Nat} {l : Es} : ev F (.call f l) = sCall F f (evs F l) := rfl
theorem e_web {a b : E} : ev F (.web a b) = sGuard F (sOp2 (plain2 webop) (opd a (ev F a)) (opd b (ev F b))) := rfl
theorem e_blt {b : Blt} {l : Es} : ev F (.blt b l) = sBlt b (evs F l) := rfl
theorem e_isi {a : E} {t : List Ty} : ev F (.isi a t) = sOp1 (plainB (isInsts t)) (opd a (ev F a)) := rfl
theorem e_mt {m : Mt} {i : Nat} {l : Es} : ev F (.mt m i l) = sMt m i (evF F l) := rfl
theorem e_md {m : Md} {a : E} {l : Es} : ev F (.md m a l) = sMd m (opd a (ev F a)) (evs F l) := rfl
theorem e_listIt {it : It} : ev F (.listIt it) = sListIt (evI F it) := rfl
theorem e_tupIt {it : It} : ev F (.tupIt it) = sTupIt (evI F it) := rfl
theorem e_val {a : E} : ev F (.val a) = ev F a := rfl
theorem o_nil : evs F .nil = sOsNil := rfl
theorem o_cons {e : E} {r : Es} : evs F (.cons e r) = sOsCons (opd e (ev F e)) (evs F r) := rfl
theorem ef_nil : evF F .nil = sEfNil := rfl
theorem ef_cons {e : E} {r : Es} : evF F (.cons e r) = sEfCons (ev F e) (evF F r) := rfl
theorem eo_none : evO F none = sEoNone := rfl
theorem eo_some {e : E} : evO F (some e) = sEoSome (ev F e) := rfl
theorem ei_seq {a : E} : evI F (.seq a) = sIt1 itSeq (opd a (ev F a)) := rfl
theorem ei_rng1 {a : E} : evI F (.rng1 a) = sRng1 (ev F a) := rfl
theorem ei_rng2 {a b : E} : evI F (.rng2 a b) = sRng2 (ev F a) (ev F b) := rfl
theorem ei_zip {a b : E} : evI F (.zip a b) = sIt2 itZip (opd a (ev F a)) (opd b (ev F b)) := rfl
theorem ei_enum {a : E} : evI F (.enum a) = sIt1 itEnum (opd a (ev F a)) := rfl
theorem r_nil {z : Z} : evR F .nil z = some (z, []) := rfl
theorem r_cons {e : E} {r : Es} {z : Z} : evR F (.cons e r) z = match ev F e z with
    | some (z1, o, d) => match evR F r z1 with
      | some (z2, ds) => some (z2, (o, d) :: ds)
      | none => none
    | none => none := rfl
theorem x_nil {z : Z} : execs F .nil z = some (.nx z) := rfl
theorem x_cons {s : S} {r : Ss} : execs F (.cons s r) = xSeq (exec F s) (execs F r) := rfl
theorem x_set {i : Nat} {m : Bool} {e : E} : exec F (.set i m e) = xSet i m (ev F e) := rfl
theorem x_setH {i : Nat} {e : E} : exec F (.setH i e) = xSetH i (ev F e) := rfl
theorem x_par {l : List (Nat × Bool)} {es : Es} : exec F (.par l es) = xPar l (evR F es) := rfl
theorem x_unp {g : TG} {e : E} : exec F (.unp g e) = xUnp (bindT g) (ev F e) := rfl
theorem x_setIx {i : Nat} {ix e : E} : exec F (.setIx i ix e) = xSetIx i (ev F ix) (ev F e) := rfl
theorem x_ex {e : E} : exec F (.ex e) = xEx (ev F e) := rfl
theorem x_ite {c : E} {a b : Ss} : exec F (.ite c a b) = xIte (ev F c) (execs F a) (execs F b) := rfl
theorem x_ret {e : E} : exec F (.ret e) = xRet e (ev F e) := rfl
theorem x_pass {z : Z} : exec F .pass z = some (.nx z) := rfl
theorem x_brk {z : Z} : exec F .brk z = some (.bk z) := rfl
theorem x_cont {z : Z} : exec F .cont z = some (.ct z) := rfl
end
end BV

/-! The functions of webs, what they answer. -/
namespace BV
open PySem (Str)
def adj (ls : List (Nat × Nat)) (a b : Nat) : Bool := decide ((min a b, max a b) ∈ ls)
def nearL (n : Nat) (ls : List (Nat × Nat)) (a : Nat) : List Nat := (List.range n).filter (adj ls a)
def intL (l : List Nat) : List D := l.map fun i => .int (i : Nat)
def bNumber (iI : Nat) : Ss := (.cons (.ret (.and (.call iI (.cons (.var 0) .nil)) (.cmp .ge (.var 0) (.int 0)))) .nil)
def bHas : Ss := (.cons (.ret (.cmp .isin (.tup (.cons (.blt .min (.cons (.var 1) (.cons (.var 2) .nil))) (.cons (.blt .max (.cons (.var 1) (.cons (.var 2) .nil))) .nil))) (.there (.var 0)))) .nil)
def bNear (iH : Nat) : Ss := (.cons (.ret (.comp (.var 2) (.nm 2) (.rng1 (.fld (.var 0) .corners)) (.call iH (.cons (.var 0) (.cons (.var 1) (.cons (.var 2) .nil)))) [2])) .nil)
def bIsCorner (iW : Nat) : Ss := (.cons (.ret (.call iW (.cons (.var 1) (.cons (.int 0) (.cons (.bin .sub (.fld (.var 0) .corners) (.int 1)) .nil))))) .nil)
def bChkCorner (iC : Nat) : Ss := (.cons (.ite (.not (.call iC (.cons (.var 0) (.cons (.var 1) .nil)))) (.cons .raise .nil) .nil) .nil)
def bChkNumber (iN : Nat) : Ss := (.cons (.ite (.or (.not (.call iN (.cons (.var 0) .nil))) (.not (.cmp2 .le .le (.var 1) (.var 0) (.var 2)))) (.cons .raise .nil) .nil) .nil)
def bNearT (iK iN : Nat) : Ss := (.cons (.ex (.call iK (.cons (.var 0) (.cons (.var 1) .nil)))) (.cons (.ret (.blt .tuple (.cons (.call iN (.cons (.var 0) (.cons (.var 1) .nil))) .nil))) .nil))
def bDegs (iN : Nat) : Ss := (.cons (.ret (.comp (.blt .len (.cons (.call iN (.cons (.var 0) (.cons (.var 1) .nil))) .nil)) (.nm 1) (.rng1 (.fld (.var 0) .corners)) (.bl true) [1])) .nil)
def bTupOf (i : Nat) : Ss := (.cons (.ret (.blt .tuple (.cons (.call i (.cons (.var 0) .nil)) .nil))) .nil)
section
variable {P : List Def}
/-! what is said of each -/
def SInteger (P : List Def) (i : Nat) : Prop := ∀ m h v, 1 ≤ m → den P m i [(false, .int v)] h = some (h, false, .bl true)
def SWithin (P : List Def) (i : Nat) : Prop := ∀ m h v lo hi, 2 ≤ m → den P m i [(false, .int v), (false, .int lo), (false, .int hi)] h = some (h, false, .bl (decide (lo ≤ v) && decide (v ≤ hi)))
def SNumber (P : List Def) (i : Nat) : Prop := ∀ m h v, 2 ≤ m → den P m i [(false, .int v)] h = some (h, false, .bl (decide (0 ≤ v)))
def SHas (P : List Def) (i : Nat) : Prop := ∀ m h n ls (a b : Nat), 12 ≤ m → den P m i [(false, .web n ls), (false, .int a), (false, .int b)] h = some (h, false, .bl (adj ls a b))
def SNear (P : List Def) (i : Nat) : Prop := ∀ m h n ls (a : Nat), 13 ≤ m → n ≤ 7 → den P m i [(false, .web n ls), (false, .int a)] h = some (h, true, .lst (intL (nearL n ls a)))
def SIsCorner (P : List Def) (i : Nat) : Prop := ∀ m h n ls v, 3 ≤ m → den P m i [(false, .web n ls), (false, .int v)] h = some (h, false, .bl (decide (0 ≤ v) && decide (v ≤ (n : Int) - 1)))
def SChkCorner (P : List Def) (i : Nat) : Prop := ∀ m h n ls (a : Nat), 4 ≤ m → a < n → den P m i [(false, .web n ls), (false, .int a)] h = some (h, false, .non)
def SChkNumber (P : List Def) (i : Nat) : Prop := ∀ m h v lo hi, 3 ≤ m → 0 ≤ v → lo ≤ v → v ≤ hi → den P m i [(false, .int v), (false, .int lo), (false, .int hi)] h = some (h, false, .non)
def SNearT (P : List Def) (i : Nat) : Prop := ∀ m h n ls (a : Nat), 14 ≤ m → n ≤ 7 → a < n → den P m i [(false, .web n ls), (false, .int a)] h = some (h, false, .tup (intL (nearL n ls a)))
def SDegs (P : List Def) (i : Nat) : Prop := ∀ m h n ls, 14 ≤ m → n ≤ 7 → den P m i [(false, .web n ls)] h = some (h, true, .lst (intL ((List.range n).map fun a => (nearL n ls a).length)))
def SDegsT (P : List Def) (i : Nat) : Prop := ∀ m h n ls, 15 ≤ m → n ≤ 7 → den P m i [(false, .web n ls)] h = some (h, false, .tup (intL ((List.range n).map fun a => (nearL n ls a).length)))
theorem retE_of {F : Phi} {e : E} {z z1 : Z} {o : Bool} {d : D} (hv : ∀ i, e ≠ .var i) (h : ev F e z = some (z1, o, d)) : execs F (.cons (.ret e) .nil) z = some (.rt z1.h o d) := by
  have e1 : xRet e (ev F e) z = some (.rt z1.h o d) := by
    unfold xRet
    cases e with
    | var i => exact absurd rfl (hv i)
    | _ => simp only [h]
  rw [x_cons, x_ret]
  unfold xSeq
  rw [e1]
theorem lim_gt {n : Nat} (h : n ≤ 1000) : n < lim := Nat.lt_of_le_of_lt h (by unfold lim; omega)
theorem lim2 : 2 ≤ lim := by unfold lim; omega
theorem filter_all {α : Type} (l : List α) : l.filter (fun _ => true) = l := List.filter_eq_self.mpr fun _ _ => rfl
theorem s_integer {i : Nat} (hf : P[i]? = some ⟨1, 1, bInteger⟩) (hg : i ≠ gIdx) : SInteger P i := by
  intro m h v hm
  obtain ⟨k, rfl⟩ : ∃ k, m = k + 1 := ⟨m - 1, by omega⟩
  exact integer_den hf hg
theorem s_within {i iI : Nat} (hf : P[i]? = some ⟨3, 3, bWithin iI⟩) (hg : i ≠ gIdx) (sI : SInteger P iI) : SWithin P i := by
  intro m h v lo hi hm
  refine den_rt ⟨[some (.frz, .int v), some (.frz, .int lo), some (.frz, .int hi)], h, []⟩ hf hg (by omega) rfl (by show 3 ≤ 3; omega) rfl ?_
  by_cases h1 : lo ≤ v <;> simp [bWithin, e_var, e_int, e_bl, e_non, e_str, e_bin, e_neg, e_not, e_cmp, e_cmp2, e_and, e_or, e_ite, e_tup, e_lst, e_dic0, e_ix, e_sl, e_rev, e_fld, e_there, e_call, e_web, e_blt, e_isi, e_mt, e_md, e_listIt, e_tupIt, e_val, o_nil, o_cons, ef_nil, ef_cons, eo_none, eo_some, ei_seq, ei_rng1, ei_rng2, ei_zip, ei_enum, r_nil, r_cons, x_nil, x_cons, x_set, x_setH, x_par, x_unp, x_setIx, x_ex, x_ite, x_ret, x_pass, x_brk, x_cont, sVar, sOp1, sOp2, plainB, plain1, plainB2, plain2, sNeg, sNot, sCmp2, sAnd, sOr, sIte, sTup, sLst, sItem, sSl, sCall, sBlt, sMt, sMd, sListIt, sTupIt, sIt1, sIt2, itSeq, itEnum, itZip, sRng1, sRng2, sOsNil, sOsCons, sEfNil, sEfCons, sEoNone, sEoSome, setSlot, setAll, xSet, xSetH, xPar, xUnp, setItem, xSetIx, xEx, xIte, xRet, xSeq, opd, Opd.get, Opd.arg, args, gets, slotsOf, optI, Z.at, Z.put, Z.wipe, Z.back, Z.freeze, keepF, bor, unbor, bindT, bindT.bindTs, binop, isin, isNon, cmpop, iop, nop, D.cmpo, deq, D.eqv, isInst, isInsts, seqOf, lenop, lstop, intop, absop, bltin1, int2, bltin2, bltin, ixop, fldop, thop, stop, mtop, mtop0, mtop1, extop, popop, D.ok, D.okd, sI (m - 1) h v (by omega), h1]
theorem s_number {i iI : Nat} (hf : P[i]? = some ⟨1, 1, bNumber iI⟩) (hg : i ≠ gIdx) (sI : SInteger P iI) : SNumber P i := by
  intro m h v hm
  refine den_rt ⟨[some (.frz, .int v)], h, []⟩ hf hg (by omega) rfl (by show 1 ≤ 1; omega) rfl ?_
  simp [bNumber, e_var, e_int, e_bl, e_non, e_str, e_bin, e_neg, e_not, e_cmp, e_cmp2, e_and, e_or, e_ite, e_tup, e_lst, e_dic0, e_ix, e_sl, e_rev, e_fld, e_there, e_call, e_web, e_blt, e_isi, e_mt, e_md, e_listIt, e_tupIt, e_val, o_nil, o_cons, ef_nil, ef_cons, eo_none, eo_some, ei_seq, ei_rng1, ei_rng2, ei_zip, ei_enum, r_nil, r_cons, x_nil, x_cons, x_set, x_setH, x_par, x_unp, x_setIx, x_ex, x_ite, x_ret, x_pass, x_brk, x_cont, sVar, sOp1, sOp2, plainB, plain1, plainB2, plain2, sNeg, sNot, sCmp2, sAnd, sOr, sIte, sTup, sLst, sItem, sSl, sCall, sBlt, sMt, sMd, sListIt, sTupIt, sIt1, sIt2, itSeq, itEnum, itZip, sRng1, sRng2, sOsNil, sOsCons, sEfNil, sEfCons, sEoNone, sEoSome, setSlot, setAll, xSet, xSetH, xPar, xUnp, setItem, xSetIx, xEx, xIte, xRet, xSeq, opd, Opd.get, Opd.arg, args, gets, slotsOf, optI, Z.at, Z.put, Z.wipe, Z.back, Z.freeze, keepF, bor, unbor, bindT, bindT.bindTs, binop, isin, isNon, cmpop, iop, nop, D.cmpo, deq, D.eqv, isInst, isInsts, seqOf, lenop, lstop, intop, absop, bltin1, int2, bltin2, bltin, ixop, fldop, thop, stop, mtop, mtop0, mtop1, extop, popop, D.ok, D.okd, sI (m - 1) h v (by omega)]
theorem kinds_there (ls : List (Nat × Nat)) : kinds (ls.map fun p => (pairK p, D.bl true)) true = true := by
  induction ls with
  | nil => rfl
  | cons p r ih => simpa [kinds, pairK, isT] using ih
theorem valK_there (ls : List (Nat × Nat)) (p : Nat × Nat) : (valK (ls.map fun p => (pairK p, D.bl true)) (pairK p)).isSome = decide (p ∈ ls) := by
  induction ls with
  | nil => rfl
  | cons q r ih =>
    unfold valK at ih ⊢
    simp only [List.map_cons, List.find?_cons]
    have e : decide (pairK q = pairK p) = decide (q = p) := by
      obtain ⟨a, b⟩ := p
      obtain ⟨c, d⟩ := q
      simp only [pairK, Sum.inr.injEq, List.cons.injEq, Sum.inl.injEq, Int.ofNat_inj, and_true, Prod.mk.injEq]
    rw [e]
    by_cases hq : q = p
    · simp [hq]
    · have hq2 : ¬ p = q := fun h => hq h.symm
      simp [hq, hq2]
      simpa using ih
theorem isin_there (ls : List (Nat × Nat)) (a b : Nat) : isin (.tup [.int (min (a : Int) b), .int (max (a : Int) b)]) (thereD ls) = some (adj ls a b) := by
  have e1 : (min (a : Int) b) = ((min a b : Nat) : Int) := by omega
  have e2 : (max (a : Int) b) = ((max a b : Nat) : Int) := by omega
  have h := valK_there ls (min a b, max a b)
  unfold isin thereD
  rw [e1, e2]
  simp only [key, keys1, key1, Option.map_some, isT, kinds_there, if_true]
  unfold adj
  rw [← h]
  rfl
theorem s_has {i : Nat} (hf : P[i]? = some ⟨3, 3, bHas⟩) (hg : i ≠ gIdx) : SHas P i := by
  intro m h n ls a b hm
  refine den_rt ⟨[some (.frz, .web n ls), some (.frz, .int a), some (.frz, .int b)], h, []⟩ hf hg (by omega) rfl (by show 3 ≤ 3; omega) rfl ?_
  have e := isin_there ls a b
  unfold isin at e
  have g := den_guard (P := P) (m := m - 1) (by omega)
  simp [bHas, e_var, e_int, e_bl, e_non, e_str, e_bin, e_neg, e_not, e_cmp, e_cmp2, e_and, e_or, e_ite, e_tup, e_lst, e_dic0, e_ix, e_sl, e_rev, e_fld, e_there, e_call, e_web, e_blt, e_isi, e_mt, e_md, e_listIt, e_tupIt, e_val, o_nil, o_cons, ef_nil, ef_cons, eo_none, eo_some, ei_seq, ei_rng1, ei_rng2, ei_zip, ei_enum, r_nil, r_cons, x_nil, x_cons, x_set, x_setH, x_par, x_unp, x_setIx, x_ex, x_ite, x_ret, x_pass, x_brk, x_cont, sVar, sOp1, sOp2, plainB, plain1, plainB2, plain2, sNeg, sNot, sCmp2, sAnd, sOr, sIte, sTup, sLst, sItem, sSl, sCall, sBlt, sMt, sMd, sListIt, sTupIt, sIt1, sIt2, itSeq, itEnum, itZip, sRng1, sRng2, sOsNil, sOsCons, sEfNil, sEfCons, sEoNone, sEoSome, setSlot, setAll, xSet, xSetH, xPar, xUnp, setItem, xSetIx, xEx, xIte, xRet, xSeq, opd, Opd.get, Opd.arg, args, gets, slotsOf, optI, Z.at, Z.put, Z.wipe, Z.back, Z.freeze, keepF, bor, unbor, bindT, bindT.bindTs, binop, isin, isNon, cmpop, iop, nop, D.cmpo, deq, D.eqv, isInst, isInsts, seqOf, lenop, lstop, intop, absop, bltin1, int2, bltin2, bltin, ixop, fldop, thop, stop, mtop, mtop0, mtop1, extop, popop, D.ok, D.okd, sGuard, g, e, lim2]
theorem s_near {i iH : Nat} (hf : P[i]? = some ⟨2, 3, bNear iH⟩) (hg : i ≠ gIdx) (sH : SHas P iH) : SNear P i := by
  intro m h n ls a hm hn
  refine den_rt ⟨[some (.frz, .web n ls), some (.frz, .int a), none], h, []⟩ hf hg (by omega) rfl (by show 2 ≤ 3; omega) rfl ?_
  have c := ev_compM (F := den P (m - 1)) (elt := .var 2) (cd := .call iH (.cons (.var 0) (.cons (.var 1) (.cons (.var 2) .nil)))) (g := .nm 2) (it := .rng1 (.fld (.var 0) .corners)) (own := [2]) (z := ⟨[some (.frz, .web n ls), some (.frz, .int a), none], h, []⟩) (bs := [])
    (List.range n) (fun i => .int (i : Nat)) (adj ls a) (fun i => .int (i : Nat)) (by simp [e_var, e_int, e_bl, e_non, e_str, e_bin, e_neg, e_not, e_cmp, e_cmp2, e_and, e_or, e_ite, e_tup, e_lst, e_dic0, e_ix, e_sl, e_rev, e_fld, e_there, e_call, e_web, e_blt, e_isi, e_mt, e_md, e_listIt, e_tupIt, e_val, o_nil, o_cons, ef_nil, ef_cons, eo_none, eo_some, ei_seq, ei_rng1, ei_rng2, ei_zip, ei_enum, r_nil, r_cons, x_nil, x_cons, x_set, x_setH, x_par, x_unp, x_setIx, x_ex, x_ite, x_ret, x_pass, x_brk, x_cont, sVar, sOp1, sOp2, plainB, plain1, plainB2, plain2, sNeg, sNot, sCmp2, sAnd, sOr, sIte, sTup, sLst, sItem, sSl, sCall, sBlt, sMt, sMd, sListIt, sTupIt, sIt1, sIt2, itSeq, itEnum, itZip, sRng1, sRng2, sOsNil, sOsCons, sEfNil, sEfCons, sEoNone, sEoSome, setSlot, setAll, xSet, xSetH, xPar, xUnp, setItem, xSetIx, xEx, xIte, xRet, xSeq, opd, Opd.get, Opd.arg, args, gets, slotsOf, optI, Z.at, Z.put, Z.wipe, Z.back, Z.freeze, keepF, bor, unbor, bindT, bindT.bindTs, binop, isin, isNon, cmpop, iop, nop, D.cmpo, deq, D.eqv, isInst, isInsts, seqOf, lenop, lstop, intop, absop, bltin1, int2, bltin2, bltin, ixop, fldop, thop, stop, mtop, mtop0, mtop1, extop, popop, D.ok, D.okd, rngL_nat, rngOk_nat (show n ≤ 1000 by omega)]) (by rw [List.length_range]; exact lim_gt (by omega)) (by simp [keepF, Z.at]) (fun x hx => by
      have e := sH (m - 1) h n ls a x (by omega)
      simp [e_var, e_int, e_bl, e_non, e_str, e_bin, e_neg, e_not, e_cmp, e_cmp2, e_and, e_or, e_ite, e_tup, e_lst, e_dic0, e_ix, e_sl, e_rev, e_fld, e_there, e_call, e_web, e_blt, e_isi, e_mt, e_md, e_listIt, e_tupIt, e_val, o_nil, o_cons, ef_nil, ef_cons, eo_none, eo_some, ei_seq, ei_rng1, ei_rng2, ei_zip, ei_enum, r_nil, r_cons, x_nil, x_cons, x_set, x_setH, x_par, x_unp, x_setIx, x_ex, x_ite, x_ret, x_pass, x_brk, x_cont, sVar, sOp1, sOp2, plainB, plain1, plainB2, plain2, sNeg, sNot, sCmp2, sAnd, sOr, sIte, sTup, sLst, sItem, sSl, sCall, sBlt, sMt, sMd, sListIt, sTupIt, sIt1, sIt2, itSeq, itEnum, itZip, sRng1, sRng2, sOsNil, sOsCons, sEfNil, sEfCons, sEoNone, sEoSome, setSlot, setAll, xSet, xSetH, xPar, xUnp, setItem, xSetIx, xEx, xIte, xRet, xSeq, opd, Opd.get, Opd.arg, args, gets, slotsOf, optI, Z.at, Z.put, Z.wipe, Z.back, Z.freeze, keepF, bor, unbor, bindT, bindT.bindTs, binop, isin, isNon, cmpop, iop, nop, D.cmpo, deq, D.eqv, isInst, isInsts, seqOf, lenop, lstop, intop, absop, bltin1, int2, bltin2, bltin, ixop, fldop, thop, stop, mtop, mtop0, mtop1, extop, popop, D.ok, D.okd, e])
  exact retE_of (fun _ h => by cases h) c
theorem s_isCorner {i iW : Nat} (hf : P[i]? = some ⟨2, 2, bIsCorner iW⟩) (hg : i ≠ gIdx) (sW : SWithin P iW) : SIsCorner P i := by
  intro m h n ls v hm
  refine den_rt ⟨[some (.frz, .web n ls), some (.frz, .int v)], h, []⟩ hf hg (by omega) rfl (by show 2 ≤ 2; omega) rfl ?_
  simp [bIsCorner, e_var, e_int, e_bl, e_non, e_str, e_bin, e_neg, e_not, e_cmp, e_cmp2, e_and, e_or, e_ite, e_tup, e_lst, e_dic0, e_ix, e_sl, e_rev, e_fld, e_there, e_call, e_web, e_blt, e_isi, e_mt, e_md, e_listIt, e_tupIt, e_val, o_nil, o_cons, ef_nil, ef_cons, eo_none, eo_some, ei_seq, ei_rng1, ei_rng2, ei_zip, ei_enum, r_nil, r_cons, x_nil, x_cons, x_set, x_setH, x_par, x_unp, x_setIx, x_ex, x_ite, x_ret, x_pass, x_brk, x_cont, sVar, sOp1, sOp2, plainB, plain1, plainB2, plain2, sNeg, sNot, sCmp2, sAnd, sOr, sIte, sTup, sLst, sItem, sSl, sCall, sBlt, sMt, sMd, sListIt, sTupIt, sIt1, sIt2, itSeq, itEnum, itZip, sRng1, sRng2, sOsNil, sOsCons, sEfNil, sEfCons, sEoNone, sEoSome, setSlot, setAll, xSet, xSetH, xPar, xUnp, setItem, xSetIx, xEx, xIte, xRet, xSeq, opd, Opd.get, Opd.arg, args, gets, slotsOf, optI, Z.at, Z.put, Z.wipe, Z.back, Z.freeze, keepF, bor, unbor, bindT, bindT.bindTs, binop, isin, isNon, cmpop, iop, nop, D.cmpo, deq, D.eqv, isInst, isInsts, seqOf, lenop, lstop, intop, absop, bltin1, int2, bltin2, bltin, ixop, fldop, thop, stop, mtop, mtop0, mtop1, extop, popop, D.ok, D.okd, sW (m - 1) h v 0 ((n : Int) - 1) (by omega)]
theorem s_chkCorner {i iC : Nat} (hf : P[i]? = some ⟨2, 2, bChkCorner iC⟩) (hg : i ≠ gIdx) (sC : SIsCorner P iC) : SChkCorner P i := by
  intro m h n ls a hm ha
  have e := sC (m - 1) h n ls a (by omega)
  have hb : (decide (0 ≤ (a : Int)) && decide ((a : Int) ≤ (n : Int) - 1)) = true := by
    simp only [Bool.and_eq_true, decide_eq_true_eq]; omega
  rw [hb] at e
  refine den_nx (z := ⟨[some (.frz, .web n ls), some (.frz, .int a)], h, []⟩) ⟨[some (.frz, .web n ls), some (.frz, .int a)], h, []⟩ hf hg (by omega) rfl (by show 2 ≤ 2; omega) rfl ?_
  simp [bChkCorner, e_var, e_int, e_bl, e_non, e_str, e_bin, e_neg, e_not, e_cmp, e_cmp2, e_and, e_or, e_ite, e_tup, e_lst, e_dic0, e_ix, e_sl, e_rev, e_fld, e_there, e_call, e_web, e_blt, e_isi, e_mt, e_md, e_listIt, e_tupIt, e_val, o_nil, o_cons, ef_nil, ef_cons, eo_none, eo_some, ei_seq, ei_rng1, ei_rng2, ei_zip, ei_enum, r_nil, r_cons, x_nil, x_cons, x_set, x_setH, x_par, x_unp, x_setIx, x_ex, x_ite, x_ret, x_pass, x_brk, x_cont, sVar, sOp1, sOp2, plainB, plain1, plainB2, plain2, sNeg, sNot, sCmp2, sAnd, sOr, sIte, sTup, sLst, sItem, sSl, sCall, sBlt, sMt, sMd, sListIt, sTupIt, sIt1, sIt2, itSeq, itEnum, itZip, sRng1, sRng2, sOsNil, sOsCons, sEfNil, sEfCons, sEoNone, sEoSome, setSlot, setAll, xSet, xSetH, xPar, xUnp, setItem, xSetIx, xEx, xIte, xRet, xSeq, opd, Opd.get, Opd.arg, args, gets, slotsOf, optI, Z.at, Z.put, Z.wipe, Z.back, Z.freeze, keepF, bor, unbor, bindT, bindT.bindTs, binop, isin, isNon, cmpop, iop, nop, D.cmpo, deq, D.eqv, isInst, isInsts, seqOf, lenop, lstop, intop, absop, bltin1, int2, bltin2, bltin, ixop, fldop, thop, stop, mtop, mtop0, mtop1, extop, popop, D.ok, D.okd, e]
theorem s_chkNumber {i iN : Nat} (hf : P[i]? = some ⟨3, 3, bChkNumber iN⟩) (hg : i ≠ gIdx) (sN : SNumber P iN) : SChkNumber P i := by
  intro m h v lo hi hm h0 h1 h2
  have e := sN (m - 1) h v (by omega)
  refine den_nx (z := ⟨[some (.frz, .int v), some (.frz, .int lo), some (.frz, .int hi)], h, []⟩) ⟨[some (.frz, .int v), some (.frz, .int lo), some (.frz, .int hi)], h, []⟩ hf hg (by omega) rfl (by show 3 ≤ 3; omega) rfl ?_
  simp [bChkNumber, e_var, e_int, e_bl, e_non, e_str, e_bin, e_neg, e_not, e_cmp, e_cmp2, e_and, e_or, e_ite, e_tup, e_lst, e_dic0, e_ix, e_sl, e_rev, e_fld, e_there, e_call, e_web, e_blt, e_isi, e_mt, e_md, e_listIt, e_tupIt, e_val, o_nil, o_cons, ef_nil, ef_cons, eo_none, eo_some, ei_seq, ei_rng1, ei_rng2, ei_zip, ei_enum, r_nil, r_cons, x_nil, x_cons, x_set, x_setH, x_par, x_unp, x_setIx, x_ex, x_ite, x_ret, x_pass, x_brk, x_cont, sVar, sOp1, sOp2, plainB, plain1, plainB2, plain2, sNeg, sNot, sCmp2, sAnd, sOr, sIte, sTup, sLst, sItem, sSl, sCall, sBlt, sMt, sMd, sListIt, sTupIt, sIt1, sIt2, itSeq, itEnum, itZip, sRng1, sRng2, sOsNil, sOsCons, sEfNil, sEfCons, sEoNone, sEoSome, setSlot, setAll, xSet, xSetH, xPar, xUnp, setItem, xSetIx, xEx, xIte, xRet, xSeq, opd, Opd.get, Opd.arg, args, gets, slotsOf, optI, Z.at, Z.put, Z.wipe, Z.back, Z.freeze, keepF, bor, unbor, bindT, bindT.bindTs, binop, isin, isNon, cmpop, iop, nop, D.cmpo, deq, D.eqv, isInst, isInsts, seqOf, lenop, lstop, intop, absop, bltin1, int2, bltin2, bltin, ixop, fldop, thop, stop, mtop, mtop0, mtop1, extop, popop, D.ok, D.okd, e, h0, h1, h2]
theorem s_nearT {i iK iN : Nat} (hf : P[i]? = some ⟨2, 2, bNearT iK iN⟩) (hg : i ≠ gIdx) (sK : SChkCorner P iK) (sN : SNear P iN) : SNearT P i := by
  intro m h n ls a hm hn ha
  refine den_rt ⟨[some (.frz, .web n ls), some (.frz, .int a)], h, []⟩ hf hg (by omega) rfl (by show 2 ≤ 2; omega) rfl ?_
  simp [bNearT, e_var, e_int, e_bl, e_non, e_str, e_bin, e_neg, e_not, e_cmp, e_cmp2, e_and, e_or, e_ite, e_tup, e_lst, e_dic0, e_ix, e_sl, e_rev, e_fld, e_there, e_call, e_web, e_blt, e_isi, e_mt, e_md, e_listIt, e_tupIt, e_val, o_nil, o_cons, ef_nil, ef_cons, eo_none, eo_some, ei_seq, ei_rng1, ei_rng2, ei_zip, ei_enum, r_nil, r_cons, x_nil, x_cons, x_set, x_setH, x_par, x_unp, x_setIx, x_ex, x_ite, x_ret, x_pass, x_brk, x_cont, sVar, sOp1, sOp2, plainB, plain1, plainB2, plain2, sNeg, sNot, sCmp2, sAnd, sOr, sIte, sTup, sLst, sItem, sSl, sCall, sBlt, sMt, sMd, sListIt, sTupIt, sIt1, sIt2, itSeq, itEnum, itZip, sRng1, sRng2, sOsNil, sOsCons, sEfNil, sEfCons, sEoNone, sEoSome, setSlot, setAll, xSet, xSetH, xPar, xUnp, setItem, xSetIx, xEx, xIte, xRet, xSeq, opd, Opd.get, Opd.arg, args, gets, slotsOf, optI, Z.at, Z.put, Z.wipe, Z.back, Z.freeze, keepF, bor, unbor, bindT, bindT.bindTs, binop, isin, isNon, cmpop, iop, nop, D.cmpo, deq, D.eqv, isInst, isInsts, seqOf, lenop, lstop, intop, absop, bltin1, int2, bltin2, bltin, ixop, fldop, thop, stop, mtop, mtop0, mtop1, extop, popop, D.ok, D.okd, sK (m - 1) h n ls a (by omega) ha, sN (m - 1) h n ls a (by omega) hn]
theorem s_degs {i iN : Nat} (hf : P[i]? = some ⟨1, 2, bDegs iN⟩) (hg : i ≠ gIdx) (sN : SNear P iN) : SDegs P i := by
  intro m h n ls hm hn
  refine den_rt ⟨[some (.frz, .web n ls), none], h, []⟩ hf hg (by omega) rfl (by show 1 ≤ 2; omega) rfl ?_
  have c := ev_compM (F := den P (m - 1)) (elt := .blt .len (.cons (.call iN (.cons (.var 0) (.cons (.var 1) .nil))) .nil)) (cd := .bl true) (g := .nm 1) (it := .rng1 (.fld (.var 0) .corners)) (own := [1]) (z := ⟨[some (.frz, .web n ls), none], h, []⟩) (bs := [])
    (List.range n) (fun i => .int (i : Nat)) (fun _ => true) (fun a => .int ((nearL n ls a).length : Nat)) (by simp [e_var, e_int, e_bl, e_non, e_str, e_bin, e_neg, e_not, e_cmp, e_cmp2, e_and, e_or, e_ite, e_tup, e_lst, e_dic0, e_ix, e_sl, e_rev, e_fld, e_there, e_call, e_web, e_blt, e_isi, e_mt, e_md, e_listIt, e_tupIt, e_val, o_nil, o_cons, ef_nil, ef_cons, eo_none, eo_some, ei_seq, ei_rng1, ei_rng2, ei_zip, ei_enum, r_nil, r_cons, x_nil, x_cons, x_set, x_setH, x_par, x_unp, x_setIx, x_ex, x_ite, x_ret, x_pass, x_brk, x_cont, sVar, sOp1, sOp2, plainB, plain1, plainB2, plain2, sNeg, sNot, sCmp2, sAnd, sOr, sIte, sTup, sLst, sItem, sSl, sCall, sBlt, sMt, sMd, sListIt, sTupIt, sIt1, sIt2, itSeq, itEnum, itZip, sRng1, sRng2, sOsNil, sOsCons, sEfNil, sEfCons, sEoNone, sEoSome, setSlot, setAll, xSet, xSetH, xPar, xUnp, setItem, xSetIx, xEx, xIte, xRet, xSeq, opd, Opd.get, Opd.arg, args, gets, slotsOf, optI, Z.at, Z.put, Z.wipe, Z.back, Z.freeze, keepF, bor, unbor, bindT, bindT.bindTs, binop, isin, isNon, cmpop, iop, nop, D.cmpo, deq, D.eqv, isInst, isInsts, seqOf, lenop, lstop, intop, absop, bltin1, int2, bltin2, bltin, ixop, fldop, thop, stop, mtop, mtop0, mtop1, extop, popop, D.ok, D.okd, rngL_nat, rngOk_nat (show n ≤ 1000 by omega)]) (by rw [List.length_range]; exact lim_gt (by omega)) (by simp [keepF, Z.at]) (fun x hx => by
      have e := sN (m - 1) h n ls x (by omega) hn
      simp [e_var, e_int, e_bl, e_non, e_str, e_bin, e_neg, e_not, e_cmp, e_cmp2, e_and, e_or, e_ite, e_tup, e_lst, e_dic0, e_ix, e_sl, e_rev, e_fld, e_there, e_call, e_web, e_blt, e_isi, e_mt, e_md, e_listIt, e_tupIt, e_val, o_nil, o_cons, ef_nil, ef_cons, eo_none, eo_some, ei_seq, ei_rng1, ei_rng2, ei_zip, ei_enum, r_nil, r_cons, x_nil, x_cons, x_set, x_setH, x_par, x_unp, x_setIx, x_ex, x_ite, x_ret, x_pass, x_brk, x_cont, sVar, sOp1, sOp2, plainB, plain1, plainB2, plain2, sNeg, sNot, sCmp2, sAnd, sOr, sIte, sTup, sLst, sItem, sSl, sCall, sBlt, sMt, sMd, sListIt, sTupIt, sIt1, sIt2, itSeq, itEnum, itZip, sRng1, sRng2, sOsNil, sOsCons, sEfNil, sEfCons, sEoNone, sEoSome, setSlot, setAll, xSet, xSetH, xPar, xUnp, setItem, xSetIx, xEx, xIte, xRet, xSeq, opd, Opd.get, Opd.arg, args, gets, slotsOf, optI, Z.at, Z.put, Z.wipe, Z.back, Z.freeze, keepF, bor, unbor, bindT, bindT.bindTs, binop, isin, isNon, cmpop, iop, nop, D.cmpo, deq, D.eqv, isInst, isInsts, seqOf, lenop, lstop, intop, absop, bltin1, int2, bltin2, bltin, ixop, fldop, thop, stop, mtop, mtop0, mtop1, extop, popop, D.ok, D.okd, e, intL])
  rw [filter_all] at c
  rw [intL, List.map_map]
  exact retE_of (fun _ h => by cases h) c
theorem s_degsT {i iD : Nat} (hf : P[i]? = some ⟨1, 1, bTupOf iD⟩) (hg : i ≠ gIdx) (sD : SDegs P iD) : SDegsT P i := by
  intro m h n ls hm hn
  refine den_rt ⟨[some (.frz, .web n ls)], h, []⟩ hf hg (by omega) rfl (by show 1 ≤ 1; omega) rfl ?_
  simp [bTupOf, e_var, e_int, e_bl, e_non, e_str, e_bin, e_neg, e_not, e_cmp, e_cmp2, e_and, e_or, e_ite, e_tup, e_lst, e_dic0, e_ix, e_sl, e_rev, e_fld, e_there, e_call, e_web, e_blt, e_isi, e_mt, e_md, e_listIt, e_tupIt, e_val, o_nil, o_cons, ef_nil, ef_cons, eo_none, eo_some, ei_seq, ei_rng1, ei_rng2, ei_zip, ei_enum, r_nil, r_cons, x_nil, x_cons, x_set, x_setH, x_par, x_unp, x_setIx, x_ex, x_ite, x_ret, x_pass, x_brk, x_cont, sVar, sOp1, sOp2, plainB, plain1, plainB2, plain2, sNeg, sNot, sCmp2, sAnd, sOr, sIte, sTup, sLst, sItem, sSl, sCall, sBlt, sMt, sMd, sListIt, sTupIt, sIt1, sIt2, itSeq, itEnum, itZip, sRng1, sRng2, sOsNil, sOsCons, sEfNil, sEfCons, sEoNone, sEoSome, setSlot, setAll, xSet, xSetH, xPar, xUnp, setItem, xSetIx, xEx, xIte, xRet, xSeq, opd, Opd.get, Opd.arg, args, gets, slotsOf, optI, Z.at, Z.put, Z.wipe, Z.back, Z.freeze, keepF, bor, unbor, bindT, bindT.bindTs, binop, isin, isNon, cmpop, iop, nop, D.cmpo, deq, D.eqv, isInst, isInsts, seqOf, lenop, lstop, intop, absop, bltin1, int2, bltin2, bltin, ixop, fldop, thop, stop, mtop, mtop0, mtop1, extop, popop, D.ok, D.okd, sD (m - 1) h n ls (by omega) hn]
end
end BV

/-! The hand and its draws. -/
namespace BV
open PySem (Str)
structure Hand where
  cells : List Int
  i : Nat
  c : Int
  x : Int
  n : Int
def Hand.D (h : Hand) : List D := [.lst (h.cells.map .int), .int h.i, .int h.c, .int h.x, .int h.n]
/-- a draw answers a number below, whatever the hand -/
def SDraw (P : List Def) (i : Nat) : Prop := ∀ (h : Hand) (s : Int), 0 < s → s < 1073741824 → ∃ (h' : Hand) (v : Nat), (v : Int) < s ∧ ∀ m, 1 ≤ m → den P m i [(false, .hand), (false, .int s)] (some h.D) = some (some h'.D, false, .int v)
/-- one kind of draw: what is mixed of a cell, the numbers -/
structure DK where
  mix : E
  m0 : Int
  a : Int
  b : Int
  m1 : Int
  c : Int
  d : Int
  m2 : Int
  e : Int
  f : Int
  m3 : Int
def dIf (k : DK) : S := (.ite (.and (.cmp .eq (.ix (.var 0) (.int 2)) (.int 0)) (.cmp .lt (.ix (.var 0) (.int 1)) (.blt .len (.cons (.ix (.var 0) (.int 0)) .nil)))) (.cons (.set 3 false (.ix (.ix (.var 0) (.int 0)) (.ix (.var 0) (.int 1))))
  (.cons (.setIx 0 (.int 1) (.bin .add (.ix (.var 0) (.int 1)) (.int 1)))
  (.cons (.setIx 0 (.int 3) (.bin .mod (.blt .int (.cons k.mix .nil)) (.int k.m0)))
  (.cons (.ite (.cmp .ge (.var 3) (.bin .pow (.int 10) (.int 18))) (.cons (.setIx 0 (.int 2) (.var 3))
  .nil) .nil)
  .nil)))) .nil)
def dTail (k : DK) : Ss := (.cons (.ite (.cmp .gt (.ix (.var 0) (.int 2)) (.int 0)) (.cons (.set 4 false (.bin .mod (.blt .int (.cons (.ix (.var 0) (.int 2)) .nil)) (.var 1)))
  (.cons (.setIx 0 (.int 2) (.bin .fdiv (.ix (.var 0) (.int 2)) (.var 1)))
  (.cons (.ret (.var 4))
  .nil))) .nil)
  (.cons (.setIx 0 (.int 4) (.bin .add (.ix (.var 0) (.int 4)) (.int 1)))
  (.cons (.set 2 false (.bin .mod (.blt .int (.cons (.bin .mul (.blt .int (.cons (.bin .add (.ix (.var 0) (.int 3)) (.bin .mul (.int k.a) (.ix (.var 0) (.int 4)))) .nil)) (.int k.b)) .nil)) (.int k.m1)))
  (.cons (.set 2 false (.bin .mod (.blt .int (.cons (.bin .mul (.var 2) (.bin .add (.bin .fdiv (.var 2) (.int k.c)) (.int k.d))) .nil)) (.int k.m2)))
  (.cons (.set 2 false (.bin .mod (.blt .int (.cons (.bin .mul (.var 2) (.bin .add (.bin .fdiv (.var 2) (.int k.e)) (.int k.f))) .nil)) (.int k.m3)))
  (.cons (.ret (.bin .mod (.blt .int (.cons (.bin .fdiv (.var 2) (.int 16)) .nil)) (.var 1)))
  .nil))))))
def bDraw (k : DK) : Ss := .cons (dIf k) (dTail k)
def mixA (j : Int) : E := .bin .add (.bin .add (.bin .mul (.ix (.var 0) (.int 3)) (.int 69621)) (.var 3)) (.int j)
def mixB (i j : Int) : E := .bin .add (.bin .add (.bin .mul (.ix (.var 0) (.int 3)) (.int 69621)) (.bin .mul (.var 3) (.int i))) (.int j)
def dk (mix : E) : DK := ⟨mix, 2147483629, 7919, 48271, 2147483647, 1009, 69621, 2147483647, 2003, 40692, 2147483399⟩
/-- hand and sides in their slots, a cell perhaps -/
def zd (h : Hand) (s : Int) (u : Option (Ow × D)) : Z := ⟨[some (.frz, .hand), some (.frz, .int s), none, u, none], some h.D, []⟩
theorem atI_map (l : List Int) (i : Nat) (hi : i < l.length) : atI (l.map D.int) (i : Int) = some (.int l[i]) := by
  simp [atI, ixN, hi]
structure DK.Ok (k : DK) : Prop where
  m0 : 0 < k.m0
  b : small k.b = true
  a : small k.a = true
  m1 : 0 < k.m1 ∧ k.m1 ≤ 2 ^ 64
  c : 0 < k.c ∧ k.c < 1073741824
  m2 : 0 < k.m2 ∧ k.m2 ≤ 2 ^ 64
  e : 0 < k.e ∧ k.e < 1073741824
  m3 : 0 < k.m3
  nv : ∀ i, k.mix ≠ .var i
  mix : ∀ (h : Hand) (s c : Int), ∃ x : Int, ∀ F, ev F k.mix (zd h s (some (.frz, .int c))) = some (zd h s (some (.frz, .int c)), false, .int x)
theorem small_mod {x m : Int} (h : 0 < m ∧ m ≤ 2 ^ 64) : small (x % m) = true := by
  have h1 := Int.emod_nonneg x (show m ≠ 0 by omega)
  have h2 := Int.emod_lt_of_pos x h.1
  simp only [small, Bool.and_eq_true, decide_eq_true_eq]
  omega
theorem opd_of {e : E} (h : ∀ i, e ≠ .var i) (r : Z → Option (Z × Bool × D)) (z : Z) : opd e r z = (r z).map fun x => (x.1, .val x.2.2) := by
  cases e with
  | var i => exact absurd rfl (h i)
  | _ => rfl
theorem d_if {k : DK} (hk : k.Ok) (h : Hand) (s : Int) : ∃ (h1 : Hand) (u : Option (Ow × D)), ∀ F, exec F (dIf k) (zd h s none) = some (.nx (zd h1 s u)) := by
  by_cases q : h.c = 0 ∧ h.i < h.cells.length
  · obtain ⟨q1, q2⟩ := q
    obtain ⟨x, hx⟩ := hk.mix { h with i := h.i + 1 } s h.cells[h.i]
    have at1 := atI_map h.cells h.i q2
    have hop := opd_of hk.nv
    have m0 := hk.m0
    by_cases g : (1000000000000000000 : Int) ≤ h.cells[h.i]
    · refine ⟨⟨h.cells, h.i + 1, h.cells[h.i], x % k.m0, h.n⟩, some (.frz, .int h.cells[h.i]), fun F => ?_⟩
      have hx := hx F
      simp [zd, Hand.D, q1] at hx
      simp [dIf, zd, Hand.D, e_var, e_int, e_bl, e_non, e_str, e_bin, e_neg, e_not, e_cmp, e_cmp2, e_and, e_or, e_ite, e_tup, e_lst, e_dic0, e_ix, e_sl, e_rev, e_fld, e_there, e_call, e_web, e_blt, e_isi, e_mt, e_md, e_listIt, e_tupIt, e_val, o_nil, o_cons, ef_nil, ef_cons, eo_none, eo_some, ei_seq, ei_rng1, ei_rng2, ei_zip, ei_enum, r_nil, r_cons, x_nil, x_cons, x_set, x_setH, x_par, x_unp, x_setIx, x_ex, x_ite, x_ret, x_pass, x_brk, x_cont, sVar, sOp1, sOp2, plainB, plain1, plainB2, plain2, sNeg, sNot, sCmp2, sAnd, sOr, sIte, sTup, sLst, sItem, sSl, sCall, sBlt, sMt, sMd, sListIt, sTupIt, sIt1, sIt2, itSeq, itEnum, itZip, sRng1, sRng2, sOsNil, sOsCons, sEfNil, sEfCons, sEoNone, sEoSome, setSlot, setAll, xSet, xSetH, xPar, xUnp, setItem, xSetIx, xEx, xIte, xRet, xSeq, opd, Opd.get, Opd.arg, args, gets, slotsOf, optI, Z.at, Z.put, Z.wipe, Z.back, Z.freeze, keepF, bor, unbor, bindT, bindT.bindTs, binop, isin, isNon, cmpop, iop, nop, D.cmpo, deq, D.eqv, isInst, isInsts, seqOf, lenop, lstop, intop, absop, bltin1, int2, bltin2, bltin, ixop, fldop, thop, stop, mtop, mtop0, mtop1, extop, popop, D.ok, D.okd, q1, q2, atI, ixN, ↓hop, hx, m0, at1, g]
    · refine ⟨⟨h.cells, h.i + 1, h.c, x % k.m0, h.n⟩, some (.frz, .int h.cells[h.i]), fun F => ?_⟩
      have hx := hx F
      simp [zd, Hand.D, q1] at hx
      simp [dIf, zd, Hand.D, e_var, e_int, e_bl, e_non, e_str, e_bin, e_neg, e_not, e_cmp, e_cmp2, e_and, e_or, e_ite, e_tup, e_lst, e_dic0, e_ix, e_sl, e_rev, e_fld, e_there, e_call, e_web, e_blt, e_isi, e_mt, e_md, e_listIt, e_tupIt, e_val, o_nil, o_cons, ef_nil, ef_cons, eo_none, eo_some, ei_seq, ei_rng1, ei_rng2, ei_zip, ei_enum, r_nil, r_cons, x_nil, x_cons, x_set, x_setH, x_par, x_unp, x_setIx, x_ex, x_ite, x_ret, x_pass, x_brk, x_cont, sVar, sOp1, sOp2, plainB, plain1, plainB2, plain2, sNeg, sNot, sCmp2, sAnd, sOr, sIte, sTup, sLst, sItem, sSl, sCall, sBlt, sMt, sMd, sListIt, sTupIt, sIt1, sIt2, itSeq, itEnum, itZip, sRng1, sRng2, sOsNil, sOsCons, sEfNil, sEfCons, sEoNone, sEoSome, setSlot, setAll, xSet, xSetH, xPar, xUnp, setItem, xSetIx, xEx, xIte, xRet, xSeq, opd, Opd.get, Opd.arg, args, gets, slotsOf, optI, Z.at, Z.put, Z.wipe, Z.back, Z.freeze, keepF, bor, unbor, bindT, bindT.bindTs, binop, isin, isNon, cmpop, iop, nop, D.cmpo, deq, D.eqv, isInst, isInsts, seqOf, lenop, lstop, intop, absop, bltin1, int2, bltin2, bltin, ixop, fldop, thop, stop, mtop, mtop0, mtop1, extop, popop, D.ok, D.okd, q1, q2, atI, ixN, ↓hop, hx, m0, at1, g]
  · refine ⟨h, none, fun F => ?_⟩
    by_cases q1 : h.c = 0
    · have q2 : ¬ (h.i : Int) < h.cells.length := by omega
      simp [dIf, zd, Hand.D, e_var, e_int, e_bl, e_non, e_str, e_bin, e_neg, e_not, e_cmp, e_cmp2, e_and, e_or, e_ite, e_tup, e_lst, e_dic0, e_ix, e_sl, e_rev, e_fld, e_there, e_call, e_web, e_blt, e_isi, e_mt, e_md, e_listIt, e_tupIt, e_val, o_nil, o_cons, ef_nil, ef_cons, eo_none, eo_some, ei_seq, ei_rng1, ei_rng2, ei_zip, ei_enum, r_nil, r_cons, x_nil, x_cons, x_set, x_setH, x_par, x_unp, x_setIx, x_ex, x_ite, x_ret, x_pass, x_brk, x_cont, sVar, sOp1, sOp2, plainB, plain1, plainB2, plain2, sNeg, sNot, sCmp2, sAnd, sOr, sIte, sTup, sLst, sItem, sSl, sCall, sBlt, sMt, sMd, sListIt, sTupIt, sIt1, sIt2, itSeq, itEnum, itZip, sRng1, sRng2, sOsNil, sOsCons, sEfNil, sEfCons, sEoNone, sEoSome, setSlot, setAll, xSet, xSetH, xPar, xUnp, setItem, xSetIx, xEx, xIte, xRet, xSeq, opd, Opd.get, Opd.arg, args, gets, slotsOf, optI, Z.at, Z.put, Z.wipe, Z.back, Z.freeze, keepF, bor, unbor, bindT, bindT.bindTs, binop, isin, isNon, cmpop, iop, nop, D.cmpo, deq, D.eqv, isInst, isInsts, seqOf, lenop, lstop, intop, absop, bltin1, int2, bltin2, bltin, ixop, fldop, thop, stop, mtop, mtop0, mtop1, extop, popop, D.ok, D.okd, q1, atI, ixN, q2]
    · have q2 : (h.c == 0) = false := by simpa using q1
      simp [dIf, zd, Hand.D, e_var, e_int, e_bl, e_non, e_str, e_bin, e_neg, e_not, e_cmp, e_cmp2, e_and, e_or, e_ite, e_tup, e_lst, e_dic0, e_ix, e_sl, e_rev, e_fld, e_there, e_call, e_web, e_blt, e_isi, e_mt, e_md, e_listIt, e_tupIt, e_val, o_nil, o_cons, ef_nil, ef_cons, eo_none, eo_some, ei_seq, ei_rng1, ei_rng2, ei_zip, ei_enum, r_nil, r_cons, x_nil, x_cons, x_set, x_setH, x_par, x_unp, x_setIx, x_ex, x_ite, x_ret, x_pass, x_brk, x_cont, sVar, sOp1, sOp2, plainB, plain1, plainB2, plain2, sNeg, sNot, sCmp2, sAnd, sOr, sIte, sTup, sLst, sItem, sSl, sCall, sBlt, sMt, sMd, sListIt, sTupIt, sIt1, sIt2, itSeq, itEnum, itZip, sRng1, sRng2, sOsNil, sOsCons, sEfNil, sEfCons, sEoNone, sEoSome, setSlot, setAll, xSet, xSetH, xPar, xUnp, setItem, xSetIx, xEx, xIte, xRet, xSeq, opd, Opd.get, Opd.arg, args, gets, slotsOf, optI, Z.at, Z.put, Z.wipe, Z.back, Z.freeze, keepF, bor, unbor, bindT, bindT.bindTs, binop, isin, isNon, cmpop, iop, nop, D.cmpo, deq, D.eqv, isInst, isInsts, seqOf, lenop, lstop, intop, absop, bltin1, int2, bltin2, bltin, ixop, fldop, thop, stop, mtop, mtop0, mtop1, extop, popop, D.ok, D.okd, q2, atI, ixN]
theorem d_tail {k : DK} (hk : k.Ok) (h : Hand) (s : Int) (u : Option (Ow × D)) (h0 : 0 < s) (h1 : s < 1073741824) : ∃ (h' : Hand) (v : Nat), (v : Int) < s ∧ ∀ F, execs F (dTail k) (zd h s u) = some (.rt (some h'.D) false (.int v)) := by
  have key : ∀ x : Int, ∃ v : Nat, (v : Int) = x % s ∧ (v : Int) < s := fun x => ⟨(x % s).toNat, Int.toNat_of_nonneg (Int.emod_nonneg x (by omega)), by rw [Int.toNat_of_nonneg (Int.emod_nonneg x (by omega))]; exact Int.emod_lt_of_pos x h0⟩
  by_cases q : 0 < h.c
  · obtain ⟨v, hv, hv2⟩ := key h.c
    refine ⟨⟨h.cells, h.i, h.c / s, h.x, h.n⟩, v, hv2, fun F => ?_⟩
    rw [hv]
    simp [dTail, zd, Hand.D, e_var, e_int, e_bl, e_non, e_str, e_bin, e_neg, e_not, e_cmp, e_cmp2, e_and, e_or, e_ite, e_tup, e_lst, e_dic0, e_ix, e_sl, e_rev, e_fld, e_there, e_call, e_web, e_blt, e_isi, e_mt, e_md, e_listIt, e_tupIt, e_val, o_nil, o_cons, ef_nil, ef_cons, eo_none, eo_some, ei_seq, ei_rng1, ei_rng2, ei_zip, ei_enum, r_nil, r_cons, x_nil, x_cons, x_set, x_setH, x_par, x_unp, x_setIx, x_ex, x_ite, x_ret, x_pass, x_brk, x_cont, sVar, sOp1, sOp2, plainB, plain1, plainB2, plain2, sNeg, sNot, sCmp2, sAnd, sOr, sIte, sTup, sLst, sItem, sSl, sCall, sBlt, sMt, sMd, sListIt, sTupIt, sIt1, sIt2, itSeq, itEnum, itZip, sRng1, sRng2, sOsNil, sOsCons, sEfNil, sEfCons, sEoNone, sEoSome, setSlot, setAll, xSet, xSetH, xPar, xUnp, setItem, xSetIx, xEx, xIte, xRet, xSeq, opd, Opd.get, Opd.arg, args, gets, slotsOf, optI, Z.at, Z.put, Z.wipe, Z.back, Z.freeze, keepF, bor, unbor, bindT, bindT.bindTs, binop, isin, isNon, cmpop, iop, nop, D.cmpo, deq, D.eqv, isInst, isInsts, seqOf, lenop, lstop, intop, absop, bltin1, int2, bltin2, bltin, ixop, fldop, thop, stop, mtop, mtop0, mtop1, extop, popop, D.ok, D.okd, q, atI, ixN, h0, h1]
  · have sa := hk.a
    have sb := hk.b
    have s1 : small ((h.x + k.a * (h.n + 1)) * k.b % k.m1) = true := small_mod hk.m1
    have s2 : small ((h.x + k.a * (h.n + 1)) * k.b % k.m1 * ((h.x + k.a * (h.n + 1)) * k.b % k.m1 / k.c + k.d) % k.m2) = true := small_mod hk.m2
    obtain ⟨v, hv, hv2⟩ := key ((h.x + k.a * (h.n + 1)) * k.b % k.m1 * ((h.x + k.a * (h.n + 1)) * k.b % k.m1 / k.c + k.d) % k.m2 * ((h.x + k.a * (h.n + 1)) * k.b % k.m1 * ((h.x + k.a * (h.n + 1)) * k.b % k.m1 / k.c + k.d) % k.m2 / k.e + k.f) % k.m3 / 16)
    refine ⟨⟨h.cells, h.i, h.c, h.x, h.n + 1⟩, v, hv2, fun F => ?_⟩
    rw [hv]
    simp [dTail, zd, Hand.D, e_var, e_int, e_bl, e_non, e_str, e_bin, e_neg, e_not, e_cmp, e_cmp2, e_and, e_or, e_ite, e_tup, e_lst, e_dic0, e_ix, e_sl, e_rev, e_fld, e_there, e_call, e_web, e_blt, e_isi, e_mt, e_md, e_listIt, e_tupIt, e_val, o_nil, o_cons, ef_nil, ef_cons, eo_none, eo_some, ei_seq, ei_rng1, ei_rng2, ei_zip, ei_enum, r_nil, r_cons, x_nil, x_cons, x_set, x_setH, x_par, x_unp, x_setIx, x_ex, x_ite, x_ret, x_pass, x_brk, x_cont, sVar, sOp1, sOp2, plainB, plain1, plainB2, plain2, sNeg, sNot, sCmp2, sAnd, sOr, sIte, sTup, sLst, sItem, sSl, sCall, sBlt, sMt, sMd, sListIt, sTupIt, sIt1, sIt2, itSeq, itEnum, itZip, sRng1, sRng2, sOsNil, sOsCons, sEfNil, sEfCons, sEoNone, sEoSome, setSlot, setAll, xSet, xSetH, xPar, xUnp, setItem, xSetIx, xEx, xIte, xRet, xSeq, opd, Opd.get, Opd.arg, args, gets, slotsOf, optI, Z.at, Z.put, Z.wipe, Z.back, Z.freeze, keepF, bor, unbor, bindT, bindT.bindTs, binop, isin, isNon, cmpop, iop, nop, D.cmpo, deq, D.eqv, isInst, isInsts, seqOf, lenop, lstop, intop, absop, bltin1, int2, bltin2, bltin, ixop, fldop, thop, stop, mtop, mtop0, mtop1, extop, popop, D.ok, D.okd, q, atI, ixN, h0, sa, sb, s1, s2, hk.m1.1, hk.c.1, hk.c.2, hk.m2.1, hk.e.1, hk.e.2, hk.m3]
theorem s_draw {P : List Def} {i : Nat} {k : DK} (hk : k.Ok) (hf : P[i]? = some ⟨2, 5, bDraw k⟩) (hg : i ≠ gIdx) : SDraw P i := by
  intro h s h0 h1
  obtain ⟨h2, u, e1⟩ := d_if hk h s
  obtain ⟨h', v, hv, e2⟩ := d_tail hk h2 s u h0 h1
  refine ⟨h', v, hv, fun m hm => ?_⟩
  refine den_rt (zd h s none) hf hg hm rfl (by show 2 ≤ 5; omega) rfl ?_
  show execs _ (.cons (dIf k) (dTail k)) _ = _
  rw [x_cons]
  unfold xSeq
  rw [e1]
  exact e2 _
theorem dk_ok {mix : E} (hn : ∀ i, mix ≠ .var i) (h : ∀ (h : Hand) (s c : Int), ∃ x : Int, ∀ F, ev F mix (zd h s (some (.frz, .int c))) = some (zd h s (some (.frz, .int c)), false, .int x)) : (dk mix).Ok :=
  ⟨by simp [dk], by show small 48271 = true; decide, by show small 7919 = true; decide, by simp [dk], by simp [dk], by simp [dk], by simp [dk], by simp [dk], hn, h⟩
theorem sm69 : small 69621 = true := by decide
theorem mixA_ok {j : Int} : (dk (mixA j)).Ok := dk_ok (fun _ h => by cases h) fun h s c => ⟨h.x * 69621 + c + j, fun F => by simp [mixA, zd, Hand.D, e_var, e_int, e_bl, e_non, e_str, e_bin, e_neg, e_not, e_cmp, e_cmp2, e_and, e_or, e_ite, e_tup, e_lst, e_dic0, e_ix, e_sl, e_rev, e_fld, e_there, e_call, e_web, e_blt, e_isi, e_mt, e_md, e_listIt, e_tupIt, e_val, o_nil, o_cons, ef_nil, ef_cons, eo_none, eo_some, ei_seq, ei_rng1, ei_rng2, ei_zip, ei_enum, r_nil, r_cons, x_nil, x_cons, x_set, x_setH, x_par, x_unp, x_setIx, x_ex, x_ite, x_ret, x_pass, x_brk, x_cont, sVar, sOp1, sOp2, plainB, plain1, plainB2, plain2, sNeg, sNot, sCmp2, sAnd, sOr, sIte, sTup, sLst, sItem, sSl, sCall, sBlt, sMt, sMd, sListIt, sTupIt, sIt1, sIt2, itSeq, itEnum, itZip, sRng1, sRng2, sOsNil, sOsCons, sEfNil, sEfCons, sEoNone, sEoSome, setSlot, setAll, xSet, xSetH, xPar, xUnp, setItem, xSetIx, xEx, xIte, xRet, xSeq, opd, Opd.get, Opd.arg, args, gets, slotsOf, optI, Z.at, Z.put, Z.wipe, Z.back, Z.freeze, keepF, bor, unbor, bindT, bindT.bindTs, binop, isin, isNon, cmpop, iop, nop, D.cmpo, deq, D.eqv, isInst, isInsts, seqOf, lenop, lstop, intop, absop, bltin1, int2, bltin2, bltin, ixop, fldop, thop, stop, mtop, mtop0, mtop1, extop, popop, D.ok, D.okd, atI, ixN, sm69]⟩
theorem mixB_ok {i j : Int} (hi : small i = true) : (dk (mixB i j)).Ok := dk_ok (fun _ h => by cases h) fun h s c => ⟨h.x * 69621 + c * i + j, fun F => by simp [mixB, zd, Hand.D, e_var, e_int, e_bl, e_non, e_str, e_bin, e_neg, e_not, e_cmp, e_cmp2, e_and, e_or, e_ite, e_tup, e_lst, e_dic0, e_ix, e_sl, e_rev, e_fld, e_there, e_call, e_web, e_blt, e_isi, e_mt, e_md, e_listIt, e_tupIt, e_val, o_nil, o_cons, ef_nil, ef_cons, eo_none, eo_some, ei_seq, ei_rng1, ei_rng2, ei_zip, ei_enum, r_nil, r_cons, x_nil, x_cons, x_set, x_setH, x_par, x_unp, x_setIx, x_ex, x_ite, x_ret, x_pass, x_brk, x_cont, sVar, sOp1, sOp2, plainB, plain1, plainB2, plain2, sNeg, sNot, sCmp2, sAnd, sOr, sIte, sTup, sLst, sItem, sSl, sCall, sBlt, sMt, sMd, sListIt, sTupIt, sIt1, sIt2, itSeq, itEnum, itZip, sRng1, sRng2, sOsNil, sOsCons, sEfNil, sEfCons, sEoNone, sEoSome, setSlot, setAll, xSet, xSetH, xPar, xUnp, setItem, xSetIx, xEx, xIte, xRet, xSeq, opd, Opd.get, Opd.arg, args, gets, slotsOf, optI, Z.at, Z.put, Z.wipe, Z.back, Z.freeze, keepF, bor, unbor, bindT, bindT.bindTs, binop, isin, isNon, cmpop, iop, nop, D.cmpo, deq, D.eqv, isInst, isInsts, seqOf, lenop, lstop, intop, absop, bltin1, int2, bltin2, bltin, ixop, fldop, thop, stop, mtop, mtop0, mtop1, extop, popop, D.ok, D.okd, atI, ixN, sm69, hi]⟩
end BV

/-! Tools, and the functions of walks. -/
namespace BV
open PySem (Str)
theorem ev_mapM {α : Type} {F : Phi} {elt : E} {g : TG} {it : It} {own : List Nat} {z : Z} {bs : List Nat} (l : List α) (q : α → D) (f : α → D) (hit : evI F it z = some (z, l.map q, bs)) (hlen : l.length < lim) (hown : ∀ i ∈ own, keepF (z.at i) = z.at i)
    (hs : ∀ x ∈ l, ∃ zb zd o', bindT g (q x) ((bor bs z).wipe own) = some zb ∧ ev F elt zb = some (zd, o', f x) ∧ zd.wipe own = (bor bs z).wipe own) (hb : ∀ x ∈ l, ∀ zb, bindT g (q x) ((bor bs z).wipe own) = some zb → zb.wipe own = (bor bs z).wipe own) :
    ev F (.comp elt g it (.bl true) own) z = some (z, true, .lst (l.map f)) := by
  have h := ev_compM (F := F) (elt := elt) (cd := .bl true) (g := g) (it := it) (own := own) (z := z) (bs := bs) l q (fun _ => true) f hit hlen hown (by
    intro x hx
    obtain ⟨zb, zd, o', h1, h2, h3⟩ := hs x hx
    exact ⟨zb, zb, false, h1, rfl, hb x hx zb h1, fun _ => ⟨zd, o', h2, h3⟩⟩)
  rw [filter_all] at h
  exact h
theorem ev_blt1 {F : Phi} {b : Blt} {e : E} {z z1 : Z} {o : Bool} {d : D} {r : Bool × D} (hv : ∀ i, e ≠ .var i) (h : ev F e z = some (z1, o, d)) (hr : bltin b [d] = some r) : ev F (.blt b (.cons e .nil)) z = some (z1, r) := by
  rw [e_blt, o_cons, o_nil]
  simp [sBlt, sOsCons, sOsNil, opd_of hv, h, gets, Opd.get, hr]
theorem ex_set {F : Phi} {i : Nat} {m : Bool} {e : E} {z z1 : Z} {o : Bool} {d : D} (h : ev F e z = some (z1, o, d)) (hi : i < z1.g.length) : exec F (.set i m e) z = some (.nx (z1.put i (if m && o then .own else .frz) d)) := by
  rw [x_set]
  simp [xSet, h, setSlot, hi]
theorem xs_nx {F : Phi} {s : S} {r : Ss} {z z1 : Z} {out : Option Out} (h : exec F s z = some (.nx z1)) (h2 : execs F r z1 = out) : execs F (.cons s r) z = out := by
  rw [x_cons]
  unfold xSeq
  rw [h]
  exact h2
theorem xs_rt {F : Phi} {s : S} {r : Ss} {z : Z} {h : Option (List D)} {o : Bool} {d : D} (e : exec F s z = some (.rt h o d)) : execs F (.cons s r) z = some (.rt h o d) := by
  rw [x_cons]
  unfold xSeq
  rw [e]
theorem intsD_map (l : List Int) : intsD (l.map D.int) = some l := by
  induction l with
  | nil => rfl
  | cons x r ih => simp [intsD, ih]
theorem intsD_mapN (l : List Nat) : intsD (intL l) = some (l.map fun (i : Nat) => (i : Int)) := by
  have e : intL l = (l.map fun (i : Nat) => (i : Int)).map D.int := by simp [intL]
  rw [e, intsD_map]
theorem sum_map {α : Type} (l : List α) (f : α → Int) : bltin .sum [.lst (l.map fun x => D.int (f x))] = some (false, .int (l.map f).sum) := by
  have e : (l.map fun x => D.int (f x)) = (l.map f).map D.int := by simp
  simp only [bltin, bltin1, lstop, e, intsD_map, Option.map_some]
theorem atI_mapN {α : Type} (l : List α) (f : α → D) (i : Nat) (hi : i < l.length) : atI (l.map f) (i : Int) = some (f l[i]) := by
  simp [atI, ixN, hi]
theorem mem_nearL {n : Nat} {ls : List (Nat × Nat)} {a b : Nat} : b ∈ nearL n ls a ↔ b < n ∧ adj ls a b = true := by
  simp [nearL]
theorem len_nearL {n : Nat} {ls : List (Nat × Nat)} {a : Nat} : (nearL n ls a).length ≤ n := by
  have := List.length_filter_le (adj ls a) (List.range n)
  rw [List.length_range] at this
  exact this
/-- one step of all walks -/
def stepF (n : Nat) (ls : List (Nat × Nat)) (c : List Int) : List Int := (List.range n).map fun a => ((nearL n ls a).map fun b => c.getD b 0).sum
def bSteps (iN : Nat) : Ss := (.cons (.ret (.comp (.blt .sum (.cons (.comp (.ix (.var 1) (.var 3)) (.nm 3) (.seq (.call iN (.cons (.var 0) (.cons (.var 2) .nil)))) (.bl true) [3]) .nil)) (.nm 2) (.rng1 (.fld (.var 0) .corners)) (.bl true) [2])) .nil)
def SSteps (P : List Def) (i : Nat) : Prop := ∀ m h n ls (c : List Int), 14 ≤ m → n ≤ 7 → c.length = n → den P m i [(false, .web n ls), (false, .lst (c.map .int))] h = some (h, true, .lst ((stepF n ls c).map .int))
theorem s_steps {P : List Def} {i iN : Nat} (hf : P[i]? = some ⟨2, 4, bSteps iN⟩) (hg : i ≠ gIdx) (sN : SNear P iN) : SSteps P i := by
  intro m h n ls c hm hn hc
  refine den_rt ⟨[some (.frz, .web n ls), some (.frz, .lst (c.map .int)), none, none], h, []⟩ hf hg (by omega) rfl (by show 2 ≤ 4; omega) rfl ?_
  rw [stepF, List.map_map]
  refine retE_of (fun _ h => by cases h) (ev_mapM (bs := []) (List.range n) (fun i => .int (i : Nat)) _ (by simp [e_var, e_int, e_bl, e_non, e_str, e_bin, e_neg, e_not, e_cmp, e_cmp2, e_and, e_or, e_ite, e_tup, e_lst, e_dic0, e_ix, e_sl, e_rev, e_fld, e_there, e_call, e_web, e_blt, e_isi, e_mt, e_md, e_listIt, e_tupIt, e_val, o_nil, o_cons, ef_nil, ef_cons, eo_none, eo_some, ei_seq, ei_rng1, ei_rng2, ei_zip, ei_enum, r_nil, r_cons, x_nil, x_cons, x_set, x_setH, x_par, x_unp, x_setIx, x_ex, x_ite, x_ret, x_pass, x_brk, x_cont, sVar, sOp1, sOp2, plainB, plain1, plainB2, plain2, sNeg, sNot, sCmp2, sAnd, sOr, sIte, sTup, sLst, sItem, sSl, sCall, sBlt, sMt, sMd, sListIt, sTupIt, sIt1, sIt2, itSeq, itEnum, itZip, sRng1, sRng2, sOsNil, sOsCons, sEfNil, sEfCons, sEoNone, sEoSome, setSlot, setAll, xSet, xSetH, xPar, xUnp, setItem, xSetIx, xEx, xIte, xRet, xSeq, opd, Opd.get, Opd.arg, args, gets, slotsOf, optI, Z.at, Z.put, Z.wipe, Z.back, Z.freeze, keepF, bor, unbor, bindT, bindT.bindTs, binop, isin, isNon, cmpop, iop, nop, D.cmpo, deq, D.eqv, isInst, isInsts, seqOf, lenop, lstop, intop, absop, bltin1, int2, bltin2, bltin, ixop, fldop, thop, stop, mtop, mtop0, mtop1, extop, popop, D.ok, D.okd, rngL_nat, rngOk_nat (show n ≤ 1000 by omega)]) (by rw [List.length_range]; exact lim_gt (by omega)) (by simp [keepF, Z.at]) (fun a ha => ?_) (by simp [e_var, e_int, e_bl, e_non, e_str, e_bin, e_neg, e_not, e_cmp, e_cmp2, e_and, e_or, e_ite, e_tup, e_lst, e_dic0, e_ix, e_sl, e_rev, e_fld, e_there, e_call, e_web, e_blt, e_isi, e_mt, e_md, e_listIt, e_tupIt, e_val, o_nil, o_cons, ef_nil, ef_cons, eo_none, eo_some, ei_seq, ei_rng1, ei_rng2, ei_zip, ei_enum, r_nil, r_cons, x_nil, x_cons, x_set, x_setH, x_par, x_unp, x_setIx, x_ex, x_ite, x_ret, x_pass, x_brk, x_cont, sVar, sOp1, sOp2, plainB, plain1, plainB2, plain2, sNeg, sNot, sCmp2, sAnd, sOr, sIte, sTup, sLst, sItem, sSl, sCall, sBlt, sMt, sMd, sListIt, sTupIt, sIt1, sIt2, itSeq, itEnum, itZip, sRng1, sRng2, sOsNil, sOsCons, sEfNil, sEfCons, sEoNone, sEoSome, setSlot, setAll, xSet, xSetH, xPar, xUnp, setItem, xSetIx, xEx, xIte, xRet, xSeq, opd, Opd.get, Opd.arg, args, gets, slotsOf, optI, Z.at, Z.put, Z.wipe, Z.back, Z.freeze, keepF, bor, unbor, bindT, bindT.bindTs, binop, isin, isNon, cmpop, iop, nop, D.cmpo, deq, D.eqv, isInst, isInsts, seqOf, lenop, lstop, intop, absop, bltin1, int2, bltin2, bltin, ixop, fldop, thop, stop, mtop, mtop0, mtop1, extop, popop, D.ok, D.okd]))
  refine ⟨⟨[some (.frz, .web n ls), some (.frz, .lst (c.map .int)), some (.frz, .int a), none], h, []⟩, _, _, by simp [e_var, e_int, e_bl, e_non, e_str, e_bin, e_neg, e_not, e_cmp, e_cmp2, e_and, e_or, e_ite, e_tup, e_lst, e_dic0, e_ix, e_sl, e_rev, e_fld, e_there, e_call, e_web, e_blt, e_isi, e_mt, e_md, e_listIt, e_tupIt, e_val, o_nil, o_cons, ef_nil, ef_cons, eo_none, eo_some, ei_seq, ei_rng1, ei_rng2, ei_zip, ei_enum, r_nil, r_cons, x_nil, x_cons, x_set, x_setH, x_par, x_unp, x_setIx, x_ex, x_ite, x_ret, x_pass, x_brk, x_cont, sVar, sOp1, sOp2, plainB, plain1, plainB2, plain2, sNeg, sNot, sCmp2, sAnd, sOr, sIte, sTup, sLst, sItem, sSl, sCall, sBlt, sMt, sMd, sListIt, sTupIt, sIt1, sIt2, itSeq, itEnum, itZip, sRng1, sRng2, sOsNil, sOsCons, sEfNil, sEfCons, sEoNone, sEoSome, setSlot, setAll, xSet, xSetH, xPar, xUnp, setItem, xSetIx, xEx, xIte, xRet, xSeq, opd, Opd.get, Opd.arg, args, gets, slotsOf, optI, Z.at, Z.put, Z.wipe, Z.back, Z.freeze, keepF, bor, unbor, bindT, bindT.bindTs, binop, isin, isNon, cmpop, iop, nop, D.cmpo, deq, D.eqv, isInst, isInsts, seqOf, lenop, lstop, intop, absop, bltin1, int2, bltin2, bltin, ixop, fldop, thop, stop, mtop, mtop0, mtop1, extop, popop, D.ok, D.okd], ev_blt1 (fun _ h => by cases h) (ev_mapM (bs := []) (nearL n ls a) (fun i => .int (i : Nat)) (fun b => .int (c.getD b 0)) (by simp [e_var, e_int, e_bl, e_non, e_str, e_bin, e_neg, e_not, e_cmp, e_cmp2, e_and, e_or, e_ite, e_tup, e_lst, e_dic0, e_ix, e_sl, e_rev, e_fld, e_there, e_call, e_web, e_blt, e_isi, e_mt, e_md, e_listIt, e_tupIt, e_val, o_nil, o_cons, ef_nil, ef_cons, eo_none, eo_some, ei_seq, ei_rng1, ei_rng2, ei_zip, ei_enum, r_nil, r_cons, x_nil, x_cons, x_set, x_setH, x_par, x_unp, x_setIx, x_ex, x_ite, x_ret, x_pass, x_brk, x_cont, sVar, sOp1, sOp2, plainB, plain1, plainB2, plain2, sNeg, sNot, sCmp2, sAnd, sOr, sIte, sTup, sLst, sItem, sSl, sCall, sBlt, sMt, sMd, sListIt, sTupIt, sIt1, sIt2, itSeq, itEnum, itZip, sRng1, sRng2, sOsNil, sOsCons, sEfNil, sEfCons, sEoNone, sEoSome, setSlot, setAll, xSet, xSetH, xPar, xUnp, setItem, xSetIx, xEx, xIte, xRet, xSeq, opd, Opd.get, Opd.arg, args, gets, slotsOf, optI, Z.at, Z.put, Z.wipe, Z.back, Z.freeze, keepF, bor, unbor, bindT, bindT.bindTs, binop, isin, isNon, cmpop, iop, nop, D.cmpo, deq, D.eqv, isInst, isInsts, seqOf, lenop, lstop, intop, absop, bltin1, int2, bltin2, bltin, ixop, fldop, thop, stop, mtop, mtop0, mtop1, extop, popop, D.ok, D.okd, sN (m - 1) h n ls a (by omega) hn, intL]) (lim_gt (Nat.le_trans len_nearL (by omega))) (by simp [keepF, Z.at]) (fun b hb => ?_) (by simp [e_var, e_int, e_bl, e_non, e_str, e_bin, e_neg, e_not, e_cmp, e_cmp2, e_and, e_or, e_ite, e_tup, e_lst, e_dic0, e_ix, e_sl, e_rev, e_fld, e_there, e_call, e_web, e_blt, e_isi, e_mt, e_md, e_listIt, e_tupIt, e_val, o_nil, o_cons, ef_nil, ef_cons, eo_none, eo_some, ei_seq, ei_rng1, ei_rng2, ei_zip, ei_enum, r_nil, r_cons, x_nil, x_cons, x_set, x_setH, x_par, x_unp, x_setIx, x_ex, x_ite, x_ret, x_pass, x_brk, x_cont, sVar, sOp1, sOp2, plainB, plain1, plainB2, plain2, sNeg, sNot, sCmp2, sAnd, sOr, sIte, sTup, sLst, sItem, sSl, sCall, sBlt, sMt, sMd, sListIt, sTupIt, sIt1, sIt2, itSeq, itEnum, itZip, sRng1, sRng2, sOsNil, sOsCons, sEfNil, sEfCons, sEoNone, sEoSome, setSlot, setAll, xSet, xSetH, xPar, xUnp, setItem, xSetIx, xEx, xIte, xRet, xSeq, opd, Opd.get, Opd.arg, args, gets, slotsOf, optI, Z.at, Z.put, Z.wipe, Z.back, Z.freeze, keepF, bor, unbor, bindT, bindT.bindTs, binop, isin, isNon, cmpop, iop, nop, D.cmpo, deq, D.eqv, isInst, isInsts, seqOf, lenop, lstop, intop, absop, bltin1, int2, bltin2, bltin, ixop, fldop, thop, stop, mtop, mtop0, mtop1, extop, popop, D.ok, D.okd])) (sum_map _ _), by simp [e_var, e_int, e_bl, e_non, e_str, e_bin, e_neg, e_not, e_cmp, e_cmp2, e_and, e_or, e_ite, e_tup, e_lst, e_dic0, e_ix, e_sl, e_rev, e_fld, e_there, e_call, e_web, e_blt, e_isi, e_mt, e_md, e_listIt, e_tupIt, e_val, o_nil, o_cons, ef_nil, ef_cons, eo_none, eo_some, ei_seq, ei_rng1, ei_rng2, ei_zip, ei_enum, r_nil, r_cons, x_nil, x_cons, x_set, x_setH, x_par, x_unp, x_setIx, x_ex, x_ite, x_ret, x_pass, x_brk, x_cont, sVar, sOp1, sOp2, plainB, plain1, plainB2, plain2, sNeg, sNot, sCmp2, sAnd, sOr, sIte, sTup, sLst, sItem, sSl, sCall, sBlt, sMt, sMd, sListIt, sTupIt, sIt1, sIt2, itSeq, itEnum, itZip, sRng1, sRng2, sOsNil, sOsCons, sEfNil, sEfCons, sEoNone, sEoSome, setSlot, setAll, xSet, xSetH, xPar, xUnp, setItem, xSetIx, xEx, xIte, xRet, xSeq, opd, Opd.get, Opd.arg, args, gets, slotsOf, optI, Z.at, Z.put, Z.wipe, Z.back, Z.freeze, keepF, bor, unbor, bindT, bindT.bindTs, binop, isin, isNon, cmpop, iop, nop, D.cmpo, deq, D.eqv, isInst, isInsts, seqOf, lenop, lstop, intop, absop, bltin1, int2, bltin2, bltin, ixop, fldop, thop, stop, mtop, mtop0, mtop1, extop, popop, D.ok, D.okd]⟩
  have hb := mem_nearL.mp hb
  have e := atI_mapN c .int b (by omega)
  simp [e_var, e_int, e_bl, e_non, e_str, e_bin, e_neg, e_not, e_cmp, e_cmp2, e_and, e_or, e_ite, e_tup, e_lst, e_dic0, e_ix, e_sl, e_rev, e_fld, e_there, e_call, e_web, e_blt, e_isi, e_mt, e_md, e_listIt, e_tupIt, e_val, o_nil, o_cons, ef_nil, ef_cons, eo_none, eo_some, ei_seq, ei_rng1, ei_rng2, ei_zip, ei_enum, r_nil, r_cons, x_nil, x_cons, x_set, x_setH, x_par, x_unp, x_setIx, x_ex, x_ite, x_ret, x_pass, x_brk, x_cont, sVar, sOp1, sOp2, plainB, plain1, plainB2, plain2, sNeg, sNot, sCmp2, sAnd, sOr, sIte, sTup, sLst, sItem, sSl, sCall, sBlt, sMt, sMd, sListIt, sTupIt, sIt1, sIt2, itSeq, itEnum, itZip, sRng1, sRng2, sOsNil, sOsCons, sEfNil, sEfCons, sEoNone, sEoSome, setSlot, setAll, xSet, xSetH, xPar, xUnp, setItem, xSetIx, xEx, xIte, xRet, xSeq, opd, Opd.get, Opd.arg, args, gets, slotsOf, optI, Z.at, Z.put, Z.wipe, Z.back, Z.freeze, keepF, bor, unbor, bindT, bindT.bindTs, binop, isin, isNon, cmpop, iop, nop, D.cmpo, deq, D.eqv, isInst, isInsts, seqOf, lenop, lstop, intop, absop, bltin1, int2, bltin2, bltin, ixop, fldop, thop, stop, mtop, mtop0, mtop1, extop, popop, D.ok, D.okd, e, List.getElem?_eq_getElem (show b < c.length by omega)]
end BV

/-! Right webs; the law's own near corners; walks. -/
namespace BV
open PySem (Str)
structure WOk (n : Nat) (ls : List (Nat × Nat)) : Prop where
  n1 : 1 ≤ n
  n7 : n ≤ 7
  mem : ∀ p ∈ ls, p.1 < p.2 ∧ p.2 < n
  asc : ls.Pairwise fun p q => ltP p q = true
theorem ltP_trans {p q r : Nat × Nat} (h1 : ltP p q = true) (h2 : ltP q r = true) : ltP p r = true := by
  simp only [ltP, Bool.or_eq_true, Bool.and_eq_true, decide_eq_true_eq] at *
  omega
theorem ltP_irr {p : Nat × Nat} : ltP p p = false := by
  simp [ltP]
theorem ascP_of : ∀ {ls : List (Nat × Nat)}, ls.Pairwise (fun p q => ltP p q = true) → ascP ls = true
  | [], _ => rfl
  | [_], _ => rfl
  | p :: q :: r, h => by
    rw [List.pairwise_cons] at h
    simp only [ascP, Bool.and_eq_true]
    exact ⟨h.1 q List.mem_cons_self, ascP_of h.2⟩
theorem of_ascP : ∀ {ls : List (Nat × Nat)}, ascP ls = true → ls.Pairwise (fun p q => ltP p q = true)
  | [], _ => List.Pairwise.nil
  | [_], _ => List.pairwise_singleton _ _
  | p :: q :: r, h => by
    simp only [ascP, Bool.and_eq_true] at h
    have ih := of_ascP h.2
    refine List.Pairwise.cons (fun x hx => ?_) ih
    rcases List.mem_cons.mp hx with rfl | hx
    · exact h.1
    · exact ltP_trans h.1 ((List.pairwise_cons.mp ih).1 x hx)
theorem WOk.ok {n : Nat} {ls : List (Nat × Nat)} (h : WOk n ls) : webOk n ls = true := by
  simp only [webOk, Bool.and_eq_true, decide_eq_true_eq, List.all_eq_true, lineOk]
  exact ⟨⟨⟨h.n1, h.n7⟩, fun p hp => h.mem p hp⟩, ascP_of h.asc⟩
theorem WOk.of {n : Nat} {ls : List (Nat × Nat)} (h : webOk n ls = true) : WOk n ls := by
  simp only [webOk, Bool.and_eq_true, decide_eq_true_eq, List.all_eq_true, lineOk] at h
  exact ⟨h.1.1.1, h.1.1.2, fun p hp => h.1.2 p hp, of_ascP h.2⟩
theorem WOk.nodup {n : Nat} {ls : List (Nat × Nat)} (h : WOk n ls) : ls.Nodup :=
  h.asc.imp fun {p q} hpq e => by subst e; rw [ltP_irr] at hpq; cases hpq
theorem adj_comm {ls : List (Nat × Nat)} {a b : Nat} : adj ls a b = adj ls b a := by
  unfold adj
  rw [Nat.min_comm, Nat.max_comm]
theorem adj_irr {n : Nat} {ls : List (Nat × Nat)} (h : WOk n ls) {a : Nat} : adj ls a a = false := by
  unfold adj
  simp only [decide_eq_false_iff_not]
  intro hm
  have := (h.mem _ hm).1
  simp at this
theorem adj_iff {n : Nat} {ls : List (Nat × Nat)} (h : WOk n ls) {a b : Nat} : adj ls a b = true ↔ (a, b) ∈ ls ∨ (b, a) ∈ ls := by
  unfold adj
  rw [decide_eq_true_iff]
  constructor
  · intro hm
    rcases Nat.le_total a b with h1 | h1
    · rw [Nat.min_eq_left h1, Nat.max_eq_right h1] at hm
      exact Or.inl hm
    · rw [Nat.min_eq_right h1, Nat.max_eq_left h1] at hm
      exact Or.inr hm
  · rintro (hm | hm)
    · have := (h.mem _ hm).1
      rw [Nat.min_eq_left (by simp at this; omega), Nat.max_eq_right (by simp at this; omega)]
      exact hm
    · have := (h.mem _ hm).1
      rw [Nat.min_eq_right (by simp at this; omega), Nat.max_eq_left (by simp at this; omega)]
      exact hm
theorem adj_lt {n : Nat} {ls : List (Nat × Nat)} (h : WOk n ls) {a b : Nat} (e : adj ls a b = true) : a < n ∧ b < n := by
  rcases (adj_iff h).mp e with hm | hm
  · have := h.mem _ hm
    simp at this
    omega
  · have := h.mem _ hm
    simp at this
    omega
theorem sortI_perm {l k : List Int} (hp : l.Perm k) (hk : k.Pairwise (· ≤ ·)) : sortI l = k := by
  unfold sortI
  have h1 : (l.mergeSort fun a b => decide (a ≤ b)).Pairwise (· ≤ ·) := by
    have := List.pairwise_mergeSort (le := fun (a b : Int) => decide (a ≤ b)) (by simp; omega) (by simp; omega) l
    exact this.imp fun h => by simpa using h
  exact List.Perm.eq_of_pairwise (le := (· ≤ ·)) (fun a b _ _ h1 h2 => Int.le_antisymm h1 h2) h1 hk ((List.mergeSort_perm _ _).trans hp)
theorem sortI_mem {l k : List Int} (hl : l.Nodup) (hk : k.Pairwise (· < ·)) (hm : ∀ x, x ∈ l ↔ x ∈ k) : sortI l = k := by
  have hkn : k.Nodup := hk.imp fun h e => by subst e; exact Int.lt_irrefl _ h
  exact sortI_perm ((List.perm_ext_iff_of_nodup hl hkn).mpr hm) (hk.imp fun h => Int.le_of_lt h)
theorem range_lt (n : Nat) : (List.range n).Pairwise (· < ·) := List.pairwise_lt_range
theorem nearL_lt {n : Nat} {ls : List (Nat × Nat)} {a : Nat} : (nearL n ls a).Pairwise (· < ·) := (range_lt n).sublist List.filter_sublist
/-- the other end of the lines at a corner -/
def otherL (ls : List (Nat × Nat)) (a : Nat) : List Int := (ls.filter fun p => (p.1 == a || p.2 == a)).map fun p => ((p.1 : Int) + p.2 - a)
theorem near_sort {n : Nat} {ls : List (Nat × Nat)} (h : WOk n ls) (a : Nat) : sortI (otherL ls a) = (nearL n ls a).map fun (i : Nat) => (i : Int) := by
  refine sortI_mem ?_ ?_ ?_
  · unfold otherL
    rw [List.Nodup, List.pairwise_map]
    refine List.Pairwise.imp_of_mem ?_ (h.nodup.sublist List.filter_sublist)
    intro p q hp hq hne e
    simp only [List.mem_filter, Bool.or_eq_true, beq_iff_eq] at hp hq
    have h1 := h.mem p hp.1
    have h2 := h.mem q hq.1
    apply hne
    ext <;> omega
  · rw [List.pairwise_map]
    exact nearL_lt.imp fun h => by omega
  · intro x
    simp only [otherL, List.mem_map, List.mem_filter, Bool.or_eq_true, beq_iff_eq, mem_nearL]
    constructor
    · rintro ⟨p, ⟨hp, ho⟩, rfl⟩
      have h1 := h.mem p hp
      rcases ho with ho | ho
      · refine ⟨p.2, ⟨h1.2, (adj_iff h).mpr (Or.inl ?_)⟩, by omega⟩
        rw [← ho]
        exact hp
      · refine ⟨p.1, ⟨by omega, (adj_iff h).mpr (Or.inr ?_)⟩, by omega⟩
        rw [← ho]
        exact hp
    · rintro ⟨b, ⟨hb, he⟩, rfl⟩
      rcases (adj_iff h).mp he with hm | hm
      · exact ⟨(a, b), ⟨hm, by simp⟩, by simp; omega⟩
      · exact ⟨(b, a), ⟨hm, by simp⟩, by simp⟩
theorem len_le_of_subset {α : Type} [DecidableEq α] : ∀ {l k : List α}, l.Nodup → l ⊆ k → l.length ≤ k.length
  | [], _, _, _ => Nat.zero_le _
  | x :: r, k, hl, hs => by
    rw [List.nodup_cons] at hl
    have hx : x ∈ k := hs List.mem_cons_self
    have h1 := len_le_of_subset (k := k.erase x) hl.2 (fun y hy => (List.mem_erase_of_ne (by rintro rfl; exact hl.1 hy)).mpr (hs (List.mem_cons_of_mem _ hy)))
    rw [List.length_erase_of_mem hx] at h1
    have := List.length_pos_of_mem hx
    simp
    omega
theorem ls_len {n : Nat} {ls : List (Nat × Nat)} (h : WOk n ls) : ls.length ≤ 49 := by
  have hs : ls.Nodup := h.nodup
  have : (ls.map fun p => p.1 * 7 + p.2).Nodup := by
    rw [List.Nodup, List.pairwise_map]
    refine List.Pairwise.imp_of_mem ?_ hs
    intro p q hp hq hne e
    have h1 := h.mem p hp
    have h2 := h.mem q hq
    have := h.n7
    apply hne
    ext <;> omega
  have h2 : (ls.map fun p => p.1 * 7 + p.2) ⊆ List.range 49 := by
    intro x hx
    simp only [List.mem_map] at hx
    obtain ⟨p, hp, rfl⟩ := hx
    have h1 := h.mem p hp
    have := h.n7
    rw [List.mem_range]
    omega
  have h3 := len_le_of_subset this h2
  simpa using h3
/-! the law's own functions of near corners -/
def bLNear : Ss := (.cons (.ret (.blt .sorted (.cons (.comp (.bin .sub (.bin .add (.var 2) (.var 3)) (.var 1)) (.tp (.cons (.nm 2) (.cons (.nm 3) .nil))) (.seq (.var 0)) (.cmp .isin (.var 1) (.tup (.cons (.var 2) (.cons (.var 3) .nil)))) [2,3]) .nil))) .nil)
def bLHas : Ss := (.cons (.ret (.cmp .isin (.tup (.cons (.blt .min (.cons (.var 1) (.cons (.var 2) .nil))) (.cons (.blt .max (.cons (.var 1) (.cons (.var 2) .nil))) .nil))) (.var 0))) .nil)
def bLOn (iN : Nat) : Ss := (.cons (.ret (.comp (.blt .sum (.cons (.comp (.ix (.var 1) (.var 3)) (.nm 3) (.seq (.call iN (.cons (.var 0) (.cons (.var 2) .nil)))) (.bl true) [3]) .nil)) (.nm 2) (.rng1 (.blt .len (.cons (.var 1) .nil))) (.bl true) [2])) .nil)
abbrev lsD (ls : List (Nat × Nat)) : D := .tup (ls.map pairD)
def SLNear (P : List Def) (i : Nat) : Prop := ∀ m h n ls (a : Nat), 1 ≤ m → WOk n ls → den P m i [(false, lsD ls), (false, .int a)] h = some (h, true, .lst (intL (nearL n ls a)))
def SLHas (P : List Def) (i : Nat) : Prop := ∀ m h n ls (a b : Nat), 1 ≤ m → WOk n ls → den P m i [(false, lsD ls), (false, .int a), (false, .int b)] h = some (h, false, .bl (adj ls a b))
def SLOn (P : List Def) (i : Nat) : Prop := ∀ m h n ls (c : List Int), 2 ≤ m → WOk n ls → c.length = n → den P m i [(false, lsD ls), (false, .lst (c.map .int))] h = some (h, true, .lst ((stepF n ls c).map .int))
theorem okds_pairs (k : Nat) (ls : List (Nat × Nat)) : D.okds (k + 1) (ls.map pairD) = true := by
  induction ls with
  | nil => rfl
  | cons p r ih => simp [D.okds, pairD, D.okd, ih]
theorem eqv_pair (p : Nat × Nat) (a b : Nat) : D.eqv (pairD p) (.tup [.int a, .int b]) = (p == (a, b)) := by
  obtain ⟨c, d⟩ := p
  simp only [pairD, D.eqv, D.eqvs, Bool.and_true]
  rw [Bool.eq_iff_iff]
  simp
  omega
theorem s_lnear {P : List Def} {i : Nat} (hf : P[i]? = some ⟨2, 4, bLNear⟩) (hg : i ≠ gIdx) : SLNear P i := by
  intro m h n ls a hm hw
  refine den_rt ⟨[some (.frz, lsD ls), some (.frz, .int a), none, none], h, []⟩ hf hg (by omega) rfl (by show 2 ≤ 4; omega) rfl ?_
  refine retE_of (fun _ h => by cases h) (ev_blt1 (r := (true, .lst (intL (nearL n ls a)))) (fun _ h => by cases h) (ev_compM (bs := [0]) ls pairD (fun p => (p.1 == a || p.2 == a)) (fun p => .int ((p.1 : Int) + p.2 - a)) (by simp [e_var, e_int, e_bl, e_non, e_str, e_bin, e_neg, e_not, e_cmp, e_cmp2, e_and, e_or, e_ite, e_tup, e_lst, e_dic0, e_ix, e_sl, e_rev, e_fld, e_there, e_call, e_web, e_blt, e_isi, e_mt, e_md, e_listIt, e_tupIt, e_val, o_nil, o_cons, ef_nil, ef_cons, eo_none, eo_some, ei_seq, ei_rng1, ei_rng2, ei_zip, ei_enum, r_nil, r_cons, x_nil, x_cons, x_set, x_setH, x_par, x_unp, x_setIx, x_ex, x_ite, x_ret, x_pass, x_brk, x_cont, sVar, sOp1, sOp2, plainB, plain1, plainB2, plain2, sNeg, sNot, sCmp2, sAnd, sOr, sIte, sTup, sLst, sItem, sSl, sCall, sBlt, sMt, sMd, sListIt, sTupIt, sIt1, sIt2, itSeq, itEnum, itZip, sRng1, sRng2, sOsNil, sOsCons, sEfNil, sEfCons, sEoNone, sEoSome, setSlot, setAll, xSet, xSetH, xPar, xUnp, setItem, xSetIx, xEx, xIte, xRet, xSeq, opd, Opd.get, Opd.arg, args, gets, slotsOf, optI, Z.at, Z.put, Z.wipe, Z.back, Z.freeze, keepF, bor, unbor, bindT, bindT.bindTs, binop, isin, isNon, cmpop, iop, nop, D.cmpo, deq, D.eqv, isInst, isInsts, seqOf, lenop, lstop, intop, absop, bltin1, int2, bltin2, bltin, ixop, fldop, thop, stop, mtop, mtop0, mtop1, extop, popop, D.ok, D.okd, lsD]) (lim_gt (Nat.le_trans (ls_len hw) (by omega))) (by simp [keepF, Z.at]) (fun p hp => ?_)) ?_)
  · have l2 := lim2
    have e1 : ((p.1 : Int) == (a : Int)) = (p.1 == a) := by rw [Bool.eq_iff_iff]; simp; omega
    have e2 : ((p.2 : Int) == (a : Int)) = (p.2 == a) := by rw [Bool.eq_iff_iff]; simp; omega
    simp [e_var, e_int, e_bl, e_non, e_str, e_bin, e_neg, e_not, e_cmp, e_cmp2, e_and, e_or, e_ite, e_tup, e_lst, e_dic0, e_ix, e_sl, e_rev, e_fld, e_there, e_call, e_web, e_blt, e_isi, e_mt, e_md, e_listIt, e_tupIt, e_val, o_nil, o_cons, ef_nil, ef_cons, eo_none, eo_some, ei_seq, ei_rng1, ei_rng2, ei_zip, ei_enum, r_nil, r_cons, x_nil, x_cons, x_set, x_setH, x_par, x_unp, x_setIx, x_ex, x_ite, x_ret, x_pass, x_brk, x_cont, sVar, sOp1, sOp2, plainB, plain1, plainB2, plain2, sNeg, sNot, sCmp2, sAnd, sOr, sIte, sTup, sLst, sItem, sSl, sCall, sBlt, sMt, sMd, sListIt, sTupIt, sIt1, sIt2, itSeq, itEnum, itZip, sRng1, sRng2, sOsNil, sOsCons, sEfNil, sEfCons, sEoNone, sEoSome, setSlot, setAll, xSet, xSetH, xPar, xUnp, setItem, xSetIx, xEx, xIte, xRet, xSeq, opd, Opd.get, Opd.arg, args, gets, slotsOf, optI, Z.at, Z.put, Z.wipe, Z.back, Z.freeze, keepF, bor, unbor, bindT, bindT.bindTs, binop, isin, isNon, cmpop, iop, nop, D.cmpo, deq, D.eqv, isInst, isInsts, seqOf, lenop, lstop, intop, absop, bltin1, int2, bltin2, bltin, ixop, fldop, thop, stop, mtop, mtop0, mtop1, extop, popop, D.ok, D.okd, pairD, l2, member, D.okds, e1, e2]
  · have e : ((ls.filter fun p => (p.1 == a || p.2 == a)).map fun p => D.int ((p.1 : Int) + p.2 - a)) = (otherL ls a).map D.int := by simp [otherL]
    simp [bltin, bltin1, lstop, e, dsort, intsD_map, near_sort hw, intL]
theorem s_lhas {P : List Def} {i : Nat} (hf : P[i]? = some ⟨3, 3, bLHas⟩) (hg : i ≠ gIdx) : SLHas P i := by
  intro m h n ls a b hm hw
  refine den_rt ⟨[some (.frz, lsD ls), some (.frz, .int a), some (.frz, .int b)], h, []⟩ hf hg (by omega) rfl (by show 3 ≤ 3; omega) rfl ?_
  have e1 : (min (a : Int) b) = ((min a b : Nat) : Int) := by omega
  have e2 : (max (a : Int) b) = ((max a b : Nat) : Int) := by omega
  have l2 := lim2
  have e3 : (ls.map pairD).any (fun y => D.eqv y (.tup [.int ((min a b : Nat) : Int), .int ((max a b : Nat) : Int)])) = adj ls a b := by
    rw [List.any_map]
    unfold adj
    rw [Bool.eq_iff_iff]
    simp [eqv_pair]
  have ok := okds_pairs 61 ls
  show execs _ bLHas _ = _
  unfold bLHas
  refine retE_of (z1 := ⟨[some (.frz, lsD ls), some (.frz, .int a), some (.frz, .int b)], h, []⟩) (fun _ h => by cases h) ?_
  simp [e_var, e_int, e_bl, e_non, e_str, e_bin, e_neg, e_not, e_cmp, e_cmp2, e_and, e_or, e_ite, e_tup, e_lst, e_dic0, e_ix, e_sl, e_rev, e_fld, e_there, e_call, e_web, e_blt, e_isi, e_mt, e_md, e_listIt, e_tupIt, e_val, o_nil, o_cons, ef_nil, ef_cons, eo_none, eo_some, ei_seq, ei_rng1, ei_rng2, ei_zip, ei_enum, r_nil, r_cons, x_nil, x_cons, x_set, x_setH, x_par, x_unp, x_setIx, x_ex, x_ite, x_ret, x_pass, x_brk, x_cont, sVar, sOp1, sOp2, plainB, plain1, plainB2, plain2, sNeg, sNot, sCmp2, sAnd, sOr, sIte, sTup, sLst, sItem, sSl, sCall, sBlt, sMt, sMd, sListIt, sTupIt, sIt1, sIt2, itSeq, itEnum, itZip, sRng1, sRng2, sOsNil, sOsCons, sEfNil, sEfCons, sEoNone, sEoSome, setSlot, setAll, xSet, xSetH, xPar, xUnp, setItem, xSetIx, xEx, xIte, xRet, xSeq, opd, Opd.get, Opd.arg, args, gets, slotsOf, optI, Z.at, Z.put, Z.wipe, Z.back, Z.freeze, keepF, bor, unbor, bindT, bindT.bindTs, binop, isin, isNon, cmpop, iop, nop, D.cmpo, deq, D.eqv, isInst, isInsts, seqOf, lenop, lstop, intop, absop, bltin1, int2, bltin2, bltin, ixop, fldop, thop, stop, mtop, mtop0, mtop1, extop, popop, D.ok, D.okd, e1, e2, l2, member, lsD, ok, e3, D.okds]
theorem s_lon {P : List Def} {i iN : Nat} (hf : P[i]? = some ⟨2, 4, bLOn iN⟩) (hg : i ≠ gIdx) (sN : SLNear P iN) : SLOn P i := by
  intro m h n ls c hm hw hc
  have hn := hw.n7
  refine den_rt ⟨[some (.frz, lsD ls), some (.frz, .lst (c.map .int)), none, none], h, []⟩ hf hg (by omega) rfl (by show 2 ≤ 4; omega) rfl ?_
  rw [stepF, List.map_map]
  refine retE_of (fun _ h => by cases h) (ev_mapM (bs := []) (List.range n) (fun i => .int (i : Nat)) _ (by simp [e_var, e_int, e_bl, e_non, e_str, e_bin, e_neg, e_not, e_cmp, e_cmp2, e_and, e_or, e_ite, e_tup, e_lst, e_dic0, e_ix, e_sl, e_rev, e_fld, e_there, e_call, e_web, e_blt, e_isi, e_mt, e_md, e_listIt, e_tupIt, e_val, o_nil, o_cons, ef_nil, ef_cons, eo_none, eo_some, ei_seq, ei_rng1, ei_rng2, ei_zip, ei_enum, r_nil, r_cons, x_nil, x_cons, x_set, x_setH, x_par, x_unp, x_setIx, x_ex, x_ite, x_ret, x_pass, x_brk, x_cont, sVar, sOp1, sOp2, plainB, plain1, plainB2, plain2, sNeg, sNot, sCmp2, sAnd, sOr, sIte, sTup, sLst, sItem, sSl, sCall, sBlt, sMt, sMd, sListIt, sTupIt, sIt1, sIt2, itSeq, itEnum, itZip, sRng1, sRng2, sOsNil, sOsCons, sEfNil, sEfCons, sEoNone, sEoSome, setSlot, setAll, xSet, xSetH, xPar, xUnp, setItem, xSetIx, xEx, xIte, xRet, xSeq, opd, Opd.get, Opd.arg, args, gets, slotsOf, optI, Z.at, Z.put, Z.wipe, Z.back, Z.freeze, keepF, bor, unbor, bindT, bindT.bindTs, binop, isin, isNon, cmpop, iop, nop, D.cmpo, deq, D.eqv, isInst, isInsts, seqOf, lenop, lstop, intop, absop, bltin1, int2, bltin2, bltin, ixop, fldop, thop, stop, mtop, mtop0, mtop1, extop, popop, D.ok, D.okd, rngL_nat, rngOk_nat (show n ≤ 1000 by omega), hc]) (by rw [List.length_range]; exact lim_gt (by omega)) (by simp [keepF, Z.at]) (fun a ha => ?_) (by simp [e_var, e_int, e_bl, e_non, e_str, e_bin, e_neg, e_not, e_cmp, e_cmp2, e_and, e_or, e_ite, e_tup, e_lst, e_dic0, e_ix, e_sl, e_rev, e_fld, e_there, e_call, e_web, e_blt, e_isi, e_mt, e_md, e_listIt, e_tupIt, e_val, o_nil, o_cons, ef_nil, ef_cons, eo_none, eo_some, ei_seq, ei_rng1, ei_rng2, ei_zip, ei_enum, r_nil, r_cons, x_nil, x_cons, x_set, x_setH, x_par, x_unp, x_setIx, x_ex, x_ite, x_ret, x_pass, x_brk, x_cont, sVar, sOp1, sOp2, plainB, plain1, plainB2, plain2, sNeg, sNot, sCmp2, sAnd, sOr, sIte, sTup, sLst, sItem, sSl, sCall, sBlt, sMt, sMd, sListIt, sTupIt, sIt1, sIt2, itSeq, itEnum, itZip, sRng1, sRng2, sOsNil, sOsCons, sEfNil, sEfCons, sEoNone, sEoSome, setSlot, setAll, xSet, xSetH, xPar, xUnp, setItem, xSetIx, xEx, xIte, xRet, xSeq, opd, Opd.get, Opd.arg, args, gets, slotsOf, optI, Z.at, Z.put, Z.wipe, Z.back, Z.freeze, keepF, bor, unbor, bindT, bindT.bindTs, binop, isin, isNon, cmpop, iop, nop, D.cmpo, deq, D.eqv, isInst, isInsts, seqOf, lenop, lstop, intop, absop, bltin1, int2, bltin2, bltin, ixop, fldop, thop, stop, mtop, mtop0, mtop1, extop, popop, D.ok, D.okd]))
  refine ⟨⟨[some (.frz, lsD ls), some (.frz, .lst (c.map .int)), some (.frz, .int a), none], h, []⟩, _, _, by simp [e_var, e_int, e_bl, e_non, e_str, e_bin, e_neg, e_not, e_cmp, e_cmp2, e_and, e_or, e_ite, e_tup, e_lst, e_dic0, e_ix, e_sl, e_rev, e_fld, e_there, e_call, e_web, e_blt, e_isi, e_mt, e_md, e_listIt, e_tupIt, e_val, o_nil, o_cons, ef_nil, ef_cons, eo_none, eo_some, ei_seq, ei_rng1, ei_rng2, ei_zip, ei_enum, r_nil, r_cons, x_nil, x_cons, x_set, x_setH, x_par, x_unp, x_setIx, x_ex, x_ite, x_ret, x_pass, x_brk, x_cont, sVar, sOp1, sOp2, plainB, plain1, plainB2, plain2, sNeg, sNot, sCmp2, sAnd, sOr, sIte, sTup, sLst, sItem, sSl, sCall, sBlt, sMt, sMd, sListIt, sTupIt, sIt1, sIt2, itSeq, itEnum, itZip, sRng1, sRng2, sOsNil, sOsCons, sEfNil, sEfCons, sEoNone, sEoSome, setSlot, setAll, xSet, xSetH, xPar, xUnp, setItem, xSetIx, xEx, xIte, xRet, xSeq, opd, Opd.get, Opd.arg, args, gets, slotsOf, optI, Z.at, Z.put, Z.wipe, Z.back, Z.freeze, keepF, bor, unbor, bindT, bindT.bindTs, binop, isin, isNon, cmpop, iop, nop, D.cmpo, deq, D.eqv, isInst, isInsts, seqOf, lenop, lstop, intop, absop, bltin1, int2, bltin2, bltin, ixop, fldop, thop, stop, mtop, mtop0, mtop1, extop, popop, D.ok, D.okd], ev_blt1 (fun _ h => by cases h) (ev_mapM (bs := []) (nearL n ls a) (fun i => .int (i : Nat)) (fun b => .int (c.getD b 0)) (by simp [e_var, e_int, e_bl, e_non, e_str, e_bin, e_neg, e_not, e_cmp, e_cmp2, e_and, e_or, e_ite, e_tup, e_lst, e_dic0, e_ix, e_sl, e_rev, e_fld, e_there, e_call, e_web, e_blt, e_isi, e_mt, e_md, e_listIt, e_tupIt, e_val, o_nil, o_cons, ef_nil, ef_cons, eo_none, eo_some, ei_seq, ei_rng1, ei_rng2, ei_zip, ei_enum, r_nil, r_cons, x_nil, x_cons, x_set, x_setH, x_par, x_unp, x_setIx, x_ex, x_ite, x_ret, x_pass, x_brk, x_cont, sVar, sOp1, sOp2, plainB, plain1, plainB2, plain2, sNeg, sNot, sCmp2, sAnd, sOr, sIte, sTup, sLst, sItem, sSl, sCall, sBlt, sMt, sMd, sListIt, sTupIt, sIt1, sIt2, itSeq, itEnum, itZip, sRng1, sRng2, sOsNil, sOsCons, sEfNil, sEfCons, sEoNone, sEoSome, setSlot, setAll, xSet, xSetH, xPar, xUnp, setItem, xSetIx, xEx, xIte, xRet, xSeq, opd, Opd.get, Opd.arg, args, gets, slotsOf, optI, Z.at, Z.put, Z.wipe, Z.back, Z.freeze, keepF, bor, unbor, bindT, bindT.bindTs, binop, isin, isNon, cmpop, iop, nop, D.cmpo, deq, D.eqv, isInst, isInsts, seqOf, lenop, lstop, intop, absop, bltin1, int2, bltin2, bltin, ixop, fldop, thop, stop, mtop, mtop0, mtop1, extop, popop, D.ok, D.okd, sN (m - 1) h n ls a (by omega) hw, intL]) (lim_gt (Nat.le_trans len_nearL (by omega))) (by simp [keepF, Z.at]) (fun b hb => ?_) (by simp [e_var, e_int, e_bl, e_non, e_str, e_bin, e_neg, e_not, e_cmp, e_cmp2, e_and, e_or, e_ite, e_tup, e_lst, e_dic0, e_ix, e_sl, e_rev, e_fld, e_there, e_call, e_web, e_blt, e_isi, e_mt, e_md, e_listIt, e_tupIt, e_val, o_nil, o_cons, ef_nil, ef_cons, eo_none, eo_some, ei_seq, ei_rng1, ei_rng2, ei_zip, ei_enum, r_nil, r_cons, x_nil, x_cons, x_set, x_setH, x_par, x_unp, x_setIx, x_ex, x_ite, x_ret, x_pass, x_brk, x_cont, sVar, sOp1, sOp2, plainB, plain1, plainB2, plain2, sNeg, sNot, sCmp2, sAnd, sOr, sIte, sTup, sLst, sItem, sSl, sCall, sBlt, sMt, sMd, sListIt, sTupIt, sIt1, sIt2, itSeq, itEnum, itZip, sRng1, sRng2, sOsNil, sOsCons, sEfNil, sEfCons, sEoNone, sEoSome, setSlot, setAll, xSet, xSetH, xPar, xUnp, setItem, xSetIx, xEx, xIte, xRet, xSeq, opd, Opd.get, Opd.arg, args, gets, slotsOf, optI, Z.at, Z.put, Z.wipe, Z.back, Z.freeze, keepF, bor, unbor, bindT, bindT.bindTs, binop, isin, isNon, cmpop, iop, nop, D.cmpo, deq, D.eqv, isInst, isInsts, seqOf, lenop, lstop, intop, absop, bltin1, int2, bltin2, bltin, ixop, fldop, thop, stop, mtop, mtop0, mtop1, extop, popop, D.ok, D.okd])) (sum_map _ _), by simp [e_var, e_int, e_bl, e_non, e_str, e_bin, e_neg, e_not, e_cmp, e_cmp2, e_and, e_or, e_ite, e_tup, e_lst, e_dic0, e_ix, e_sl, e_rev, e_fld, e_there, e_call, e_web, e_blt, e_isi, e_mt, e_md, e_listIt, e_tupIt, e_val, o_nil, o_cons, ef_nil, ef_cons, eo_none, eo_some, ei_seq, ei_rng1, ei_rng2, ei_zip, ei_enum, r_nil, r_cons, x_nil, x_cons, x_set, x_setH, x_par, x_unp, x_setIx, x_ex, x_ite, x_ret, x_pass, x_brk, x_cont, sVar, sOp1, sOp2, plainB, plain1, plainB2, plain2, sNeg, sNot, sCmp2, sAnd, sOr, sIte, sTup, sLst, sItem, sSl, sCall, sBlt, sMt, sMd, sListIt, sTupIt, sIt1, sIt2, itSeq, itEnum, itZip, sRng1, sRng2, sOsNil, sOsCons, sEfNil, sEfCons, sEoNone, sEoSome, setSlot, setAll, xSet, xSetH, xPar, xUnp, setItem, xSetIx, xEx, xIte, xRet, xSeq, opd, Opd.get, Opd.arg, args, gets, slotsOf, optI, Z.at, Z.put, Z.wipe, Z.back, Z.freeze, keepF, bor, unbor, bindT, bindT.bindTs, binop, isin, isNon, cmpop, iop, nop, D.cmpo, deq, D.eqv, isInst, isInsts, seqOf, lenop, lstop, intop, absop, bltin1, int2, bltin2, bltin, ixop, fldop, thop, stop, mtop, mtop0, mtop1, extop, popop, D.ok, D.okd]⟩
  have hb := mem_nearL.mp hb
  have e := atI_mapN c .int b (by omega)
  simp [e_var, e_int, e_bl, e_non, e_str, e_bin, e_neg, e_not, e_cmp, e_cmp2, e_and, e_or, e_ite, e_tup, e_lst, e_dic0, e_ix, e_sl, e_rev, e_fld, e_there, e_call, e_web, e_blt, e_isi, e_mt, e_md, e_listIt, e_tupIt, e_val, o_nil, o_cons, ef_nil, ef_cons, eo_none, eo_some, ei_seq, ei_rng1, ei_rng2, ei_zip, ei_enum, r_nil, r_cons, x_nil, x_cons, x_set, x_setH, x_par, x_unp, x_setIx, x_ex, x_ite, x_ret, x_pass, x_brk, x_cont, sVar, sOp1, sOp2, plainB, plain1, plainB2, plain2, sNeg, sNot, sCmp2, sAnd, sOr, sIte, sTup, sLst, sItem, sSl, sCall, sBlt, sMt, sMd, sListIt, sTupIt, sIt1, sIt2, itSeq, itEnum, itZip, sRng1, sRng2, sOsNil, sOsCons, sEfNil, sEfCons, sEoNone, sEoSome, setSlot, setAll, xSet, xSetH, xPar, xUnp, setItem, xSetIx, xEx, xIte, xRet, xSeq, opd, Opd.get, Opd.arg, args, gets, slotsOf, optI, Z.at, Z.put, Z.wipe, Z.back, Z.freeze, keepF, bor, unbor, bindT, bindT.bindTs, binop, isin, isNon, cmpop, iop, nop, D.cmpo, deq, D.eqv, isInst, isInsts, seqOf, lenop, lstop, intop, absop, bltin1, int2, bltin2, bltin, ixop, fldop, thop, stop, mtop, mtop0, mtop1, extop, popop, D.ok, D.okd, e, List.getElem?_eq_getElem (show b < c.length by omega)]
end BV

/-! Walks. -/
namespace BV
open PySem (Str)
/-- the walks from a corner -/
def walkF (n : Nat) (ls : List (Nat × Nat)) (a : Nat) : Nat → List Int
  | 0 => (List.range n).map fun b => if b = a then 1 else 0
  | k + 1 => stepF n ls (walkF n ls a k)
theorem walkF_len {n : Nat} {ls : List (Nat × Nat)} {a k : Nat} : (walkF n ls a k).length = n := by
  cases k <;> simp [walkF, stepF]
def bWalksFrom (iS : Nat) : Ss := (.cons (.set 3 false (.comp (.blt .int (.cons (.cmp .eq (.var 5) (.var 1)) .nil)) (.nm 5) (.rng1 (.fld (.var 0) .corners)) (.bl true) [5])) (.cons (.for (.nm 4) (.rng1 (.var 2)) (.cons (.set 3 false (.call iS (.cons (.var 0) (.cons (.var 3) .nil)))) .nil)) (.cons (.ret (.var 3)) .nil)))
def bWalks (iK iN iF : Nat) : Ss := (.cons (.ex (.call iK (.cons (.var 0) (.cons (.var 1) .nil)))) (.cons (.ex (.call iK (.cons (.var 0) (.cons (.var 2) .nil)))) (.cons (.ex (.call iN (.cons (.var 3) (.cons (.int 0) (.cons (.int 60) .nil))))) (.cons (.ret (.ix (.call iF (.cons (.var 0) (.cons (.var 1) (.cons (.var 3) .nil)))) (.var 2))) .nil))))
def bClosed (iN iF : Nat) : Ss := (.cons (.ex (.call iN (.cons (.var 1) (.cons (.int 0) (.cons (.int 60) .nil))))) (.cons (.ret (.blt .sum (.cons (.comp (.ix (.call iF (.cons (.var 0) (.cons (.var 2) (.cons (.var 1) .nil)))) (.var 2)) (.nm 2) (.rng1 (.fld (.var 0) .corners)) (.bl true) [2]) .nil))) .nil))
def SWalksFrom (P : List Def) (i : Nat) : Prop := ∀ m h n ls (a k : Nat), 15 ≤ m → n ≤ 7 → k ≤ 60 → den P m i [(false, .web n ls), (false, .int a), (false, .int k)] h = some (h, false, .lst ((walkF n ls a k).map .int))
def SWalks (P : List Def) (i : Nat) : Prop := ∀ m h n ls (a b k : Nat), 16 ≤ m → n ≤ 7 → k ≤ 60 → a < n → b < n → den P m i [(false, .web n ls), (false, .int a), (false, .int b), (false, .int k)] h = some (h, false, .int ((walkF n ls a k).getD b 0))
def SClosed (P : List Def) (i : Nat) : Prop := ∀ m h n ls (k : Nat), 16 ≤ m → n ≤ 7 → k ≤ 60 → den P m i [(false, .web n ls), (false, .int k)] h = some (h, false, .int ((List.range n).map fun a => (walkF n ls a k).getD a 0).sum)
theorem s_walksFrom {P : List Def} {i iS : Nat} (hf : P[i]? = some ⟨3, 6, bWalksFrom iS⟩) (hg : i ≠ gIdx) (sS : SSteps P iS) : SWalksFrom P i := by
  intro m h n ls a k hm hn hk
  refine den_rt ⟨[some (.frz, .web n ls), some (.frz, .int a), some (.frz, .int k), none, none, none], h, []⟩ hf hg (by omega) rfl (by show 3 ≤ 6; omega) rfl ?_
  refine xs_nx (z1 := ⟨[some (.frz, .web n ls), some (.frz, .int a), some (.frz, .int k), some (.frz, .lst ((walkF n ls a 0).map .int)), none, none], h, []⟩) (ex_set (z1 := ⟨[some (.frz, .web n ls), some (.frz, .int a), some (.frz, .int k), none, none, none], h, []⟩) (o := true) (d := .lst ((walkF n ls a 0).map .int)) ?_ (by simp)) ?_
  · rw [walkF, List.map_map]
    refine ev_mapM (bs := []) (List.range n) (fun i => .int (i : Nat)) _ (by simp [e_var, e_int, e_bl, e_non, e_str, e_bin, e_neg, e_not, e_cmp, e_cmp2, e_and, e_or, e_ite, e_tup, e_lst, e_dic0, e_ix, e_sl, e_rev, e_fld, e_there, e_call, e_web, e_blt, e_isi, e_mt, e_md, e_listIt, e_tupIt, e_val, o_nil, o_cons, ef_nil, ef_cons, eo_none, eo_some, ei_seq, ei_rng1, ei_rng2, ei_zip, ei_enum, r_nil, r_cons, x_nil, x_cons, x_set, x_setH, x_par, x_unp, x_setIx, x_ex, x_ite, x_ret, x_pass, x_brk, x_cont, sVar, sOp1, sOp2, plainB, plain1, plainB2, plain2, sNeg, sNot, sCmp2, sAnd, sOr, sIte, sTup, sLst, sItem, sSl, sCall, sBlt, sMt, sMd, sListIt, sTupIt, sIt1, sIt2, itSeq, itEnum, itZip, sRng1, sRng2, sOsNil, sOsCons, sEfNil, sEfCons, sEoNone, sEoSome, setSlot, setAll, xSet, xSetH, xPar, xUnp, setItem, xSetIx, xEx, xIte, xRet, xSeq, opd, Opd.get, Opd.arg, args, gets, slotsOf, optI, Z.at, Z.put, Z.wipe, Z.back, Z.freeze, keepF, bor, unbor, bindT, bindT.bindTs, binop, isin, isNon, cmpop, iop, nop, D.cmpo, deq, D.eqv, isInst, isInsts, seqOf, lenop, lstop, intop, absop, bltin1, int2, bltin2, bltin, ixop, fldop, thop, stop, mtop, mtop0, mtop1, extop, popop, D.ok, D.okd, rngL_nat, rngOk_nat (show n ≤ 1000 by omega)]) (by rw [List.length_range]; exact lim_gt (by omega)) (by simp [keepF, Z.at]) (fun b hb => ?_) (by simp [e_var, e_int, e_bl, e_non, e_str, e_bin, e_neg, e_not, e_cmp, e_cmp2, e_and, e_or, e_ite, e_tup, e_lst, e_dic0, e_ix, e_sl, e_rev, e_fld, e_there, e_call, e_web, e_blt, e_isi, e_mt, e_md, e_listIt, e_tupIt, e_val, o_nil, o_cons, ef_nil, ef_cons, eo_none, eo_some, ei_seq, ei_rng1, ei_rng2, ei_zip, ei_enum, r_nil, r_cons, x_nil, x_cons, x_set, x_setH, x_par, x_unp, x_setIx, x_ex, x_ite, x_ret, x_pass, x_brk, x_cont, sVar, sOp1, sOp2, plainB, plain1, plainB2, plain2, sNeg, sNot, sCmp2, sAnd, sOr, sIte, sTup, sLst, sItem, sSl, sCall, sBlt, sMt, sMd, sListIt, sTupIt, sIt1, sIt2, itSeq, itEnum, itZip, sRng1, sRng2, sOsNil, sOsCons, sEfNil, sEfCons, sEoNone, sEoSome, setSlot, setAll, xSet, xSetH, xPar, xUnp, setItem, xSetIx, xEx, xIte, xRet, xSeq, opd, Opd.get, Opd.arg, args, gets, slotsOf, optI, Z.at, Z.put, Z.wipe, Z.back, Z.freeze, keepF, bor, unbor, bindT, bindT.bindTs, binop, isin, isNon, cmpop, iop, nop, D.cmpo, deq, D.eqv, isInst, isInsts, seqOf, lenop, lstop, intop, absop, bltin1, int2, bltin2, bltin, ixop, fldop, thop, stop, mtop, mtop0, mtop1, extop, popop, D.ok, D.okd])
    by_cases e : b = a
    · simp [e_var, e_int, e_bl, e_non, e_str, e_bin, e_neg, e_not, e_cmp, e_cmp2, e_and, e_or, e_ite, e_tup, e_lst, e_dic0, e_ix, e_sl, e_rev, e_fld, e_there, e_call, e_web, e_blt, e_isi, e_mt, e_md, e_listIt, e_tupIt, e_val, o_nil, o_cons, ef_nil, ef_cons, eo_none, eo_some, ei_seq, ei_rng1, ei_rng2, ei_zip, ei_enum, r_nil, r_cons, x_nil, x_cons, x_set, x_setH, x_par, x_unp, x_setIx, x_ex, x_ite, x_ret, x_pass, x_brk, x_cont, sVar, sOp1, sOp2, plainB, plain1, plainB2, plain2, sNeg, sNot, sCmp2, sAnd, sOr, sIte, sTup, sLst, sItem, sSl, sCall, sBlt, sMt, sMd, sListIt, sTupIt, sIt1, sIt2, itSeq, itEnum, itZip, sRng1, sRng2, sOsNil, sOsCons, sEfNil, sEfCons, sEoNone, sEoSome, setSlot, setAll, xSet, xSetH, xPar, xUnp, setItem, xSetIx, xEx, xIte, xRet, xSeq, opd, Opd.get, Opd.arg, args, gets, slotsOf, optI, Z.at, Z.put, Z.wipe, Z.back, Z.freeze, keepF, bor, unbor, bindT, bindT.bindTs, binop, isin, isNon, cmpop, iop, nop, D.cmpo, deq, D.eqv, isInst, isInsts, seqOf, lenop, lstop, intop, absop, bltin1, int2, bltin2, bltin, ixop, fldop, thop, stop, mtop, mtop0, mtop1, extop, popop, D.ok, D.okd, e]
    · have e2 : ¬ (b : Int) = a := by omega
      simp [e_var, e_int, e_bl, e_non, e_str, e_bin, e_neg, e_not, e_cmp, e_cmp2, e_and, e_or, e_ite, e_tup, e_lst, e_dic0, e_ix, e_sl, e_rev, e_fld, e_there, e_call, e_web, e_blt, e_isi, e_mt, e_md, e_listIt, e_tupIt, e_val, o_nil, o_cons, ef_nil, ef_cons, eo_none, eo_some, ei_seq, ei_rng1, ei_rng2, ei_zip, ei_enum, r_nil, r_cons, x_nil, x_cons, x_set, x_setH, x_par, x_unp, x_setIx, x_ex, x_ite, x_ret, x_pass, x_brk, x_cont, sVar, sOp1, sOp2, plainB, plain1, plainB2, plain2, sNeg, sNot, sCmp2, sAnd, sOr, sIte, sTup, sLst, sItem, sSl, sCall, sBlt, sMt, sMd, sListIt, sTupIt, sIt1, sIt2, itSeq, itEnum, itZip, sRng1, sRng2, sOsNil, sOsCons, sEfNil, sEfCons, sEoNone, sEoSome, setSlot, setAll, xSet, xSetH, xPar, xUnp, setItem, xSetIx, xEx, xIte, xRet, xSeq, opd, Opd.get, Opd.arg, args, gets, slotsOf, optI, Z.at, Z.put, Z.wipe, Z.back, Z.freeze, keepF, bor, unbor, bindT, bindT.bindTs, binop, isin, isNon, cmpop, iop, nop, D.cmpo, deq, D.eqv, isInst, isInsts, seqOf, lenop, lstop, intop, absop, bltin1, int2, bltin2, bltin, ixop, fldop, thop, stop, mtop, mtop0, mtop1, extop, popop, D.ok, D.okd, e, e2]
  · obtain ⟨z', e, hi⟩ := ex_forN (F := den P (m - 1)) (g := .nm 4) (it := .rng1 (.var 2)) (body := (.cons (.set 3 false (.call iS (.cons (.var 0) (.cons (.var 3) .nil)))) .nil)) (z := ⟨[some (.frz, .web n ls), some (.frz, .int a), some (.frz, .int k), some (.frz, .lst ((walkF n ls a 0).map .int)), none, none], h, []⟩) (z1 := ⟨[some (.frz, .web n ls), some (.frz, .int a), some (.frz, .int k), some (.frz, .lst ((walkF n ls a 0).map .int)), none, none], h, []⟩) (bs := [])
      (List.range k) (fun i => .int (i : Nat)) (fun j z => ∃ u, z = ⟨[some (.frz, .web n ls), some (.frz, .int a), some (.frz, .int k), some (.frz, .lst ((walkF n ls a j).map .int)), u, none], h, []⟩)
      (by simp [e_var, e_int, e_bl, e_non, e_str, e_bin, e_neg, e_not, e_cmp, e_cmp2, e_and, e_or, e_ite, e_tup, e_lst, e_dic0, e_ix, e_sl, e_rev, e_fld, e_there, e_call, e_web, e_blt, e_isi, e_mt, e_md, e_listIt, e_tupIt, e_val, o_nil, o_cons, ef_nil, ef_cons, eo_none, eo_some, ei_seq, ei_rng1, ei_rng2, ei_zip, ei_enum, r_nil, r_cons, x_nil, x_cons, x_set, x_setH, x_par, x_unp, x_setIx, x_ex, x_ite, x_ret, x_pass, x_brk, x_cont, sVar, sOp1, sOp2, plainB, plain1, plainB2, plain2, sNeg, sNot, sCmp2, sAnd, sOr, sIte, sTup, sLst, sItem, sSl, sCall, sBlt, sMt, sMd, sListIt, sTupIt, sIt1, sIt2, itSeq, itEnum, itZip, sRng1, sRng2, sOsNil, sOsCons, sEfNil, sEfCons, sEoNone, sEoSome, setSlot, setAll, xSet, xSetH, xPar, xUnp, setItem, xSetIx, xEx, xIte, xRet, xSeq, opd, Opd.get, Opd.arg, args, gets, slotsOf, optI, Z.at, Z.put, Z.wipe, Z.back, Z.freeze, keepF, bor, unbor, bindT, bindT.bindTs, binop, isin, isNon, cmpop, iop, nop, D.cmpo, deq, D.eqv, isInst, isInsts, seqOf, lenop, lstop, intop, absop, bltin1, int2, bltin2, bltin, ixop, fldop, thop, stop, mtop, mtop0, mtop1, extop, popop, D.ok, D.okd, rngL_nat, rngOk_nat (show k ≤ 1000 by omega)]) ⟨none, rfl⟩ (by
        rintro j x z hx ⟨u, rfl⟩
        have e := sS (m - 1) h n ls (walkF n ls a j) (by omega) hn walkF_len
        exact ⟨_, _, rfl, by simp [e_var, e_int, e_bl, e_non, e_str, e_bin, e_neg, e_not, e_cmp, e_cmp2, e_and, e_or, e_ite, e_tup, e_lst, e_dic0, e_ix, e_sl, e_rev, e_fld, e_there, e_call, e_web, e_blt, e_isi, e_mt, e_md, e_listIt, e_tupIt, e_val, o_nil, o_cons, ef_nil, ef_cons, eo_none, eo_some, ei_seq, ei_rng1, ei_rng2, ei_zip, ei_enum, r_nil, r_cons, x_nil, x_cons, x_set, x_setH, x_par, x_unp, x_setIx, x_ex, x_ite, x_ret, x_pass, x_brk, x_cont, sVar, sOp1, sOp2, plainB, plain1, plainB2, plain2, sNeg, sNot, sCmp2, sAnd, sOr, sIte, sTup, sLst, sItem, sSl, sCall, sBlt, sMt, sMd, sListIt, sTupIt, sIt1, sIt2, itSeq, itEnum, itZip, sRng1, sRng2, sOsNil, sOsCons, sEfNil, sEfCons, sEoNone, sEoSome, setSlot, setAll, xSet, xSetH, xPar, xUnp, setItem, xSetIx, xEx, xIte, xRet, xSeq, opd, Opd.get, Opd.arg, args, gets, slotsOf, optI, Z.at, Z.put, Z.wipe, Z.back, Z.freeze, keepF, bor, unbor, bindT, bindT.bindTs, binop, isin, isNon, cmpop, iop, nop, D.cmpo, deq, D.eqv, isInst, isInsts, seqOf, lenop, lstop, intop, absop, bltin1, int2, bltin2, bltin, ixop, fldop, thop, stop, mtop, mtop0, mtop1, extop, popop, D.ok, D.okd, e]; rfl, _, by simp [walkF]; rfl⟩)
    rw [List.length_range] at hi
    obtain ⟨u, rfl⟩ := hi
    refine xs_nx e ?_
    simp [e_var, e_int, e_bl, e_non, e_str, e_bin, e_neg, e_not, e_cmp, e_cmp2, e_and, e_or, e_ite, e_tup, e_lst, e_dic0, e_ix, e_sl, e_rev, e_fld, e_there, e_call, e_web, e_blt, e_isi, e_mt, e_md, e_listIt, e_tupIt, e_val, o_nil, o_cons, ef_nil, ef_cons, eo_none, eo_some, ei_seq, ei_rng1, ei_rng2, ei_zip, ei_enum, r_nil, r_cons, x_nil, x_cons, x_set, x_setH, x_par, x_unp, x_setIx, x_ex, x_ite, x_ret, x_pass, x_brk, x_cont, sVar, sOp1, sOp2, plainB, plain1, plainB2, plain2, sNeg, sNot, sCmp2, sAnd, sOr, sIte, sTup, sLst, sItem, sSl, sCall, sBlt, sMt, sMd, sListIt, sTupIt, sIt1, sIt2, itSeq, itEnum, itZip, sRng1, sRng2, sOsNil, sOsCons, sEfNil, sEfCons, sEoNone, sEoSome, setSlot, setAll, xSet, xSetH, xPar, xUnp, setItem, xSetIx, xEx, xIte, xRet, xSeq, opd, Opd.get, Opd.arg, args, gets, slotsOf, optI, Z.at, Z.put, Z.wipe, Z.back, Z.freeze, keepF, bor, unbor, bindT, bindT.bindTs, binop, isin, isNon, cmpop, iop, nop, D.cmpo, deq, D.eqv, isInst, isInsts, seqOf, lenop, lstop, intop, absop, bltin1, int2, bltin2, bltin, ixop, fldop, thop, stop, mtop, mtop0, mtop1, extop, popop, D.ok, D.okd]
theorem s_walks {P : List Def} {i iK iN iF : Nat} (hf : P[i]? = some ⟨4, 4, bWalks iK iN iF⟩) (hg : i ≠ gIdx) (sK : SChkCorner P iK) (sN : SChkNumber P iN) (sF : SWalksFrom P iF) : SWalks P i := by
  intro m h n ls a b k hm hn hk ha hb
  refine den_rt ⟨[some (.frz, .web n ls), some (.frz, .int a), some (.frz, .int b), some (.frz, .int k)], h, []⟩ hf hg (by omega) rfl (by show 4 ≤ 4; omega) rfl ?_
  have e1 := sK (m - 1) h n ls a (by omega) ha
  have e2 := sK (m - 1) h n ls b (by omega) hb
  have e3 := sN (m - 1) h k 0 60 (by omega) (by omega) (by omega) (by omega)
  have e4 := sF (m - 1) h n ls a k (by omega) hn hk
  have hl : b < (walkF n ls a k).length := by rw [walkF_len]; exact hb
  have e5 := atI_mapN (walkF n ls a k) .int b hl
  simp [bWalks, e_var, e_int, e_bl, e_non, e_str, e_bin, e_neg, e_not, e_cmp, e_cmp2, e_and, e_or, e_ite, e_tup, e_lst, e_dic0, e_ix, e_sl, e_rev, e_fld, e_there, e_call, e_web, e_blt, e_isi, e_mt, e_md, e_listIt, e_tupIt, e_val, o_nil, o_cons, ef_nil, ef_cons, eo_none, eo_some, ei_seq, ei_rng1, ei_rng2, ei_zip, ei_enum, r_nil, r_cons, x_nil, x_cons, x_set, x_setH, x_par, x_unp, x_setIx, x_ex, x_ite, x_ret, x_pass, x_brk, x_cont, sVar, sOp1, sOp2, plainB, plain1, plainB2, plain2, sNeg, sNot, sCmp2, sAnd, sOr, sIte, sTup, sLst, sItem, sSl, sCall, sBlt, sMt, sMd, sListIt, sTupIt, sIt1, sIt2, itSeq, itEnum, itZip, sRng1, sRng2, sOsNil, sOsCons, sEfNil, sEfCons, sEoNone, sEoSome, setSlot, setAll, xSet, xSetH, xPar, xUnp, setItem, xSetIx, xEx, xIte, xRet, xSeq, opd, Opd.get, Opd.arg, args, gets, slotsOf, optI, Z.at, Z.put, Z.wipe, Z.back, Z.freeze, keepF, bor, unbor, bindT, bindT.bindTs, binop, isin, isNon, cmpop, iop, nop, D.cmpo, deq, D.eqv, isInst, isInsts, seqOf, lenop, lstop, intop, absop, bltin1, int2, bltin2, bltin, ixop, fldop, thop, stop, mtop, mtop0, mtop1, extop, popop, D.ok, D.okd, e1, e2, e3, e4, e5, List.getElem?_eq_getElem hl]
theorem s_closed {P : List Def} {i iN iF : Nat} (hf : P[i]? = some ⟨2, 3, bClosed iN iF⟩) (hg : i ≠ gIdx) (sN : SChkNumber P iN) (sF : SWalksFrom P iF) : SClosed P i := by
  intro m h n ls k hm hn hk
  refine den_rt ⟨[some (.frz, .web n ls), some (.frz, .int k), none], h, []⟩ hf hg (by omega) rfl (by show 2 ≤ 3; omega) rfl ?_
  have e3 := sN (m - 1) h k 0 60 (by omega) (by omega) (by omega) (by omega)
  refine xs_nx (z1 := ⟨[some (.frz, .web n ls), some (.frz, .int k), none], h, []⟩) (by simp [e_var, e_int, e_bl, e_non, e_str, e_bin, e_neg, e_not, e_cmp, e_cmp2, e_and, e_or, e_ite, e_tup, e_lst, e_dic0, e_ix, e_sl, e_rev, e_fld, e_there, e_call, e_web, e_blt, e_isi, e_mt, e_md, e_listIt, e_tupIt, e_val, o_nil, o_cons, ef_nil, ef_cons, eo_none, eo_some, ei_seq, ei_rng1, ei_rng2, ei_zip, ei_enum, r_nil, r_cons, x_nil, x_cons, x_set, x_setH, x_par, x_unp, x_setIx, x_ex, x_ite, x_ret, x_pass, x_brk, x_cont, sVar, sOp1, sOp2, plainB, plain1, plainB2, plain2, sNeg, sNot, sCmp2, sAnd, sOr, sIte, sTup, sLst, sItem, sSl, sCall, sBlt, sMt, sMd, sListIt, sTupIt, sIt1, sIt2, itSeq, itEnum, itZip, sRng1, sRng2, sOsNil, sOsCons, sEfNil, sEfCons, sEoNone, sEoSome, setSlot, setAll, xSet, xSetH, xPar, xUnp, setItem, xSetIx, xEx, xIte, xRet, xSeq, opd, Opd.get, Opd.arg, args, gets, slotsOf, optI, Z.at, Z.put, Z.wipe, Z.back, Z.freeze, keepF, bor, unbor, bindT, bindT.bindTs, binop, isin, isNon, cmpop, iop, nop, D.cmpo, deq, D.eqv, isInst, isInsts, seqOf, lenop, lstop, intop, absop, bltin1, int2, bltin2, bltin, ixop, fldop, thop, stop, mtop, mtop0, mtop1, extop, popop, D.ok, D.okd, e3]) ?_
  refine retE_of (fun _ h => by cases h) (ev_blt1 (fun _ h => by cases h) (ev_mapM (bs := []) (List.range n) (fun i => .int (i : Nat)) (fun a => .int ((walkF n ls a k).getD a 0)) (by simp [e_var, e_int, e_bl, e_non, e_str, e_bin, e_neg, e_not, e_cmp, e_cmp2, e_and, e_or, e_ite, e_tup, e_lst, e_dic0, e_ix, e_sl, e_rev, e_fld, e_there, e_call, e_web, e_blt, e_isi, e_mt, e_md, e_listIt, e_tupIt, e_val, o_nil, o_cons, ef_nil, ef_cons, eo_none, eo_some, ei_seq, ei_rng1, ei_rng2, ei_zip, ei_enum, r_nil, r_cons, x_nil, x_cons, x_set, x_setH, x_par, x_unp, x_setIx, x_ex, x_ite, x_ret, x_pass, x_brk, x_cont, sVar, sOp1, sOp2, plainB, plain1, plainB2, plain2, sNeg, sNot, sCmp2, sAnd, sOr, sIte, sTup, sLst, sItem, sSl, sCall, sBlt, sMt, sMd, sListIt, sTupIt, sIt1, sIt2, itSeq, itEnum, itZip, sRng1, sRng2, sOsNil, sOsCons, sEfNil, sEfCons, sEoNone, sEoSome, setSlot, setAll, xSet, xSetH, xPar, xUnp, setItem, xSetIx, xEx, xIte, xRet, xSeq, opd, Opd.get, Opd.arg, args, gets, slotsOf, optI, Z.at, Z.put, Z.wipe, Z.back, Z.freeze, keepF, bor, unbor, bindT, bindT.bindTs, binop, isin, isNon, cmpop, iop, nop, D.cmpo, deq, D.eqv, isInst, isInsts, seqOf, lenop, lstop, intop, absop, bltin1, int2, bltin2, bltin, ixop, fldop, thop, stop, mtop, mtop0, mtop1, extop, popop, D.ok, D.okd, rngL_nat, rngOk_nat (show n ≤ 1000 by omega)]) (by rw [List.length_range]; exact lim_gt (by omega)) (by simp [keepF, Z.at]) (fun a ha => ?_) (by simp [e_var, e_int, e_bl, e_non, e_str, e_bin, e_neg, e_not, e_cmp, e_cmp2, e_and, e_or, e_ite, e_tup, e_lst, e_dic0, e_ix, e_sl, e_rev, e_fld, e_there, e_call, e_web, e_blt, e_isi, e_mt, e_md, e_listIt, e_tupIt, e_val, o_nil, o_cons, ef_nil, ef_cons, eo_none, eo_some, ei_seq, ei_rng1, ei_rng2, ei_zip, ei_enum, r_nil, r_cons, x_nil, x_cons, x_set, x_setH, x_par, x_unp, x_setIx, x_ex, x_ite, x_ret, x_pass, x_brk, x_cont, sVar, sOp1, sOp2, plainB, plain1, plainB2, plain2, sNeg, sNot, sCmp2, sAnd, sOr, sIte, sTup, sLst, sItem, sSl, sCall, sBlt, sMt, sMd, sListIt, sTupIt, sIt1, sIt2, itSeq, itEnum, itZip, sRng1, sRng2, sOsNil, sOsCons, sEfNil, sEfCons, sEoNone, sEoSome, setSlot, setAll, xSet, xSetH, xPar, xUnp, setItem, xSetIx, xEx, xIte, xRet, xSeq, opd, Opd.get, Opd.arg, args, gets, slotsOf, optI, Z.at, Z.put, Z.wipe, Z.back, Z.freeze, keepF, bor, unbor, bindT, bindT.bindTs, binop, isin, isNon, cmpop, iop, nop, D.cmpo, deq, D.eqv, isInst, isInsts, seqOf, lenop, lstop, intop, absop, bltin1, int2, bltin2, bltin, ixop, fldop, thop, stop, mtop, mtop0, mtop1, extop, popop, D.ok, D.okd])) (sum_map _ _))
  have ha := List.mem_range.mp ha
  have e4 := sF (m - 1) h n ls a k (by omega) hn hk
  have hl : a < (walkF n ls a k).length := by rw [walkF_len]; exact ha
  have e5 := atI_mapN (walkF n ls a k) .int a hl
  simp [e_var, e_int, e_bl, e_non, e_str, e_bin, e_neg, e_not, e_cmp, e_cmp2, e_and, e_or, e_ite, e_tup, e_lst, e_dic0, e_ix, e_sl, e_rev, e_fld, e_there, e_call, e_web, e_blt, e_isi, e_mt, e_md, e_listIt, e_tupIt, e_val, o_nil, o_cons, ef_nil, ef_cons, eo_none, eo_some, ei_seq, ei_rng1, ei_rng2, ei_zip, ei_enum, r_nil, r_cons, x_nil, x_cons, x_set, x_setH, x_par, x_unp, x_setIx, x_ex, x_ite, x_ret, x_pass, x_brk, x_cont, sVar, sOp1, sOp2, plainB, plain1, plainB2, plain2, sNeg, sNot, sCmp2, sAnd, sOr, sIte, sTup, sLst, sItem, sSl, sCall, sBlt, sMt, sMd, sListIt, sTupIt, sIt1, sIt2, itSeq, itEnum, itZip, sRng1, sRng2, sOsNil, sOsCons, sEfNil, sEfCons, sEoNone, sEoSome, setSlot, setAll, xSet, xSetH, xPar, xUnp, setItem, xSetIx, xEx, xIte, xRet, xSeq, opd, Opd.get, Opd.arg, args, gets, slotsOf, optI, Z.at, Z.put, Z.wipe, Z.back, Z.freeze, keepF, bor, unbor, bindT, bindT.bindTs, binop, isin, isNon, cmpop, iop, nop, D.cmpo, deq, D.eqv, isInst, isInsts, seqOf, lenop, lstop, intop, absop, bltin1, int2, bltin2, bltin, ixop, fldop, thop, stop, mtop, mtop0, mtop1, extop, popop, D.ok, D.okd, e4, e5, List.getElem?_eq_getElem hl]
end BV

/-! Draws in comprehensions; the law's own hand, choice, lines. -/
namespace BV
open PySem (Str)
theorem compH {α : Type} {b : D → Z → Option Z} {cd el : EvT} {own : List Nat} {q : α → D} (zz : Hand → Z) (R : α → Option D → Prop)
    (hs : ∀ (x : α) (h : Hand) (z : Z), z.wipe own = zz h → ∃ (h' : Hand) (r : Option D) (zb zc : Z) (o : Bool), R x r ∧ b (q x) (z.wipe own) = some zb ∧ cd zb = some (zc, o, .bl r.isSome) ∧ (r = none → zc.wipe own = zz h') ∧ (∀ d, r = some d → ∃ zd o', el zc = some (zd, o', d) ∧ zd.wipe own = zz h')) :
    ∀ (l : List α), (∀ x ∈ l, True) → ∀ (h : Hand) (z : Z) (acc : List D), z.wipe own = zz h → acc.length + l.length < lim →
    ∃ (h' : Hand) (ps : List (α × Option D)) (z' : Z), ps.map (·.1) = l ∧ (∀ p ∈ ps, R p.1 p.2) ∧ compLoop b cd el own (l.map q) z acc = some (z', acc ++ ps.filterMap (·.2)) ∧ z'.wipe own = zz h'
  | [], _, h, z, acc, hz, _ => ⟨h, [], z, rfl, by simp, by simp [compLoop], hz⟩
  | x :: r, _, h, z, acc, hz, hl => by
    rw [List.length_cons] at hl
    obtain ⟨h1, s, zb, zc, o, hR, e1, e2, e3, e4⟩ := hs x h z hz
    cases s with
    | none =>
      obtain ⟨h', ps, z', p1, p2, p3, p4⟩ := compH zz R hs r (fun _ _ => trivial) h1 zc acc (e3 rfl) (by omega)
      refine ⟨h', (x, none) :: ps, z', by simp [p1], ?_, ?_, p4⟩
      · intro p hp
        rcases List.mem_cons.mp hp with rfl | hp
        · exact hR
        · exact p2 p hp
      · rw [List.map_cons]
        unfold compLoop
        rw [e1]
        simp only
        rw [e2]
        simp only [Option.isSome_none]
        rw [p3]
        simp
    | some d =>
      obtain ⟨zd, o', e5, e6⟩ := e4 d rfl
      obtain ⟨h', ps, z', p1, p2, p3, p4⟩ := compH zz R hs r (fun _ _ => trivial) h1 zd (acc ++ [d]) e6 (by simp; omega)
      refine ⟨h', (x, some d) :: ps, z', by simp [p1], ?_, ?_, p4⟩
      · intro p hp
        rcases List.mem_cons.mp hp with rfl | hp
        · exact hR
        · exact p2 p hp
      · rw [List.map_cons]
        unfold compLoop
        rw [e1]
        simp only
        rw [e2]
        simp only [Option.isSome_some]
        rw [e5]
        simp only
        rw [if_pos (by omega), p3]
        simp
theorem back_hand (own : List Nat) : ∀ (z : Z) (gs : List (Option (Ow × D))) (h h' : Option (List D)) (lk : List Nat), Z.back z ⟨gs, h, lk⟩ own = Z.back z ⟨gs, h', lk⟩ own := by
  induction own with
  | nil => intro z gs h h' lk; rfl
  | cons i r ih =>
    intro z gs h h' lk
    simp only [Z.back, ih z gs h h' lk]
    rfl
/-- a comprehension that draws: the state but for the hand as it is -/
theorem ev_compH {α : Type} {F : Phi} {elt cd : E} {g : TG} {it : It} {own : List Nat} {gs : List (Option (Ow × D))} {h : Hand} {lk bs : List Nat} (l : List α) (q : α → D) (R : α → Option D → Prop) (hit : evI F it ⟨gs, some h.D, lk⟩ = some (⟨gs, some h.D, lk⟩, l.map q, bs)) (hlen : l.length < lim) (hown : ∀ i ∈ own, keepF ((gs[i]?).join) = (gs[i]?).join)
    (hs : ∀ x ∈ l, ∀ (h : Hand), ∃ (h' : Hand) (r : Option D) (zb zc : Z) (o : Bool), R x r ∧ bindT g (q x) (Z.wipe ⟨gs, some h.D, bs ++ lk⟩ own) = some zb ∧ ev F cd zb = some (zc, o, .bl r.isSome) ∧ (r = none → zc.wipe own = Z.wipe ⟨gs, some h'.D, bs ++ lk⟩ own) ∧ (∀ d, r = some d → ∃ zd o', ev F elt zc = some (zd, o', d) ∧ zd.wipe own = Z.wipe ⟨gs, some h'.D, bs ++ lk⟩ own)) :
    ∃ (h' : Hand) (ps : List (α × Option D)), ps.map (·.1) = l ∧ (∀ p ∈ ps, R p.1 p.2) ∧ ev F (.comp elt g it cd own) ⟨gs, some h.D, lk⟩ = some (⟨gs, some h'.D, lk⟩, true, .lst (ps.filterMap (·.2))) := by
  obtain ⟨h', ps, z', p1, p2, p3, p4⟩ := compH (α := {x // x ∈ l}) (b := bindT g) (cd := ev F cd) (el := ev F elt) (own := own) (q := fun x => q x.1) (fun h => Z.wipe ⟨gs, some h.D, bs ++ lk⟩ own) (fun x r => R x.1 r) (by
    intro x h z hz
    rw [hz]
    exact hs x.1 x.2 h) l.attach (fun _ _ => trivial) h ⟨gs, some h.D, bs ++ lk⟩ [] rfl (by simpa using hlen)
  have e1 : l.attach.map (fun x => q x.1) = l.map q := by simp
  rw [e1] at p3
  refine ⟨h', ps.map (fun p => (p.1.1, p.2)), ?_, ?_, ?_⟩
  · rw [List.map_map]
    have : ((fun (p : α × Option D) => p.1) ∘ fun (p : {x // x ∈ l} × Option D) => (p.1.1, p.2)) = Subtype.val ∘ (·.1) := rfl
    rw [this, ← List.map_map, p1, List.attach_map_subtype_val]
  · intro p hp
    obtain ⟨a, ha, rfl⟩ := List.mem_map.mp hp
    exact p2 a ha
  · show sComp _ _ _ _ _ _ = _
    unfold sComp
    rw [hit]
    simp only
    have e2 : bor bs ⟨gs, some h.D, lk⟩ = ⟨gs, some h.D, bs ++ lk⟩ := rfl
    rw [e2, p3]
    simp only [List.nil_append]
    rw [p4]
    have e3 := back_all (z := ⟨gs, some h'.D, lk⟩) (bs := bs) (own := own) hown
    have e4 : bor bs ⟨gs, some h'.D, lk⟩ = ⟨gs, some h'.D, bs ++ lk⟩ := rfl
    rw [e4] at e3
    rw [back_hand own _ gs (some h.D) (some h'.D) lk]
    have e5 : ∀ z, unbor ⟨gs, some h.D, lk⟩ z = unbor ⟨gs, some h'.D, lk⟩ z := fun _ => rfl
    rw [e5, e3]
    simp [List.filterMap_map, Function.comp_def]
theorem SDraw.at {P : List Def} {i : Nat} (s : SDraw P i) (m : Nat) (hm : 1 ≤ m) (h : Hand) (n : Nat) (h0 : 0 < n) (h1 : n < 1073741824) : ∃ (h' : Hand) (v : Nat), v < n ∧ den P m i [(false, .hand), (false, .int n)] (some h.D) = some (some h'.D, false, .int v) := by
  obtain ⟨h', v, hv, e⟩ := s h n (by omega) (by omega)
  exact ⟨h', v, by omega, e m hm⟩
def bSome (iD : Nat) : Ss := (.cons (.ret (.ix (.var 1) (.call iD (.cons (.var 0) (.cons (.blt .len (.cons (.var 1) .nil)) .nil))))) .nil)
/-- one of a list, of a tuple -/
def SSome (P : List Def) (i : Nat) : Prop := ∀ m (h : Hand) (l : List D), 2 ≤ m → 0 < l.length → l.length < 1000000 → ∃ (h' : Hand) (v : Nat) (hv : v < l.length), (∀ b, den P m i [(false, .hand), (b, .lst l)] (some h.D) = some (some h'.D, false, l[v])) ∧ den P m i [(false, .hand), (false, .tup l)] (some h.D) = some (some h'.D, false, l[v])
theorem s_some {P : List Def} {i iD : Nat} (hf : P[i]? = some ⟨2, 2, bSome iD⟩) (hg : i ≠ gIdx) (sD : SDraw P iD) : SSome P i := by
  intro m h l hm h0 h1
  obtain ⟨h', v, hv, e⟩ := sD.at (m - 1) (by omega) h l.length h0 (by omega)
  refine ⟨h', v, hv, fun b => ?_, ?_⟩
  · refine den_rt ⟨[some (.frz, .hand), some (if b then .bor else .frz, .lst l)], some h.D, []⟩ hf hg (by omega) rfl (by show 2 ≤ 2; omega) rfl ?_
    cases b <;> simp [bSome, e_var, e_int, e_bl, e_non, e_str, e_bin, e_neg, e_not, e_cmp, e_cmp2, e_and, e_or, e_ite, e_tup, e_lst, e_dic0, e_ix, e_sl, e_rev, e_fld, e_there, e_call, e_web, e_blt, e_isi, e_mt, e_md, e_listIt, e_tupIt, e_val, o_nil, o_cons, ef_nil, ef_cons, eo_none, eo_some, ei_seq, ei_rng1, ei_rng2, ei_zip, ei_enum, r_nil, r_cons, x_nil, x_cons, x_set, x_setH, x_par, x_unp, x_setIx, x_ex, x_ite, x_ret, x_pass, x_brk, x_cont, sVar, sOp1, sOp2, plainB, plain1, plainB2, plain2, sNeg, sNot, sCmp2, sAnd, sOr, sIte, sTup, sLst, sItem, sSl, sCall, sBlt, sMt, sMd, sListIt, sTupIt, sIt1, sIt2, itSeq, itEnum, itZip, sRng1, sRng2, sOsNil, sOsCons, sEfNil, sEfCons, sEoNone, sEoSome, setSlot, setAll, xSet, xSetH, xPar, xUnp, setItem, xSetIx, xEx, xIte, xRet, xSeq, opd, Opd.get, Opd.arg, args, gets, slotsOf, optI, Z.at, Z.put, Z.wipe, Z.back, Z.freeze, keepF, bor, unbor, bindT, bindT.bindTs, binop, isin, isNon, cmpop, iop, nop, D.cmpo, deq, D.eqv, isInst, isInsts, seqOf, lenop, lstop, intop, absop, bltin1, int2, bltin2, bltin, ixop, fldop, thop, stop, mtop, mtop0, mtop1, extop, popop, D.ok, D.okd, e, atI, ixN, hv]
  · refine den_rt ⟨[some (.frz, .hand), some (.frz, .tup l)], some h.D, []⟩ hf hg (by omega) rfl (by show 2 ≤ 2; omega) rfl ?_
    simp [bSome, e_var, e_int, e_bl, e_non, e_str, e_bin, e_neg, e_not, e_cmp, e_cmp2, e_and, e_or, e_ite, e_tup, e_lst, e_dic0, e_ix, e_sl, e_rev, e_fld, e_there, e_call, e_web, e_blt, e_isi, e_mt, e_md, e_listIt, e_tupIt, e_val, o_nil, o_cons, ef_nil, ef_cons, eo_none, eo_some, ei_seq, ei_rng1, ei_rng2, ei_zip, ei_enum, r_nil, r_cons, x_nil, x_cons, x_set, x_setH, x_par, x_unp, x_setIx, x_ex, x_ite, x_ret, x_pass, x_brk, x_cont, sVar, sOp1, sOp2, plainB, plain1, plainB2, plain2, sNeg, sNot, sCmp2, sAnd, sOr, sIte, sTup, sLst, sItem, sSl, sCall, sBlt, sMt, sMd, sListIt, sTupIt, sIt1, sIt2, itSeq, itEnum, itZip, sRng1, sRng2, sOsNil, sOsCons, sEfNil, sEfCons, sEoNone, sEoSome, setSlot, setAll, xSet, xSetH, xPar, xUnp, setItem, xSetIx, xEx, xIte, xRet, xSeq, opd, Opd.get, Opd.arg, args, gets, slotsOf, optI, Z.at, Z.put, Z.wipe, Z.back, Z.freeze, keepF, bor, unbor, bindT, bindT.bindTs, binop, isin, isNon, cmpop, iop, nop, D.cmpo, deq, D.eqv, isInst, isInsts, seqOf, lenop, lstop, intop, absop, bltin1, int2, bltin2, bltin, ixop, fldop, thop, stop, mtop, mtop0, mtop1, extop, popop, D.ok, D.okd, e, atI, ixN, hv]
/-- the hand laid -/
def bHand (a b : Int) : Ss := (.cons (.set 1 false (.comp (.blt .abs (.cons (.blt .int (.cons (.var 2) .nil)) .nil)) (.nm 2) (.seq (.sl (.var 0) none (some (.int 63)))) (.bl true) [2]))
  (.cons (.ret (.lst (.cons (.var 1) (.cons (.int 0) (.cons (.int 0) (.cons (.bin .add (.int a) (.bin .mul (.int b) (.blt .len (.cons (.var 1) .nil)))) (.cons (.int 0) .nil))))))) .nil))
def bHand1 (a : Int) : Ss := (.cons (.set 1 false (.comp (.blt .abs (.cons (.blt .int (.cons (.var 2) .nil)) .nil)) (.nm 2) (.seq (.sl (.var 0) none (some (.int 63)))) (.bl true) [2]))
  (.cons (.ret (.lst (.cons (.var 1) (.cons (.int 0) (.cons (.int 0) (.cons (.bin .add (.int a) (.blt .len (.cons (.var 1) .nil))) (.cons (.int 0) .nil))))))) .nil))
def SHand (P : List Def) (i : Nat) : Prop := ∀ m ns, 1 ≤ m → ns.length ≤ 63 → ∃ (h : Hand), den P m i [(false, .scr ns)] none = some (none, true, .lst h.D)
theorem cut_all {ns : List Int} (h : ns.length ≤ 63) : cut ns none (some 63) = ns := by
  have e : min (63 : Int).toNat ns.length = ns.length := by omega
  simp only [cut, sIx, Int.reduceLT, if_false, e]
  simp
theorem hand_cells {P : List Def} {m : Nat} {ns : List Int} (h : ns.length ≤ 63) : exec (den P m) (.set 1 false (.comp (.blt .abs (.cons (.blt .int (.cons (.var 2) .nil)) .nil)) (.nm 2) (.seq (.sl (.var 0) none (some (.int 63)))) (.bl true) [2])) ⟨[some (.frz, .scr ns), none, none], none, []⟩ = some (.nx ⟨[some (.frz, .scr ns), some (.frz, .lst ((ns.map fun (i : Int) => if i < 0 then -i else i).map .int)), none], none, []⟩) := by
  refine ex_set (z1 := ⟨[some (.frz, .scr ns), none, none], none, []⟩) (o := true) (d := .lst ((ns.map fun (i : Int) => if i < 0 then -i else i).map .int)) ?_ (by simp)
  rw [List.map_map]
  refine ev_mapM (bs := []) ns .int _ (by simp [e_var, e_int, e_bl, e_non, e_str, e_bin, e_neg, e_not, e_cmp, e_cmp2, e_and, e_or, e_ite, e_tup, e_lst, e_dic0, e_ix, e_sl, e_rev, e_fld, e_there, e_call, e_web, e_blt, e_isi, e_mt, e_md, e_listIt, e_tupIt, e_val, o_nil, o_cons, ef_nil, ef_cons, eo_none, eo_some, ei_seq, ei_rng1, ei_rng2, ei_zip, ei_enum, r_nil, r_cons, x_nil, x_cons, x_set, x_setH, x_par, x_unp, x_setIx, x_ex, x_ite, x_ret, x_pass, x_brk, x_cont, sVar, sOp1, sOp2, plainB, plain1, plainB2, plain2, sNeg, sNot, sCmp2, sAnd, sOr, sIte, sTup, sLst, sItem, sSl, sCall, sBlt, sMt, sMd, sListIt, sTupIt, sIt1, sIt2, itSeq, itEnum, itZip, sRng1, sRng2, sOsNil, sOsCons, sEfNil, sEfCons, sEoNone, sEoSome, setSlot, setAll, xSet, xSetH, xPar, xUnp, setItem, xSetIx, xEx, xIte, xRet, xSeq, opd, Opd.get, Opd.arg, args, gets, slotsOf, optI, Z.at, Z.put, Z.wipe, Z.back, Z.freeze, keepF, bor, unbor, bindT, bindT.bindTs, binop, isin, isNon, cmpop, iop, nop, D.cmpo, deq, D.eqv, isInst, isInsts, seqOf, lenop, lstop, intop, absop, bltin1, int2, bltin2, bltin, ixop, fldop, thop, stop, mtop, mtop0, mtop1, extop, popop, D.ok, D.okd, slop, cut_all h]) (lim_gt (by omega)) (by simp [keepF, Z.at]) (fun x hx => ?_) (by simp [e_var, e_int, e_bl, e_non, e_str, e_bin, e_neg, e_not, e_cmp, e_cmp2, e_and, e_or, e_ite, e_tup, e_lst, e_dic0, e_ix, e_sl, e_rev, e_fld, e_there, e_call, e_web, e_blt, e_isi, e_mt, e_md, e_listIt, e_tupIt, e_val, o_nil, o_cons, ef_nil, ef_cons, eo_none, eo_some, ei_seq, ei_rng1, ei_rng2, ei_zip, ei_enum, r_nil, r_cons, x_nil, x_cons, x_set, x_setH, x_par, x_unp, x_setIx, x_ex, x_ite, x_ret, x_pass, x_brk, x_cont, sVar, sOp1, sOp2, plainB, plain1, plainB2, plain2, sNeg, sNot, sCmp2, sAnd, sOr, sIte, sTup, sLst, sItem, sSl, sCall, sBlt, sMt, sMd, sListIt, sTupIt, sIt1, sIt2, itSeq, itEnum, itZip, sRng1, sRng2, sOsNil, sOsCons, sEfNil, sEfCons, sEoNone, sEoSome, setSlot, setAll, xSet, xSetH, xPar, xUnp, setItem, xSetIx, xEx, xIte, xRet, xSeq, opd, Opd.get, Opd.arg, args, gets, slotsOf, optI, Z.at, Z.put, Z.wipe, Z.back, Z.freeze, keepF, bor, unbor, bindT, bindT.bindTs, binop, isin, isNon, cmpop, iop, nop, D.cmpo, deq, D.eqv, isInst, isInsts, seqOf, lenop, lstop, intop, absop, bltin1, int2, bltin2, bltin, ixop, fldop, thop, stop, mtop, mtop0, mtop1, extop, popop, D.ok, D.okd])
  simp [e_var, e_int, e_bl, e_non, e_str, e_bin, e_neg, e_not, e_cmp, e_cmp2, e_and, e_or, e_ite, e_tup, e_lst, e_dic0, e_ix, e_sl, e_rev, e_fld, e_there, e_call, e_web, e_blt, e_isi, e_mt, e_md, e_listIt, e_tupIt, e_val, o_nil, o_cons, ef_nil, ef_cons, eo_none, eo_some, ei_seq, ei_rng1, ei_rng2, ei_zip, ei_enum, r_nil, r_cons, x_nil, x_cons, x_set, x_setH, x_par, x_unp, x_setIx, x_ex, x_ite, x_ret, x_pass, x_brk, x_cont, sVar, sOp1, sOp2, plainB, plain1, plainB2, plain2, sNeg, sNot, sCmp2, sAnd, sOr, sIte, sTup, sLst, sItem, sSl, sCall, sBlt, sMt, sMd, sListIt, sTupIt, sIt1, sIt2, itSeq, itEnum, itZip, sRng1, sRng2, sOsNil, sOsCons, sEfNil, sEfCons, sEoNone, sEoSome, setSlot, setAll, xSet, xSetH, xPar, xUnp, setItem, xSetIx, xEx, xIte, xRet, xSeq, opd, Opd.get, Opd.arg, args, gets, slotsOf, optI, Z.at, Z.put, Z.wipe, Z.back, Z.freeze, keepF, bor, unbor, bindT, bindT.bindTs, binop, isin, isNon, cmpop, iop, nop, D.cmpo, deq, D.eqv, isInst, isInsts, seqOf, lenop, lstop, intop, absop, bltin1, int2, bltin2, bltin, ixop, fldop, thop, stop, mtop, mtop0, mtop1, extop, popop, D.ok, D.okd]
theorem s_hand {P : List Def} {i : Nat} {a b : Int} (hb : small b = true) (hf : P[i]? = some ⟨1, 3, bHand a b⟩) (hg : i ≠ gIdx) : SHand P i := by
  intro m ns hm hl
  refine ⟨⟨ns.map fun i => if i < 0 then -i else i, 0, 0, a + b * ns.length, 0⟩, den_rt ⟨[some (.frz, .scr ns), none, none], none, []⟩ hf hg (by omega) rfl (by show 1 ≤ 3; omega) rfl (xs_nx (hand_cells hl) ?_)⟩
  have l5 : 5 ≤ lim := by unfold lim; omega
  simp [e_var, e_int, e_bl, e_non, e_str, e_bin, e_neg, e_not, e_cmp, e_cmp2, e_and, e_or, e_ite, e_tup, e_lst, e_dic0, e_ix, e_sl, e_rev, e_fld, e_there, e_call, e_web, e_blt, e_isi, e_mt, e_md, e_listIt, e_tupIt, e_val, o_nil, o_cons, ef_nil, ef_cons, eo_none, eo_some, ei_seq, ei_rng1, ei_rng2, ei_zip, ei_enum, r_nil, r_cons, x_nil, x_cons, x_set, x_setH, x_par, x_unp, x_setIx, x_ex, x_ite, x_ret, x_pass, x_brk, x_cont, sVar, sOp1, sOp2, plainB, plain1, plainB2, plain2, sNeg, sNot, sCmp2, sAnd, sOr, sIte, sTup, sLst, sItem, sSl, sCall, sBlt, sMt, sMd, sListIt, sTupIt, sIt1, sIt2, itSeq, itEnum, itZip, sRng1, sRng2, sOsNil, sOsCons, sEfNil, sEfCons, sEoNone, sEoSome, setSlot, setAll, xSet, xSetH, xPar, xUnp, setItem, xSetIx, xEx, xIte, xRet, xSeq, opd, Opd.get, Opd.arg, args, gets, slotsOf, optI, Z.at, Z.put, Z.wipe, Z.back, Z.freeze, keepF, bor, unbor, bindT, bindT.bindTs, binop, isin, isNon, cmpop, iop, nop, D.cmpo, deq, D.eqv, isInst, isInsts, seqOf, lenop, lstop, intop, absop, bltin1, int2, bltin2, bltin, ixop, fldop, thop, stop, mtop, mtop0, mtop1, extop, popop, D.ok, D.okd, hb, Hand.D, l5]
theorem s_hand1 {P : List Def} {i : Nat} {a : Int} (hf : P[i]? = some ⟨1, 3, bHand1 a⟩) (hg : i ≠ gIdx) : SHand P i := by
  intro m ns hm hl
  refine ⟨⟨ns.map fun i => if i < 0 then -i else i, 0, 0, a + ns.length, 0⟩, den_rt ⟨[some (.frz, .scr ns), none, none], none, []⟩ hf hg (by omega) rfl (by show 1 ≤ 3; omega) rfl (xs_nx (hand_cells hl) ?_)⟩
  have l5 : 5 ≤ lim := by unfold lim; omega
  simp [e_var, e_int, e_bl, e_non, e_str, e_bin, e_neg, e_not, e_cmp, e_cmp2, e_and, e_or, e_ite, e_tup, e_lst, e_dic0, e_ix, e_sl, e_rev, e_fld, e_there, e_call, e_web, e_blt, e_isi, e_mt, e_md, e_listIt, e_tupIt, e_val, o_nil, o_cons, ef_nil, ef_cons, eo_none, eo_some, ei_seq, ei_rng1, ei_rng2, ei_zip, ei_enum, r_nil, r_cons, x_nil, x_cons, x_set, x_setH, x_par, x_unp, x_setIx, x_ex, x_ite, x_ret, x_pass, x_brk, x_cont, sVar, sOp1, sOp2, plainB, plain1, plainB2, plain2, sNeg, sNot, sCmp2, sAnd, sOr, sIte, sTup, sLst, sItem, sSl, sCall, sBlt, sMt, sMd, sListIt, sTupIt, sIt1, sIt2, itSeq, itEnum, itZip, sRng1, sRng2, sOsNil, sOsCons, sEfNil, sEfCons, sEoNone, sEoSome, setSlot, setAll, xSet, xSetH, xPar, xUnp, setItem, xSetIx, xEx, xIte, xRet, xSeq, opd, Opd.get, Opd.arg, args, gets, slotsOf, optI, Z.at, Z.put, Z.wipe, Z.back, Z.freeze, keepF, bor, unbor, bindT, bindT.bindTs, binop, isin, isNon, cmpop, iop, nop, D.cmpo, deq, D.eqv, isInst, isInsts, seqOf, lenop, lstop, intop, absop, bltin1, int2, bltin2, bltin, ixop, fldop, thop, stop, mtop, mtop0, mtop1, extop, popop, D.ok, D.okd, Hand.D, l5]
end BV

/-! The law's own lines, drawn; sameness of ints. -/
namespace BV
open PySem (Str)
theorem rngL_nat2 (a b : Nat) : rngL (a : Int) (b : Int) = (List.range (b - a)).map fun j => D.int ((a + j : Nat) : Int) := by
  unfold rngL
  have e : ((b : Int) - (a : Int)).toNat = b - a := by omega
  rw [e]
  simp
theorem rngOk_nat2 {a b : Nat} (h1 : a ≤ 1000) (h : b ≤ 1000) : rngOk (a : Int) (b : Int) = true := by
  unfold rngOk lim
  simp
  omega
theorem sub_of {α : Type} (f : α → D) : ∀ (ps : List (α × Option D)), (∀ p ∈ ps, p.2 = none ∨ p.2 = some (f p.1)) → ∃ sub : List α, sub.Sublist (ps.map (·.1)) ∧ ps.filterMap (·.2) = sub.map f
  | [], _ => ⟨[], List.Sublist.refl _, rfl⟩
  | (x, r) :: ps, h => by
    obtain ⟨sub, h1, h2⟩ := sub_of f ps fun p hp => h p (List.mem_cons_of_mem _ hp)
    rcases h (x, r) List.mem_cons_self with e | e
    · exact ⟨sub, h1.cons _, by simp only at e; simp [e, h2]⟩
    · exact ⟨x :: sub, h1.cons_cons _, by simp only at e; simp [e, h2]⟩
/-- all pairs of corners, the first of which is below i -/
def pairsTo (n i : Nat) : List (Nat × Nat) := (List.range i).flatMap fun a => (List.range (n - (a + 1))).map fun j => (a, a + 1 + j)
theorem pairsTo_succ (n i : Nat) : pairsTo n (i + 1) = pairsTo n i ++ (List.range (n - (i + 1))).map fun j => (i, i + 1 + j) := by
  simp [pairsTo, List.range_succ]
theorem pairs_asc : ∀ n ≤ 7, ascP (pairsTo n n) = true := by decide
theorem mem_pairs {n i : Nat} {p : Nat × Nat} : p ∈ pairsTo n i ↔ p.1 < i ∧ p.1 < p.2 ∧ p.2 < n := by
  obtain ⟨a, b⟩ := p
  simp only [pairsTo, List.mem_flatMap, List.mem_range, List.mem_map, Prod.mk.injEq]
  constructor
  · rintro ⟨c, h1, j, h2, rfl, rfl⟩
    omega
  · rintro ⟨h1, h2, h3⟩
    exact ⟨a, h1, b - (a + 1), by omega, rfl, by omega⟩
theorem WOk.sub {n : Nat} {ls : List (Nat × Nat)} (h1 : 1 ≤ n) (h7 : n ≤ 7) (hs : ls.Sublist (pairsTo n n)) : WOk n ls :=
  ⟨h1, h7, fun p hp => (mem_pairs.mp (hs.subset hp)).2, (of_ascP (pairs_asc n h7)).sublist hs⟩
def SLines (P : List Def) (i : Nat) : Prop := ∀ m (h : Hand) n, 3 ≤ m → 1 ≤ n → n ≤ 7 → ∃ (h' : Hand) (ls : List (Nat × Nat)), WOk n ls ∧ den P m i [(false, .hand), (false, .int (n : Nat))] (some h.D) = some (some h'.D, false, lsD ls)
def bLines1 (iD : Nat) (j k : Int) : Ss := (.cons (.par [(2, false), (3, true)] (.cons (.bin .add (.int 1) (.call iD (.cons (.var 0) (.cons (.int j) .nil)))) (.cons (.lst .nil) .nil)))
  (.cons (.for (.nm 4) (.rng1 (.var 1)) (.cons (.ex (.mt .extend 3 (.cons (.comp (.tup (.cons (.var 4) (.cons (.var 5) .nil))) (.nm 5) (.rng2 (.bin .add (.var 4) (.int 1)) (.var 1)) (.cmp .lt (.call iD (.cons (.var 0) (.cons (.int k) .nil))) (.var 2)) [5]) .nil)))
  .nil))
  (.cons (.ret (.blt .tuple (.cons (.var 3) .nil)))
  .nil)))
abbrev zLi (n v : Nat) (l : List D) (u4 u5 : Option (Ow × D)) (h : Hand) : Z := ⟨[some (.frz, .hand), some (.frz, .int n), some (.frz, .int (1 + v)), some (.own, .lst l), u4, u5], some h.D, []⟩
abbrev rowE (iD : Nat) (k : Int) : E := .comp (.tup (.cons (.var 4) (.cons (.var 5) .nil))) (.nm 5) (.rng2 (.bin .add (.var 4) (.int 1)) (.var 1)) (.cmp .lt (.call iD (.cons (.var 0) (.cons (.int k) .nil))) (.var 2)) [5]
theorem lines_row {P : List Def} {m iD n v k i : Nat} {l : List D} {hd : Hand} (hm : 2 ≤ m) (hk : 0 < k ∧ k < 1000) (sD : SDraw P iD) (h7 : n ≤ 7) (hi : i < n) : ∃ (h' : Hand) (sub : List Nat), sub.Sublist (List.range (n - (i + 1))) ∧ ev (den P m) (rowE iD k) (zLi n v l (some (.frz, .int (i : Nat))) none hd) = some (zLi n v l (some (.frz, .int (i : Nat))) none h', true, .lst (sub.map fun j => pairD (i, i + 1 + j))) := by
  have l2 := lim2
  obtain ⟨h', qs, q1, q2, q3⟩ := ev_compH (F := den P m) (elt := .tup (.cons (.var 4) (.cons (.var 5) .nil))) (cd := .cmp .lt (.call iD (.cons (.var 0) (.cons (.int k) .nil))) (.var 2)) (g := .nm 5) (it := .rng2 (.bin .add (.var 4) (.int 1)) (.var 1)) (own := [5]) (gs := [some (.frz, .hand), some (.frz, .int n), some (.frz, .int (1 + v)), some (.own, .lst l), some (.frz, .int (i : Nat)), none]) (h := hd) (lk := []) (bs := [])
    (List.range (n - (i + 1))) (fun j => .int ((i + 1 + j : Nat) : Int)) (fun j r => r = none ∨ r = some (pairD (i, i + 1 + j))) (by
      have e2 : rngL ((i : Int) + 1) (n : Int) = List.map (fun (j : Nat) => D.int ((i : Int) + 1 + (j : Int))) (List.range (n - (i + 1))) := by simpa using rngL_nat2 (i + 1) n
      have e3 : rngOk ((i : Int) + 1) (n : Int) = true := by simpa using rngOk_nat2 (show i + 1 ≤ 1000 by omega) (show n ≤ 1000 by omega)
      simp [e_var, e_int, e_bl, e_non, e_str, e_bin, e_neg, e_not, e_cmp, e_cmp2, e_and, e_or, e_ite, e_tup, e_lst, e_dic0, e_ix, e_sl, e_rev, e_fld, e_there, e_call, e_web, e_blt, e_isi, e_mt, e_md, e_listIt, e_tupIt, e_val, o_nil, o_cons, ef_nil, ef_cons, eo_none, eo_some, ei_seq, ei_rng1, ei_rng2, ei_zip, ei_enum, r_nil, r_cons, x_nil, x_cons, x_set, x_setH, x_par, x_unp, x_setIx, x_ex, x_ite, x_ret, x_pass, x_brk, x_cont, sVar, sOp1, sOp2, plainB, plain1, plainB2, plain2, sNeg, sNot, sCmp2, sAnd, sOr, sIte, sTup, sLst, sItem, sSl, sCall, sBlt, sMt, sMd, sListIt, sTupIt, sIt1, sIt2, itSeq, itEnum, itZip, sRng1, sRng2, sOsNil, sOsCons, sEfNil, sEfCons, sEoNone, sEoSome, setSlot, setAll, xSet, xSetH, xPar, xUnp, setItem, xSetIx, xEx, xIte, xRet, xSeq, opd, Opd.get, Opd.arg, args, gets, slotsOf, optI, Z.at, Z.put, Z.wipe, Z.back, Z.freeze, keepF, bor, unbor, bindT, bindT.bindTs, binop, isin, isNon, cmpop, iop, nop, D.cmpo, deq, D.eqv, isInst, isInsts, seqOf, lenop, lstop, intop, absop, bltin1, int2, bltin2, bltin, ixop, fldop, thop, stop, mtop, mtop0, mtop1, extop, popop, D.ok, D.okd, e2, e3]) (lim_gt (by rw [List.length_range]; omega)) (by simp [keepF]) (by
      intro j hj hd
      obtain ⟨h', w, hw, e⟩ := sD.at m (by omega) hd k hk.1 (by omega)
      by_cases q : (w : Int) < 1 + v
      · exact ⟨h', some (pairD (i, i + 1 + j)), zLi n v l (some (.frz, .int (i : Nat))) (some (.frz, .int ((i + 1 + j : Nat) : Int))) hd, zLi n v l (some (.frz, .int (i : Nat))) (some (.frz, .int ((i + 1 + j : Nat) : Int))) h', false, Or.inr rfl, by simp [e_var, e_int, e_bl, e_non, e_str, e_bin, e_neg, e_not, e_cmp, e_cmp2, e_and, e_or, e_ite, e_tup, e_lst, e_dic0, e_ix, e_sl, e_rev, e_fld, e_there, e_call, e_web, e_blt, e_isi, e_mt, e_md, e_listIt, e_tupIt, e_val, o_nil, o_cons, ef_nil, ef_cons, eo_none, eo_some, ei_seq, ei_rng1, ei_rng2, ei_zip, ei_enum, r_nil, r_cons, x_nil, x_cons, x_set, x_setH, x_par, x_unp, x_setIx, x_ex, x_ite, x_ret, x_pass, x_brk, x_cont, sVar, sOp1, sOp2, plainB, plain1, plainB2, plain2, sNeg, sNot, sCmp2, sAnd, sOr, sIte, sTup, sLst, sItem, sSl, sCall, sBlt, sMt, sMd, sListIt, sTupIt, sIt1, sIt2, itSeq, itEnum, itZip, sRng1, sRng2, sOsNil, sOsCons, sEfNil, sEfCons, sEoNone, sEoSome, setSlot, setAll, xSet, xSetH, xPar, xUnp, setItem, xSetIx, xEx, xIte, xRet, xSeq, opd, Opd.get, Opd.arg, args, gets, slotsOf, optI, Z.at, Z.put, Z.wipe, Z.back, Z.freeze, keepF, bor, unbor, bindT, bindT.bindTs, binop, isin, isNon, cmpop, iop, nop, D.cmpo, deq, D.eqv, isInst, isInsts, seqOf, lenop, lstop, intop, absop, bltin1, int2, bltin2, bltin, ixop, fldop, thop, stop, mtop, mtop0, mtop1, extop, popop, D.ok, D.okd], by simp [e_var, e_int, e_bl, e_non, e_str, e_bin, e_neg, e_not, e_cmp, e_cmp2, e_and, e_or, e_ite, e_tup, e_lst, e_dic0, e_ix, e_sl, e_rev, e_fld, e_there, e_call, e_web, e_blt, e_isi, e_mt, e_md, e_listIt, e_tupIt, e_val, o_nil, o_cons, ef_nil, ef_cons, eo_none, eo_some, ei_seq, ei_rng1, ei_rng2, ei_zip, ei_enum, r_nil, r_cons, x_nil, x_cons, x_set, x_setH, x_par, x_unp, x_setIx, x_ex, x_ite, x_ret, x_pass, x_brk, x_cont, sVar, sOp1, sOp2, plainB, plain1, plainB2, plain2, sNeg, sNot, sCmp2, sAnd, sOr, sIte, sTup, sLst, sItem, sSl, sCall, sBlt, sMt, sMd, sListIt, sTupIt, sIt1, sIt2, itSeq, itEnum, itZip, sRng1, sRng2, sOsNil, sOsCons, sEfNil, sEfCons, sEoNone, sEoSome, setSlot, setAll, xSet, xSetH, xPar, xUnp, setItem, xSetIx, xEx, xIte, xRet, xSeq, opd, Opd.get, Opd.arg, args, gets, slotsOf, optI, Z.at, Z.put, Z.wipe, Z.back, Z.freeze, keepF, bor, unbor, bindT, bindT.bindTs, binop, isin, isNon, cmpop, iop, nop, D.cmpo, deq, D.eqv, isInst, isInsts, seqOf, lenop, lstop, intop, absop, bltin1, int2, bltin2, bltin, ixop, fldop, thop, stop, mtop, mtop0, mtop1, extop, popop, D.ok, D.okd, e, q], by simp, fun d hd => ⟨zLi n v l (some (.frz, .int (i : Nat))) (some (.frz, .int ((i + 1 + j : Nat) : Int))) h', false, by cases hd; simp [e_var, e_int, e_bl, e_non, e_str, e_bin, e_neg, e_not, e_cmp, e_cmp2, e_and, e_or, e_ite, e_tup, e_lst, e_dic0, e_ix, e_sl, e_rev, e_fld, e_there, e_call, e_web, e_blt, e_isi, e_mt, e_md, e_listIt, e_tupIt, e_val, o_nil, o_cons, ef_nil, ef_cons, eo_none, eo_some, ei_seq, ei_rng1, ei_rng2, ei_zip, ei_enum, r_nil, r_cons, x_nil, x_cons, x_set, x_setH, x_par, x_unp, x_setIx, x_ex, x_ite, x_ret, x_pass, x_brk, x_cont, sVar, sOp1, sOp2, plainB, plain1, plainB2, plain2, sNeg, sNot, sCmp2, sAnd, sOr, sIte, sTup, sLst, sItem, sSl, sCall, sBlt, sMt, sMd, sListIt, sTupIt, sIt1, sIt2, itSeq, itEnum, itZip, sRng1, sRng2, sOsNil, sOsCons, sEfNil, sEfCons, sEoNone, sEoSome, setSlot, setAll, xSet, xSetH, xPar, xUnp, setItem, xSetIx, xEx, xIte, xRet, xSeq, opd, Opd.get, Opd.arg, args, gets, slotsOf, optI, Z.at, Z.put, Z.wipe, Z.back, Z.freeze, keepF, bor, unbor, bindT, bindT.bindTs, binop, isin, isNon, cmpop, iop, nop, D.cmpo, deq, D.eqv, isInst, isInsts, seqOf, lenop, lstop, intop, absop, bltin1, int2, bltin2, bltin, ixop, fldop, thop, stop, mtop, mtop0, mtop1, extop, popop, D.ok, D.okd, l2, pairD], by simp [e_var, e_int, e_bl, e_non, e_str, e_bin, e_neg, e_not, e_cmp, e_cmp2, e_and, e_or, e_ite, e_tup, e_lst, e_dic0, e_ix, e_sl, e_rev, e_fld, e_there, e_call, e_web, e_blt, e_isi, e_mt, e_md, e_listIt, e_tupIt, e_val, o_nil, o_cons, ef_nil, ef_cons, eo_none, eo_some, ei_seq, ei_rng1, ei_rng2, ei_zip, ei_enum, r_nil, r_cons, x_nil, x_cons, x_set, x_setH, x_par, x_unp, x_setIx, x_ex, x_ite, x_ret, x_pass, x_brk, x_cont, sVar, sOp1, sOp2, plainB, plain1, plainB2, plain2, sNeg, sNot, sCmp2, sAnd, sOr, sIte, sTup, sLst, sItem, sSl, sCall, sBlt, sMt, sMd, sListIt, sTupIt, sIt1, sIt2, itSeq, itEnum, itZip, sRng1, sRng2, sOsNil, sOsCons, sEfNil, sEfCons, sEoNone, sEoSome, setSlot, setAll, xSet, xSetH, xPar, xUnp, setItem, xSetIx, xEx, xIte, xRet, xSeq, opd, Opd.get, Opd.arg, args, gets, slotsOf, optI, Z.at, Z.put, Z.wipe, Z.back, Z.freeze, keepF, bor, unbor, bindT, bindT.bindTs, binop, isin, isNon, cmpop, iop, nop, D.cmpo, deq, D.eqv, isInst, isInsts, seqOf, lenop, lstop, intop, absop, bltin1, int2, bltin2, bltin, ixop, fldop, thop, stop, mtop, mtop0, mtop1, extop, popop, D.ok, D.okd]⟩⟩
      · exact ⟨h', none, zLi n v l (some (.frz, .int (i : Nat))) (some (.frz, .int ((i + 1 + j : Nat) : Int))) hd, zLi n v l (some (.frz, .int (i : Nat))) (some (.frz, .int ((i + 1 + j : Nat) : Int))) h', false, Or.inl rfl, by simp [e_var, e_int, e_bl, e_non, e_str, e_bin, e_neg, e_not, e_cmp, e_cmp2, e_and, e_or, e_ite, e_tup, e_lst, e_dic0, e_ix, e_sl, e_rev, e_fld, e_there, e_call, e_web, e_blt, e_isi, e_mt, e_md, e_listIt, e_tupIt, e_val, o_nil, o_cons, ef_nil, ef_cons, eo_none, eo_some, ei_seq, ei_rng1, ei_rng2, ei_zip, ei_enum, r_nil, r_cons, x_nil, x_cons, x_set, x_setH, x_par, x_unp, x_setIx, x_ex, x_ite, x_ret, x_pass, x_brk, x_cont, sVar, sOp1, sOp2, plainB, plain1, plainB2, plain2, sNeg, sNot, sCmp2, sAnd, sOr, sIte, sTup, sLst, sItem, sSl, sCall, sBlt, sMt, sMd, sListIt, sTupIt, sIt1, sIt2, itSeq, itEnum, itZip, sRng1, sRng2, sOsNil, sOsCons, sEfNil, sEfCons, sEoNone, sEoSome, setSlot, setAll, xSet, xSetH, xPar, xUnp, setItem, xSetIx, xEx, xIte, xRet, xSeq, opd, Opd.get, Opd.arg, args, gets, slotsOf, optI, Z.at, Z.put, Z.wipe, Z.back, Z.freeze, keepF, bor, unbor, bindT, bindT.bindTs, binop, isin, isNon, cmpop, iop, nop, D.cmpo, deq, D.eqv, isInst, isInsts, seqOf, lenop, lstop, intop, absop, bltin1, int2, bltin2, bltin, ixop, fldop, thop, stop, mtop, mtop0, mtop1, extop, popop, D.ok, D.okd], by simp [e_var, e_int, e_bl, e_non, e_str, e_bin, e_neg, e_not, e_cmp, e_cmp2, e_and, e_or, e_ite, e_tup, e_lst, e_dic0, e_ix, e_sl, e_rev, e_fld, e_there, e_call, e_web, e_blt, e_isi, e_mt, e_md, e_listIt, e_tupIt, e_val, o_nil, o_cons, ef_nil, ef_cons, eo_none, eo_some, ei_seq, ei_rng1, ei_rng2, ei_zip, ei_enum, r_nil, r_cons, x_nil, x_cons, x_set, x_setH, x_par, x_unp, x_setIx, x_ex, x_ite, x_ret, x_pass, x_brk, x_cont, sVar, sOp1, sOp2, plainB, plain1, plainB2, plain2, sNeg, sNot, sCmp2, sAnd, sOr, sIte, sTup, sLst, sItem, sSl, sCall, sBlt, sMt, sMd, sListIt, sTupIt, sIt1, sIt2, itSeq, itEnum, itZip, sRng1, sRng2, sOsNil, sOsCons, sEfNil, sEfCons, sEoNone, sEoSome, setSlot, setAll, xSet, xSetH, xPar, xUnp, setItem, xSetIx, xEx, xIte, xRet, xSeq, opd, Opd.get, Opd.arg, args, gets, slotsOf, optI, Z.at, Z.put, Z.wipe, Z.back, Z.freeze, keepF, bor, unbor, bindT, bindT.bindTs, binop, isin, isNon, cmpop, iop, nop, D.cmpo, deq, D.eqv, isInst, isInsts, seqOf, lenop, lstop, intop, absop, bltin1, int2, bltin2, bltin, ixop, fldop, thop, stop, mtop, mtop0, mtop1, extop, popop, D.ok, D.okd, e, q], by simp [e_var, e_int, e_bl, e_non, e_str, e_bin, e_neg, e_not, e_cmp, e_cmp2, e_and, e_or, e_ite, e_tup, e_lst, e_dic0, e_ix, e_sl, e_rev, e_fld, e_there, e_call, e_web, e_blt, e_isi, e_mt, e_md, e_listIt, e_tupIt, e_val, o_nil, o_cons, ef_nil, ef_cons, eo_none, eo_some, ei_seq, ei_rng1, ei_rng2, ei_zip, ei_enum, r_nil, r_cons, x_nil, x_cons, x_set, x_setH, x_par, x_unp, x_setIx, x_ex, x_ite, x_ret, x_pass, x_brk, x_cont, sVar, sOp1, sOp2, plainB, plain1, plainB2, plain2, sNeg, sNot, sCmp2, sAnd, sOr, sIte, sTup, sLst, sItem, sSl, sCall, sBlt, sMt, sMd, sListIt, sTupIt, sIt1, sIt2, itSeq, itEnum, itZip, sRng1, sRng2, sOsNil, sOsCons, sEfNil, sEfCons, sEoNone, sEoSome, setSlot, setAll, xSet, xSetH, xPar, xUnp, setItem, xSetIx, xEx, xIte, xRet, xSeq, opd, Opd.get, Opd.arg, args, gets, slotsOf, optI, Z.at, Z.put, Z.wipe, Z.back, Z.freeze, keepF, bor, unbor, bindT, bindT.bindTs, binop, isin, isNon, cmpop, iop, nop, D.cmpo, deq, D.eqv, isInst, isInsts, seqOf, lenop, lstop, intop, absop, bltin1, int2, bltin2, bltin, ixop, fldop, thop, stop, mtop, mtop0, mtop1, extop, popop, D.ok, D.okd], by simp⟩)
  obtain ⟨sub, s1, s2⟩ := sub_of (fun j => pairD (i, i + 1 + j)) qs q2
  rw [q1] at s1
  rw [s2] at q3
  exact ⟨h', sub, s1, q3⟩
theorem ev_extend {F : Phi} {i : Nat} {e : E} {z z1 : Z} {l k : List D} {o : Bool} (h0 : z.at i = some (.own, .lst l)) (h : ev F e z = some (z1, o, .lst k)) (hl : z1.lk.contains i = false) (h1 : z1.at i = some (.own, .lst l)) (hn : l.length + k.length ≤ lim) : exec F (.ex (.mt .extend i (.cons e .nil))) z = some (.nx (z1.put i .own (.lst (l ++ k)))) := by
  rw [x_ex, e_mt, ef_cons, ef_nil]
  unfold xEx sMt
  rw [h0]
  simp only [sEfCons, h, sEfNil, hl, h1, mtop, mtop1, extop, if_pos hn]
  rfl
theorem pairs_len {n i : Nat} (h7 : n ≤ 7) (hi : i ≤ 7) : (pairsTo n i).length ≤ 1000 := by
  have : ∀ n ≤ 7, ∀ i ≤ 7, (pairsTo n i).length ≤ 1000 := by decide
  exact this n h7 i hi
theorem lines_step {P : List Def} {m iD n v k i : Nat} {ps : List (Nat × Nat)} {u : Option (Ow × D)} {hd : Hand} (hm : 2 ≤ m) (hk : 0 < k ∧ k < 1000) (sD : SDraw P iD) (h7 : n ≤ 7) (hi : i < n) (hs : ps.Sublist (pairsTo n i)) :
    ∃ (h' : Hand) (ps' : List (Nat × Nat)), ps'.Sublist (pairsTo n (i + 1)) ∧ execs (den P m) (.cons (.ex (.mt .extend 3 (.cons (rowE iD k) .nil))) .nil) (zLi n v (ps.map pairD) (some (.frz, .int (i : Nat))) none hd) = some (.nx (zLi n v (ps'.map pairD) (some (.frz, .int (i : Nat))) none h')) := by
  obtain ⟨h', sub, s1, e⟩ := lines_row (v := v) (l := ps.map pairD) (hd := hd) hm hk sD h7 hi
  refine ⟨h', ps ++ sub.map fun j => (i, i + 1 + j), ?_, xs_nx (z1 := zLi n v ((ps ++ sub.map fun j => (i, i + 1 + j)).map pairD) (some (.frz, .int (i : Nat))) none h') ?_ rfl⟩
  · rw [pairsTo_succ]
    exact hs.append (s1.map _)
  · have hl : ps.length + sub.length ≤ lim := by
      have a1 := hs.length_le
      have a2 := s1.length_le
      have a3 := pairs_len (i := i) h7 (by omega)
      rw [List.length_range] at a2
      unfold lim
      omega
    have := ev_extend (i := 3) (l := ps.map pairD) rfl e rfl rfl (by simpa using hl)
    rw [this]
    rw [List.map_append, List.map_map]
    rfl
theorem s_lines1 {P : List Def} {i iD : Nat} {j k : Nat} (hj : 0 < j ∧ j < 1000) (hk : 0 < k ∧ k < 1000) (hf : P[i]? = some ⟨2, 6, bLines1 iD j k⟩) (hg : i ≠ gIdx) (sD : SDraw P iD) : SLines P i := by
  intro m h n hm h1 h7
  obtain ⟨ha, v, hv, e1⟩ := sD.at (m - 1) (by omega) h j hj.1 (by omega)
  obtain ⟨z', e, hd, ps, u, rfl, hs⟩ := ex_forN (F := den P (m - 1)) (g := .nm 4) (it := .rng1 (.var 1)) (body := (.cons (.ex (.mt .extend 3 (.cons (rowE iD k) .nil))) .nil)) (z := zLi n v [] none none ha) (z1 := zLi n v [] none none ha) (bs := []) (List.range n) (fun i => .int (i : Nat))
      (fun i z => ∃ (hd : Hand) (ps : List (Nat × Nat)) (u : Option (Ow × D)), z = zLi n v (ps.map pairD) u none hd ∧ ps.Sublist (pairsTo n i))
      (by simp [e_var, e_int, e_bl, e_non, e_str, e_bin, e_neg, e_not, e_cmp, e_cmp2, e_and, e_or, e_ite, e_tup, e_lst, e_dic0, e_ix, e_sl, e_rev, e_fld, e_there, e_call, e_web, e_blt, e_isi, e_mt, e_md, e_listIt, e_tupIt, e_val, o_nil, o_cons, ef_nil, ef_cons, eo_none, eo_some, ei_seq, ei_rng1, ei_rng2, ei_zip, ei_enum, r_nil, r_cons, x_nil, x_cons, x_set, x_setH, x_par, x_unp, x_setIx, x_ex, x_ite, x_ret, x_pass, x_brk, x_cont, sVar, sOp1, sOp2, plainB, plain1, plainB2, plain2, sNeg, sNot, sCmp2, sAnd, sOr, sIte, sTup, sLst, sItem, sSl, sCall, sBlt, sMt, sMd, sListIt, sTupIt, sIt1, sIt2, itSeq, itEnum, itZip, sRng1, sRng2, sOsNil, sOsCons, sEfNil, sEfCons, sEoNone, sEoSome, setSlot, setAll, xSet, xSetH, xPar, xUnp, setItem, xSetIx, xEx, xIte, xRet, xSeq, opd, Opd.get, Opd.arg, args, gets, slotsOf, optI, Z.at, Z.put, Z.wipe, Z.back, Z.freeze, keepF, bor, unbor, bindT, bindT.bindTs, binop, isin, isNon, cmpop, iop, nop, D.cmpo, deq, D.eqv, isInst, isInsts, seqOf, lenop, lstop, intop, absop, bltin1, int2, bltin2, bltin, ixop, fldop, thop, stop, mtop, mtop0, mtop1, extop, popop, D.ok, D.okd, rngL_nat, rngOk_nat (show n ≤ 1000 by omega)]) ⟨ha, [], none, rfl, List.nil_sublist _⟩ (by
        rintro i x z hx ⟨hd, ps, u, rfl, hs⟩
        have hi : i < n := by
          have := (List.getElem?_eq_some_iff.mp hx).1
          simpa using this
        have hxi : i = x := by
          rw [List.getElem?_eq_getElem (by simpa using hi)] at hx
          simpa using hx
        subst hxi
        obtain ⟨h', ps', hs', e⟩ := lines_step (u := u) (v := v) (hd := hd) (show 2 ≤ m - 1 by omega) hk sD h7 hi hs
        exact ⟨zLi n v (ps.map pairD) (some (.frz, .int (i : Nat))) none hd, _, by simp [e_var, e_int, e_bl, e_non, e_str, e_bin, e_neg, e_not, e_cmp, e_cmp2, e_and, e_or, e_ite, e_tup, e_lst, e_dic0, e_ix, e_sl, e_rev, e_fld, e_there, e_call, e_web, e_blt, e_isi, e_mt, e_md, e_listIt, e_tupIt, e_val, o_nil, o_cons, ef_nil, ef_cons, eo_none, eo_some, ei_seq, ei_rng1, ei_rng2, ei_zip, ei_enum, r_nil, r_cons, x_nil, x_cons, x_set, x_setH, x_par, x_unp, x_setIx, x_ex, x_ite, x_ret, x_pass, x_brk, x_cont, sVar, sOp1, sOp2, plainB, plain1, plainB2, plain2, sNeg, sNot, sCmp2, sAnd, sOr, sIte, sTup, sLst, sItem, sSl, sCall, sBlt, sMt, sMd, sListIt, sTupIt, sIt1, sIt2, itSeq, itEnum, itZip, sRng1, sRng2, sOsNil, sOsCons, sEfNil, sEfCons, sEoNone, sEoSome, setSlot, setAll, xSet, xSetH, xPar, xUnp, setItem, xSetIx, xEx, xIte, xRet, xSeq, opd, Opd.get, Opd.arg, args, gets, slotsOf, optI, Z.at, Z.put, Z.wipe, Z.back, Z.freeze, keepF, bor, unbor, bindT, bindT.bindTs, binop, isin, isNon, cmpop, iop, nop, D.cmpo, deq, D.eqv, isInst, isInsts, seqOf, lenop, lstop, intop, absop, bltin1, int2, bltin2, bltin, ixop, fldop, thop, stop, mtop, mtop0, mtop1, extop, popop, D.ok, D.okd], e, h', ps', _, rfl, hs'⟩)
  rw [List.length_range] at hs
  refine ⟨hd, ps, WOk.sub h1 h7 hs, den_rt ⟨[some (.frz, .hand), some (.frz, .int n), none, none, none, none], some h.D, []⟩ hf hg (by omega) rfl (by show 2 ≤ 6; omega) rfl ?_⟩
  refine xs_nx (z1 := zLi n v [] none none ha) (by simp [e_var, e_int, e_bl, e_non, e_str, e_bin, e_neg, e_not, e_cmp, e_cmp2, e_and, e_or, e_ite, e_tup, e_lst, e_dic0, e_ix, e_sl, e_rev, e_fld, e_there, e_call, e_web, e_blt, e_isi, e_mt, e_md, e_listIt, e_tupIt, e_val, o_nil, o_cons, ef_nil, ef_cons, eo_none, eo_some, ei_seq, ei_rng1, ei_rng2, ei_zip, ei_enum, r_nil, r_cons, x_nil, x_cons, x_set, x_setH, x_par, x_unp, x_setIx, x_ex, x_ite, x_ret, x_pass, x_brk, x_cont, sVar, sOp1, sOp2, plainB, plain1, plainB2, plain2, sNeg, sNot, sCmp2, sAnd, sOr, sIte, sTup, sLst, sItem, sSl, sCall, sBlt, sMt, sMd, sListIt, sTupIt, sIt1, sIt2, itSeq, itEnum, itZip, sRng1, sRng2, sOsNil, sOsCons, sEfNil, sEfCons, sEoNone, sEoSome, setSlot, setAll, xSet, xSetH, xPar, xUnp, setItem, xSetIx, xEx, xIte, xRet, xSeq, opd, Opd.get, Opd.arg, args, gets, slotsOf, optI, Z.at, Z.put, Z.wipe, Z.back, Z.freeze, keepF, bor, unbor, bindT, bindT.bindTs, binop, isin, isNon, cmpop, iop, nop, D.cmpo, deq, D.eqv, isInst, isInsts, seqOf, lenop, lstop, intop, absop, bltin1, int2, bltin2, bltin, ixop, fldop, thop, stop, mtop, mtop0, mtop1, extop, popop, D.ok, D.okd, e1]) (xs_nx e ?_)
  simp [e_var, e_int, e_bl, e_non, e_str, e_bin, e_neg, e_not, e_cmp, e_cmp2, e_and, e_or, e_ite, e_tup, e_lst, e_dic0, e_ix, e_sl, e_rev, e_fld, e_there, e_call, e_web, e_blt, e_isi, e_mt, e_md, e_listIt, e_tupIt, e_val, o_nil, o_cons, ef_nil, ef_cons, eo_none, eo_some, ei_seq, ei_rng1, ei_rng2, ei_zip, ei_enum, r_nil, r_cons, x_nil, x_cons, x_set, x_setH, x_par, x_unp, x_setIx, x_ex, x_ite, x_ret, x_pass, x_brk, x_cont, sVar, sOp1, sOp2, plainB, plain1, plainB2, plain2, sNeg, sNot, sCmp2, sAnd, sOr, sIte, sTup, sLst, sItem, sSl, sCall, sBlt, sMt, sMd, sListIt, sTupIt, sIt1, sIt2, itSeq, itEnum, itZip, sRng1, sRng2, sOsNil, sOsCons, sEfNil, sEfCons, sEoNone, sEoSome, setSlot, setAll, xSet, xSetH, xPar, xUnp, setItem, xSetIx, xEx, xIte, xRet, xSeq, opd, Opd.get, Opd.arg, args, gets, slotsOf, optI, Z.at, Z.put, Z.wipe, Z.back, Z.freeze, keepF, bor, unbor, bindT, bindT.bindTs, binop, isin, isNon, cmpop, iop, nop, D.cmpo, deq, D.eqv, isInst, isInsts, seqOf, lenop, lstop, intop, absop, bltin1, int2, bltin2, bltin, ixop, fldop, thop, stop, mtop, mtop0, mtop1, extop, popop, D.ok, D.okd]
end BV

/-! While loops; all rings. -/
namespace BV
open PySem (Str)
theorem ex_whl {F : Phi} {c : E} {body : Ss} (Inv : Nat → Z → Prop) (Post : Z → Prop)
    (hs : ∀ k z, Inv k z → (∃ z1 o, ev F c z = some (z1, o, .bl false) ∧ Post z1) ∨ (∃ z1 o z2 k', ev F c z = some (z1, o, .bl true) ∧ execs F body z1 = some (.nx z2) ∧ k' < k ∧ Inv k' z2)) {z : Z} {k : Nat} (h0 : Inv k z) (hk : k < fuel) :
    ∃ z', exec F (.whl c body) z = some (.nx z') ∧ Post z' := by
  have key : ∀ (f k : Nat) (z : Z), Inv k z → k < f → ∃ z', whlLoop (ev F c) (execs F body) f z = some (.nx z') ∧ Post z' := by
    intro f
    induction f with
    | zero => intro k z _ h; exact absurd h (Nat.not_lt_zero _)
    | succ f ih =>
      intro k z hi hk
      rcases hs k z hi with ⟨z1, o, e, hp⟩ | ⟨z1, o, z2, k', e1, e2, hlt, hi2⟩
      · refine ⟨z1, ?_, hp⟩
        unfold whlLoop
        rw [e]
      · obtain ⟨z', e3, hp⟩ := ih k' z2 hi2 (by omega)
        refine ⟨z', ?_, hp⟩
        unfold whlLoop
        rw [e1]
        simp only
        rw [e2]
        exact e3
  obtain ⟨z', e, hp⟩ := key fuel k z h0 hk
  refine ⟨z', ?_, hp⟩
  show xWhl _ _ _ = _
  unfold xWhl
  rw [e]
  rfl
/-- a tuple of corners -/
def tupN (l : List Nat) : D := .tup (l.map fun (i : Nat) => .int (i : Int))
def natI (l : List Nat) : List Int := l.map fun (i : Nat) => (i : Int)
theorem tupN_eq (l : List Nat) : tupN l = tupI (natI l) := by simp [tupN, tupI, natI]
def lastN (p : List Nat) : Nat := p.getD (p.length - 1) 0
def closes (ls : List (Nat × Nat)) (p : List Nat) : Bool := decide (2 < p.length) && (decide (p.getD 1 0 < lastN p) && adj ls (lastN p) (p.getD 0 0))
def onward (p : List Nat) (b : Nat) : Bool := decide (p.getD 0 0 < b) && !p.contains b
def nexts (n : Nat) (ls : List (Nat × Nat)) (p : List Nat) : List (List Nat) := ((nearL n ls (lastN p)).filter (onward p)).map fun b => p ++ [b]
def descF (n : Nat) (ls : List (Nat × Nat)) : Nat → List Nat → List (List Nat)
  | 0, _ => []
  | k + 1, p => (if closes ls p then [p] else []) ++ (nexts n ls p).flatMap (descF n ls k)
def ringsL (n : Nat) (ls : List (Nat × Nat)) : List (List Nat) := (List.range n).flatMap fun a => descF n ls n [a]
def PathOk (n : Nat) (p : List Nat) : Prop := p ≠ [] ∧ p.Nodup ∧ ∀ x ∈ p, x < n
theorem PathOk.len {n : Nat} {p : List Nat} (h : PathOk n p) : 0 < p.length ∧ p.length ≤ n := by
  refine ⟨List.length_pos_iff.mpr h.1, ?_⟩
  have := h.2.1.length_le_of_subset (l₂ := List.range n) (fun x hx => List.mem_range.mpr (h.2.2 x hx))
  simpa using this
theorem PathOk.next {n : Nat} {ls : List (Nat × Nat)} {p q : List Nat} (h : PathOk n p) (hq : q ∈ nexts n ls p) : PathOk n q ∧ q.length = p.length + 1 := by
  simp only [nexts, List.mem_map, List.mem_filter, mem_nearL, onward, Bool.and_eq_true, decide_eq_true_eq, Bool.not_eq_true', List.contains_eq_mem, decide_eq_false_iff_not] at hq
  obtain ⟨b, ⟨⟨hb, _⟩, _, hn⟩, rfl⟩ := hq
  refine ⟨⟨by simp, ?_, ?_⟩, by simp⟩
  · rw [List.nodup_append]
    refine ⟨h.2.1, by simp, ?_⟩
    intro x hx y hy e
    simp at hy
    subst hy e
    exact hn hx
  · intro x hx
    rcases List.mem_append.mp hx with hx | hx
    · exact h.2.2 x hx
    · simp at hx
      omega
/-- how many steps at most -/
def costK (n : Nat) : Nat → Nat
  | 0 => 0
  | k + 1 => 1 + n * costK n k
def costs (n : Nat) (w : List (List Nat)) : Nat := (w.map fun p => costK n (n + 1 - p.length)).sum
theorem costs_append {n : Nat} {a b : List (List Nat)} : costs n (a ++ b) = costs n a + costs n b := by
  simp [costs]
theorem costs_const {n k : Nat} : ∀ {w : List (List Nat)}, (∀ p ∈ w, p.length = k) → costs n w = w.length * costK n (n + 1 - k)
  | [], _ => by simp [costs]
  | p :: r, h => by
    have ih := costs_const (n := n) (k := k) (w := r) fun q hq => h q (List.mem_cons_of_mem _ hq)
    have hp := h p List.mem_cons_self
    have e : costs n (p :: r) = costK n (n + 1 - p.length) + costs n r := by simp [costs]
    rw [e, ih, hp, List.length_cons, Nat.add_mul]
    omega
theorem costs_next {n : Nat} {ls : List (Nat × Nat)} {p : List Nat} (h : PathOk n p) : costs n (nexts n ls p) + 1 ≤ costK n (n + 1 - p.length) := by
  have hl := h.len
  rw [costs_const (k := p.length + 1) fun q hq => (h.next hq).2]
  obtain ⟨j, hj⟩ : ∃ j, n + 1 - p.length = j + 1 := ⟨n - p.length, by omega⟩
  have e2 : n + 1 - (p.length + 1) = j := by omega
  rw [hj, e2, costK]
  have hn : (nexts n ls p).length ≤ n := by
    have h1 := List.length_filter_le (onward p) (nearL n ls (lastN p))
    have h2 := len_nearL (n := n) (ls := ls) (a := lastN p)
    simp only [nexts, List.length_map]
    omega
  have := Nat.mul_le_mul_right (costK n j) hn
  omega
theorem len_costs {n : Nat} : ∀ {w : List (List Nat)}, (∀ p ∈ w, PathOk n p) → w.length ≤ costs n w
  | [], _ => by simp [costs]
  | p :: r, h => by
    have ih := len_costs (n := n) (w := r) fun q hq => h q (List.mem_cons_of_mem _ hq)
    have hp := (h p List.mem_cons_self).len
    have e : costs n (p :: r) = costK n (n + 1 - p.length) + costs n r := by simp [costs]
    obtain ⟨j, hj⟩ : ∃ j, n + 1 - p.length = j + 1 := ⟨n - p.length, by omega⟩
    rw [e, hj, costK, List.length_cons]
    omega
/-- all that comes of the ways that wait -/
def descs (n : Nat) (ls : List (Nat × Nat)) (w : List (List Nat)) : List (List Nat) := w.flatMap fun p => descF n ls (n + 1 - p.length) p
theorem descs_pop {n : Nat} {ls : List (Nat × Nat)} {w : List (List Nat)} {p : List Nat} (h : PathOk n p) (f : List (List Nat)) : (f ++ descs n ls (w ++ [p])).Perm ((f ++ if closes ls p then [p] else []) ++ descs n ls (w ++ nexts n ls p)) := by
  obtain ⟨j, hj⟩ : ∃ j, n + 1 - p.length = j + 1 := ⟨n - p.length, by have := h.len; omega⟩
  have e1 : descs n ls (nexts n ls p) = (nexts n ls p).flatMap (descF n ls j) := by
    unfold descs
    rw [List.flatMap_def, List.flatMap_def]
    congr 1
    refine List.map_congr_left fun q hq => ?_
    have := (h.next hq).2
    have e2 : n + 1 - q.length = j := by omega
    rw [e2]
  have e3 : ∀ a b, descs n ls (a ++ b) = descs n ls a ++ descs n ls b := fun a b => by simp [descs]
  have e4 : descs n ls [p] = (if closes ls p then [p] else []) ++ (nexts n ls p).flatMap (descF n ls j) := by
    simp [descs, hj, descF]
  rw [e3, e3, e1, e4, List.append_assoc]
  refine List.Perm.append_left f ?_
  rw [← List.append_assoc, ← List.append_assoc]
  exact List.Perm.append_right _ List.perm_append_comm
end BV

/-! All rings, run. -/
namespace BV
open PySem (Str)
theorem ix_last {p : List Nat} (h : 0 < p.length) : atI (p.map fun (i : Nat) => D.int (i : Int)) (-1) = some (.int (lastN p : Nat)) := by
  have e : ixN p.length (-1) = some (p.length - 1) := by
    unfold ixN
    rw [if_neg (by omega), if_pos (by omega)]
    congr 1
    omega
  unfold atI
  rw [List.length_map, e]
  simp [lastN, List.getElem?_eq_getElem (show p.length - 1 < p.length by omega)]
theorem ix_at {p : List Nat} {k : Nat} (h : k < p.length) : atI (p.map fun (i : Nat) => D.int (i : Int)) (k : Int) = some (.int (p.getD k 0 : Nat)) := by
  rw [atI_mapN p _ k h]
  simp [List.getElem?_eq_getElem h]
theorem okds_N {k : Nat} (p : List Nat) : D.okds k (p.map fun (i : Nat) => D.int (i : Int)) = true := by
  induction p with
  | nil => rfl
  | cons x r ih => simp [D.okds, D.okd, ih]
theorem member_N (p : List Nat) (b : Nat) : member (.int b) (p.map fun (i : Nat) => D.int (i : Int)) = some (p.contains b) := by
  unfold member
  rw [okds_N]
  have e : ∀ y : Nat, ((y : Int) == (b : Int)) = (y == b) := by intro y; rw [Bool.eq_iff_iff]; simp; omega
  simp only [D.ok, D.okd, Bool.and_true, if_true, List.any_map, Function.comp_def, D.eqv, e]
  congr 1
  rw [Bool.eq_iff_iff]
  simp
theorem popop_app (w : List (List Nat)) (p : List Nat) : popop ((w ++ [p]).map tupN) = some (.lst (w.map tupN), tupN p) := by
  unfold popop
  simp
def ringsC : E := .cmp .gt (.blt .len (.cons (.var 2) .nil)) (.int 0)
def ringsIf (iH : Nat) : S := .ite (.and (.cmp .gt (.blt .len (.cons (.var 3) .nil)) (.int 2)) (.and (.cmp .lt (.ix (.var 3) (.int 1)) (.ix (.var 3) (.neg (.int 1)))) (.call iH (.cons (.var 0) (.cons (.ix (.var 3) (.neg (.int 1))) (.cons (.ix (.var 3) (.int 0)) .nil)))))) (.cons (.ex (.mt .append 1 (.cons (.var 3) .nil))) .nil) .nil
def ringsNx (iN : Nat) : E := .comp (.bin .add (.var 3) (.tup (.cons (.var 5) .nil))) (.nm 5) (.seq (.call iN (.cons (.var 0) (.cons (.ix (.var 3) (.neg (.int 1))) .nil)))) (.and (.cmp .gt (.var 5) (.ix (.var 3) (.int 0))) (.cmp .notin (.var 5) (.var 3))) [5]
def ringsB (iH iN : Nat) : Ss := (.cons (.set 3 false (.mt .pop 2 .nil)) (.cons (ringsIf iH) (.cons (.ex (.mt .extend 2 (.cons (ringsNx iN) .nil))) .nil)))
def bAllRings (iH iN : Nat) : Ss := (.cons (.par [(1, true), (2, true)] (.cons (.lst .nil) (.cons (.comp (.tup (.cons (.var 4) .nil)) (.nm 4) (.rng1 (.fld (.var 0) .corners)) (.bl true) [4]) .nil)))
  (.cons (.whl ringsC (ringsB iH iN))
  (.cons (.ret (.blt .sorted (.cons (.var 1) .nil)))
  .nil)))
abbrev zR (n : Nat) (ls : List (Nat × Nat)) (f w : List (List Nat)) (u3 : Option (Ow × D)) (h : Option (List D)) : Z := ⟨[some (.frz, .web n ls), some (.own, .lst (f.map tupN)), some (.own, .lst (w.map tupN)), u3, none, none], h, []⟩
theorem rings_pop {F : Phi} {n : Nat} {ls : List (Nat × Nat)} {f w : List (List Nat)} {p : List Nat} {u : Option (Ow × D)} {h : Option (List D)} : exec F (.set 3 false (.mt .pop 2 .nil)) (zR n ls f (w ++ [p]) u h) = some (.nx (zR n ls f w (some (.frz, tupN p)) h)) := by
  have e := popop_app w p
  rw [x_set, e_mt, ef_nil]
  unfold xSet sMt
  simp only [Z.at, zR, List.getElem?_cons_succ, List.getElem?_cons_zero, Option.join_some, sEfNil]
  simp only [List.map_append, List.map_cons, List.map_nil] at e
  simp [mtop, mtop0, e, setSlot, Z.put]
theorem rings_if {P : List Def} {m iH n : Nat} {ls : List (Nat × Nat)} {f w : List (List Nat)} {p : List Nat} {h : Option (List D)} (hm : 12 ≤ m) (sH : SHas P iH) (hp : PathOk n p) (hf : f.length < lim) : exec (den P m) (ringsIf iH) (zR n ls f w (some (.frz, tupN p)) h) = some (.nx (zR n ls (f ++ if closes ls p then [p] else []) w (some (.frz, tupN p)) h)) := by
  have hl := hp.len.1
  have eL := ix_last hl
  have e0 : atI (p.map fun (i : Nat) => D.int (i : Int)) 0 = some (.int (p.getD 0 0 : Nat)) := ix_at (k := 0) hl
  have eH := sH m h n ls (lastN p) (p.getD 0 0) hm
  by_cases q : 2 < p.length
  · have qi : (2 : Int) < p.length := by omega
    have e1 : atI (p.map fun (i : Nat) => D.int (i : Int)) 1 = some (.int (p.getD 1 0 : Nat)) := ix_at (k := 1) (show 1 < p.length by omega)
    by_cases q2 : p.getD 1 0 < lastN p
    · cases q3 : adj ls (lastN p) (p.getD 0 0)
      · have c : closes ls p = false := by simp only [closes, q3, Bool.and_false]
        rw [q3] at eH
        simp only [List.getD_eq_getElem?_getD] at *
        simp [ringsIf, zR, tupN, e_var, e_int, e_bl, e_non, e_str, e_bin, e_neg, e_not, e_cmp, e_cmp2, e_and, e_or, e_ite, e_tup, e_lst, e_dic0, e_ix, e_sl, e_rev, e_fld, e_there, e_call, e_web, e_blt, e_isi, e_mt, e_md, e_listIt, e_tupIt, e_val, o_nil, o_cons, ef_nil, ef_cons, eo_none, eo_some, ei_seq, ei_rng1, ei_rng2, ei_zip, ei_enum, r_nil, r_cons, x_nil, x_cons, x_set, x_setH, x_par, x_unp, x_setIx, x_ex, x_ite, x_ret, x_pass, x_brk, x_cont, sVar, sOp1, sOp2, plainB, plain1, plainB2, plain2, sNeg, sNot, sCmp2, sAnd, sOr, sIte, sTup, sLst, sItem, sSl, sCall, sBlt, sMt, sMd, sListIt, sTupIt, sIt1, sIt2, itSeq, itEnum, itZip, sRng1, sRng2, sOsNil, sOsCons, sEfNil, sEfCons, sEoNone, sEoSome, setSlot, setAll, xSet, xSetH, xPar, xUnp, setItem, xSetIx, xEx, xIte, xRet, xSeq, opd, Opd.get, Opd.arg, args, gets, slotsOf, optI, Z.at, Z.put, Z.wipe, Z.back, Z.freeze, keepF, bor, unbor, bindT, bindT.bindTs, binop, isin, isNon, cmpop, iop, nop, D.cmpo, deq, D.eqv, isInst, isInsts, seqOf, lenop, lstop, intop, absop, bltin1, int2, bltin2, bltin, ixop, fldop, thop, stop, mtop, mtop0, mtop1, extop, popop, D.ok, D.okd, qi, e1, eL, q2, e0, eH, c]
      · have c : closes ls p = true := by simp only [closes, q3, q, q2, decide_true, Bool.and_true]
        rw [q3] at eH
        simp only [List.getD_eq_getElem?_getD] at *
        simp [ringsIf, zR, tupN, e_var, e_int, e_bl, e_non, e_str, e_bin, e_neg, e_not, e_cmp, e_cmp2, e_and, e_or, e_ite, e_tup, e_lst, e_dic0, e_ix, e_sl, e_rev, e_fld, e_there, e_call, e_web, e_blt, e_isi, e_mt, e_md, e_listIt, e_tupIt, e_val, o_nil, o_cons, ef_nil, ef_cons, eo_none, eo_some, ei_seq, ei_rng1, ei_rng2, ei_zip, ei_enum, r_nil, r_cons, x_nil, x_cons, x_set, x_setH, x_par, x_unp, x_setIx, x_ex, x_ite, x_ret, x_pass, x_brk, x_cont, sVar, sOp1, sOp2, plainB, plain1, plainB2, plain2, sNeg, sNot, sCmp2, sAnd, sOr, sIte, sTup, sLst, sItem, sSl, sCall, sBlt, sMt, sMd, sListIt, sTupIt, sIt1, sIt2, itSeq, itEnum, itZip, sRng1, sRng2, sOsNil, sOsCons, sEfNil, sEfCons, sEoNone, sEoSome, setSlot, setAll, xSet, xSetH, xPar, xUnp, setItem, xSetIx, xEx, xIte, xRet, xSeq, opd, Opd.get, Opd.arg, args, gets, slotsOf, optI, Z.at, Z.put, Z.wipe, Z.back, Z.freeze, keepF, bor, unbor, bindT, bindT.bindTs, binop, isin, isNon, cmpop, iop, nop, D.cmpo, deq, D.eqv, isInst, isInsts, seqOf, lenop, lstop, intop, absop, bltin1, int2, bltin2, bltin, ixop, fldop, thop, stop, mtop, mtop0, mtop1, extop, popop, D.ok, D.okd, qi, e1, eL, q2, e0, eH, c, hf]
    · have c : closes ls p = false := by simp only [closes, q2, decide_false, Bool.and_false, Bool.false_and]
      simp only [List.getD_eq_getElem?_getD] at *
      simp [ringsIf, zR, tupN, e_var, e_int, e_bl, e_non, e_str, e_bin, e_neg, e_not, e_cmp, e_cmp2, e_and, e_or, e_ite, e_tup, e_lst, e_dic0, e_ix, e_sl, e_rev, e_fld, e_there, e_call, e_web, e_blt, e_isi, e_mt, e_md, e_listIt, e_tupIt, e_val, o_nil, o_cons, ef_nil, ef_cons, eo_none, eo_some, ei_seq, ei_rng1, ei_rng2, ei_zip, ei_enum, r_nil, r_cons, x_nil, x_cons, x_set, x_setH, x_par, x_unp, x_setIx, x_ex, x_ite, x_ret, x_pass, x_brk, x_cont, sVar, sOp1, sOp2, plainB, plain1, plainB2, plain2, sNeg, sNot, sCmp2, sAnd, sOr, sIte, sTup, sLst, sItem, sSl, sCall, sBlt, sMt, sMd, sListIt, sTupIt, sIt1, sIt2, itSeq, itEnum, itZip, sRng1, sRng2, sOsNil, sOsCons, sEfNil, sEfCons, sEoNone, sEoSome, setSlot, setAll, xSet, xSetH, xPar, xUnp, setItem, xSetIx, xEx, xIte, xRet, xSeq, opd, Opd.get, Opd.arg, args, gets, slotsOf, optI, Z.at, Z.put, Z.wipe, Z.back, Z.freeze, keepF, bor, unbor, bindT, bindT.bindTs, binop, isin, isNon, cmpop, iop, nop, D.cmpo, deq, D.eqv, isInst, isInsts, seqOf, lenop, lstop, intop, absop, bltin1, int2, bltin2, bltin, ixop, fldop, thop, stop, mtop, mtop0, mtop1, extop, popop, D.ok, D.okd, qi, e1, eL, q2, c]
  · have c : closes ls p = false := by simp only [closes, q, decide_false, Bool.false_and]
    have qi : ¬ (2 : Int) < p.length := by omega
    simp [ringsIf, zR, tupN, e_var, e_int, e_bl, e_non, e_str, e_bin, e_neg, e_not, e_cmp, e_cmp2, e_and, e_or, e_ite, e_tup, e_lst, e_dic0, e_ix, e_sl, e_rev, e_fld, e_there, e_call, e_web, e_blt, e_isi, e_mt, e_md, e_listIt, e_tupIt, e_val, o_nil, o_cons, ef_nil, ef_cons, eo_none, eo_some, ei_seq, ei_rng1, ei_rng2, ei_zip, ei_enum, r_nil, r_cons, x_nil, x_cons, x_set, x_setH, x_par, x_unp, x_setIx, x_ex, x_ite, x_ret, x_pass, x_brk, x_cont, sVar, sOp1, sOp2, plainB, plain1, plainB2, plain2, sNeg, sNot, sCmp2, sAnd, sOr, sIte, sTup, sLst, sItem, sSl, sCall, sBlt, sMt, sMd, sListIt, sTupIt, sIt1, sIt2, itSeq, itEnum, itZip, sRng1, sRng2, sOsNil, sOsCons, sEfNil, sEfCons, sEoNone, sEoSome, setSlot, setAll, xSet, xSetH, xPar, xUnp, setItem, xSetIx, xEx, xIte, xRet, xSeq, opd, Opd.get, Opd.arg, args, gets, slotsOf, optI, Z.at, Z.put, Z.wipe, Z.back, Z.freeze, keepF, bor, unbor, bindT, bindT.bindTs, binop, isin, isNon, cmpop, iop, nop, D.cmpo, deq, D.eqv, isInst, isInsts, seqOf, lenop, lstop, intop, absop, bltin1, int2, bltin2, bltin, ixop, fldop, thop, stop, mtop, mtop0, mtop1, extop, popop, D.ok, D.okd, qi, c]
theorem rings_next {P : List Def} {m iN n : Nat} {ls : List (Nat × Nat)} {f w : List (List Nat)} {p : List Nat} {h : Option (List D)} (hm : 13 ≤ m) (hn : n ≤ 7) (sN : SNear P iN) (hp : PathOk n p) : ev (den P m) (ringsNx iN) (zR n ls f w (some (.frz, tupN p)) h) = some (zR n ls f w (some (.frz, tupN p)) h, true, .lst ((nexts n ls p).map tupN)) := by
  have hl := hp.len
  have eL := ix_last hl.1
  have e0 : atI (p.map fun (i : Nat) => D.int (i : Int)) 0 = some (.int (p.getD 0 0 : Nat)) := ix_at (k := 0) hl.1
  have l1 : 1 ≤ lim := by unfold lim; omega
  have l2 := lim2
  have hlim : p.length + 1 ≤ lim := lim_gt (by omega)
  have eN := sN m h n ls (lastN p) hm hn
  rw [nexts, List.map_map]
  refine ev_compM (bs := []) (nearL n ls (lastN p)) (fun b => .int (b : Nat)) (onward p) _ (by simp [zR, tupN, e_var, e_int, e_bl, e_non, e_str, e_bin, e_neg, e_not, e_cmp, e_cmp2, e_and, e_or, e_ite, e_tup, e_lst, e_dic0, e_ix, e_sl, e_rev, e_fld, e_there, e_call, e_web, e_blt, e_isi, e_mt, e_md, e_listIt, e_tupIt, e_val, o_nil, o_cons, ef_nil, ef_cons, eo_none, eo_some, ei_seq, ei_rng1, ei_rng2, ei_zip, ei_enum, r_nil, r_cons, x_nil, x_cons, x_set, x_setH, x_par, x_unp, x_setIx, x_ex, x_ite, x_ret, x_pass, x_brk, x_cont, sVar, sOp1, sOp2, plainB, plain1, plainB2, plain2, sNeg, sNot, sCmp2, sAnd, sOr, sIte, sTup, sLst, sItem, sSl, sCall, sBlt, sMt, sMd, sListIt, sTupIt, sIt1, sIt2, itSeq, itEnum, itZip, sRng1, sRng2, sOsNil, sOsCons, sEfNil, sEfCons, sEoNone, sEoSome, setSlot, setAll, xSet, xSetH, xPar, xUnp, setItem, xSetIx, xEx, xIte, xRet, xSeq, opd, Opd.get, Opd.arg, args, gets, slotsOf, optI, Z.at, Z.put, Z.wipe, Z.back, Z.freeze, keepF, bor, unbor, bindT, bindT.bindTs, binop, isin, isNon, cmpop, iop, nop, D.cmpo, deq, D.eqv, isInst, isInsts, seqOf, lenop, lstop, intop, absop, bltin1, int2, bltin2, bltin, ixop, fldop, thop, stop, mtop, mtop0, mtop1, extop, popop, D.ok, D.okd, eL, eN, intL]) (lim_gt (Nat.le_trans len_nearL (by omega))) (by simp [zR, keepF, Z.at]) (fun b hb => ?_)
  have eM := member_N p b
  simp only [List.getD_eq_getElem?_getD] at *
  refine ⟨⟨[some (.frz, .web n ls), some (.own, .lst (f.map tupN)), some (.own, .lst (w.map tupN)), some (.frz, tupN p), none, some (.frz, .int (b : Nat))], h, []⟩, ⟨[some (.frz, .web n ls), some (.own, .lst (f.map tupN)), some (.own, .lst (w.map tupN)), some (.frz, tupN p), none, some (.frz, .int (b : Nat))], h, []⟩, false, by simp [zR, e_var, e_int, e_bl, e_non, e_str, e_bin, e_neg, e_not, e_cmp, e_cmp2, e_and, e_or, e_ite, e_tup, e_lst, e_dic0, e_ix, e_sl, e_rev, e_fld, e_there, e_call, e_web, e_blt, e_isi, e_mt, e_md, e_listIt, e_tupIt, e_val, o_nil, o_cons, ef_nil, ef_cons, eo_none, eo_some, ei_seq, ei_rng1, ei_rng2, ei_zip, ei_enum, r_nil, r_cons, x_nil, x_cons, x_set, x_setH, x_par, x_unp, x_setIx, x_ex, x_ite, x_ret, x_pass, x_brk, x_cont, sVar, sOp1, sOp2, plainB, plain1, plainB2, plain2, sNeg, sNot, sCmp2, sAnd, sOr, sIte, sTup, sLst, sItem, sSl, sCall, sBlt, sMt, sMd, sListIt, sTupIt, sIt1, sIt2, itSeq, itEnum, itZip, sRng1, sRng2, sOsNil, sOsCons, sEfNil, sEfCons, sEoNone, sEoSome, setSlot, setAll, xSet, xSetH, xPar, xUnp, setItem, xSetIx, xEx, xIte, xRet, xSeq, opd, Opd.get, Opd.arg, args, gets, slotsOf, optI, Z.at, Z.put, Z.wipe, Z.back, Z.freeze, keepF, bor, unbor, bindT, bindT.bindTs, binop, isin, isNon, cmpop, iop, nop, D.cmpo, deq, D.eqv, isInst, isInsts, seqOf, lenop, lstop, intop, absop, bltin1, int2, bltin2, bltin, ixop, fldop, thop, stop, mtop, mtop0, mtop1, extop, popop, D.ok, D.okd], ?_, by simp [zR, e_var, e_int, e_bl, e_non, e_str, e_bin, e_neg, e_not, e_cmp, e_cmp2, e_and, e_or, e_ite, e_tup, e_lst, e_dic0, e_ix, e_sl, e_rev, e_fld, e_there, e_call, e_web, e_blt, e_isi, e_mt, e_md, e_listIt, e_tupIt, e_val, o_nil, o_cons, ef_nil, ef_cons, eo_none, eo_some, ei_seq, ei_rng1, ei_rng2, ei_zip, ei_enum, r_nil, r_cons, x_nil, x_cons, x_set, x_setH, x_par, x_unp, x_setIx, x_ex, x_ite, x_ret, x_pass, x_brk, x_cont, sVar, sOp1, sOp2, plainB, plain1, plainB2, plain2, sNeg, sNot, sCmp2, sAnd, sOr, sIte, sTup, sLst, sItem, sSl, sCall, sBlt, sMt, sMd, sListIt, sTupIt, sIt1, sIt2, itSeq, itEnum, itZip, sRng1, sRng2, sOsNil, sOsCons, sEfNil, sEfCons, sEoNone, sEoSome, setSlot, setAll, xSet, xSetH, xPar, xUnp, setItem, xSetIx, xEx, xIte, xRet, xSeq, opd, Opd.get, Opd.arg, args, gets, slotsOf, optI, Z.at, Z.put, Z.wipe, Z.back, Z.freeze, keepF, bor, unbor, bindT, bindT.bindTs, binop, isin, isNon, cmpop, iop, nop, D.cmpo, deq, D.eqv, isInst, isInsts, seqOf, lenop, lstop, intop, absop, bltin1, int2, bltin2, bltin, ixop, fldop, thop, stop, mtop, mtop0, mtop1, extop, popop, D.ok, D.okd], fun _ => ⟨⟨[some (.frz, .web n ls), some (.own, .lst (f.map tupN)), some (.own, .lst (w.map tupN)), some (.frz, tupN p), none, some (.frz, .int (b : Nat))], h, []⟩, false, by simp [tupN, e_var, e_int, e_bl, e_non, e_str, e_bin, e_neg, e_not, e_cmp, e_cmp2, e_and, e_or, e_ite, e_tup, e_lst, e_dic0, e_ix, e_sl, e_rev, e_fld, e_there, e_call, e_web, e_blt, e_isi, e_mt, e_md, e_listIt, e_tupIt, e_val, o_nil, o_cons, ef_nil, ef_cons, eo_none, eo_some, ei_seq, ei_rng1, ei_rng2, ei_zip, ei_enum, r_nil, r_cons, x_nil, x_cons, x_set, x_setH, x_par, x_unp, x_setIx, x_ex, x_ite, x_ret, x_pass, x_brk, x_cont, sVar, sOp1, sOp2, plainB, plain1, plainB2, plain2, sNeg, sNot, sCmp2, sAnd, sOr, sIte, sTup, sLst, sItem, sSl, sCall, sBlt, sMt, sMd, sListIt, sTupIt, sIt1, sIt2, itSeq, itEnum, itZip, sRng1, sRng2, sOsNil, sOsCons, sEfNil, sEfCons, sEoNone, sEoSome, setSlot, setAll, xSet, xSetH, xPar, xUnp, setItem, xSetIx, xEx, xIte, xRet, xSeq, opd, Opd.get, Opd.arg, args, gets, slotsOf, optI, Z.at, Z.put, Z.wipe, Z.back, Z.freeze, keepF, bor, unbor, bindT, bindT.bindTs, binop, isin, isNon, cmpop, iop, nop, D.cmpo, deq, D.eqv, isInst, isInsts, seqOf, lenop, lstop, intop, absop, bltin1, int2, bltin2, bltin, ixop, fldop, thop, stop, mtop, mtop0, mtop1, extop, popop, D.ok, D.okd, l1, hlim], by simp [zR, e_var, e_int, e_bl, e_non, e_str, e_bin, e_neg, e_not, e_cmp, e_cmp2, e_and, e_or, e_ite, e_tup, e_lst, e_dic0, e_ix, e_sl, e_rev, e_fld, e_there, e_call, e_web, e_blt, e_isi, e_mt, e_md, e_listIt, e_tupIt, e_val, o_nil, o_cons, ef_nil, ef_cons, eo_none, eo_some, ei_seq, ei_rng1, ei_rng2, ei_zip, ei_enum, r_nil, r_cons, x_nil, x_cons, x_set, x_setH, x_par, x_unp, x_setIx, x_ex, x_ite, x_ret, x_pass, x_brk, x_cont, sVar, sOp1, sOp2, plainB, plain1, plainB2, plain2, sNeg, sNot, sCmp2, sAnd, sOr, sIte, sTup, sLst, sItem, sSl, sCall, sBlt, sMt, sMd, sListIt, sTupIt, sIt1, sIt2, itSeq, itEnum, itZip, sRng1, sRng2, sOsNil, sOsCons, sEfNil, sEfCons, sEoNone, sEoSome, setSlot, setAll, xSet, xSetH, xPar, xUnp, setItem, xSetIx, xEx, xIte, xRet, xSeq, opd, Opd.get, Opd.arg, args, gets, slotsOf, optI, Z.at, Z.put, Z.wipe, Z.back, Z.freeze, keepF, bor, unbor, bindT, bindT.bindTs, binop, isin, isNon, cmpop, iop, nop, D.cmpo, deq, D.eqv, isInst, isInsts, seqOf, lenop, lstop, intop, absop, bltin1, int2, bltin2, bltin, ixop, fldop, thop, stop, mtop, mtop0, mtop1, extop, popop, D.ok, D.okd]⟩⟩
  by_cases q : p[0]?.getD 0 < b
  · simp [tupN, e_var, e_int, e_bl, e_non, e_str, e_bin, e_neg, e_not, e_cmp, e_cmp2, e_and, e_or, e_ite, e_tup, e_lst, e_dic0, e_ix, e_sl, e_rev, e_fld, e_there, e_call, e_web, e_blt, e_isi, e_mt, e_md, e_listIt, e_tupIt, e_val, o_nil, o_cons, ef_nil, ef_cons, eo_none, eo_some, ei_seq, ei_rng1, ei_rng2, ei_zip, ei_enum, r_nil, r_cons, x_nil, x_cons, x_set, x_setH, x_par, x_unp, x_setIx, x_ex, x_ite, x_ret, x_pass, x_brk, x_cont, sVar, sOp1, sOp2, plainB, plain1, plainB2, plain2, sNeg, sNot, sCmp2, sAnd, sOr, sIte, sTup, sLst, sItem, sSl, sCall, sBlt, sMt, sMd, sListIt, sTupIt, sIt1, sIt2, itSeq, itEnum, itZip, sRng1, sRng2, sOsNil, sOsCons, sEfNil, sEfCons, sEoNone, sEoSome, setSlot, setAll, xSet, xSetH, xPar, xUnp, setItem, xSetIx, xEx, xIte, xRet, xSeq, opd, Opd.get, Opd.arg, args, gets, slotsOf, optI, Z.at, Z.put, Z.wipe, Z.back, Z.freeze, keepF, bor, unbor, bindT, bindT.bindTs, binop, isin, isNon, cmpop, iop, nop, D.cmpo, deq, D.eqv, isInst, isInsts, seqOf, lenop, lstop, intop, absop, bltin1, int2, bltin2, bltin, ixop, fldop, thop, stop, mtop, mtop0, mtop1, extop, popop, D.ok, D.okd, e0, q, onward, eM]
  · simp [tupN, e_var, e_int, e_bl, e_non, e_str, e_bin, e_neg, e_not, e_cmp, e_cmp2, e_and, e_or, e_ite, e_tup, e_lst, e_dic0, e_ix, e_sl, e_rev, e_fld, e_there, e_call, e_web, e_blt, e_isi, e_mt, e_md, e_listIt, e_tupIt, e_val, o_nil, o_cons, ef_nil, ef_cons, eo_none, eo_some, ei_seq, ei_rng1, ei_rng2, ei_zip, ei_enum, r_nil, r_cons, x_nil, x_cons, x_set, x_setH, x_par, x_unp, x_setIx, x_ex, x_ite, x_ret, x_pass, x_brk, x_cont, sVar, sOp1, sOp2, plainB, plain1, plainB2, plain2, sNeg, sNot, sCmp2, sAnd, sOr, sIte, sTup, sLst, sItem, sSl, sCall, sBlt, sMt, sMd, sListIt, sTupIt, sIt1, sIt2, itSeq, itEnum, itZip, sRng1, sRng2, sOsNil, sOsCons, sEfNil, sEfCons, sEoNone, sEoSome, setSlot, setAll, xSet, xSetH, xPar, xUnp, setItem, xSetIx, xEx, xIte, xRet, xSeq, opd, Opd.get, Opd.arg, args, gets, slotsOf, optI, Z.at, Z.put, Z.wipe, Z.back, Z.freeze, keepF, bor, unbor, bindT, bindT.bindTs, binop, isin, isNon, cmpop, iop, nop, D.cmpo, deq, D.eqv, isInst, isInsts, seqOf, lenop, lstop, intop, absop, bltin1, int2, bltin2, bltin, ixop, fldop, thop, stop, mtop, mtop0, mtop1, extop, popop, D.ok, D.okd, e0, q, onward]
end BV

/-! All rings, run: the whole. -/
namespace BV
open PySem (Str)
def sortP (l : List (List Nat)) : List (List Nat) := l.mergeSort fun p q => leI (natI p) (natI q)
theorem tups_N (l : List (List Nat)) : tups (l.map tupN) = some (l.map natI) := by
  induction l with
  | nil => rfl
  | cons p r ih =>
    have e : intsD (p.map fun (i : Nat) => D.int (i : Int)) = some (natI p) := by
      have := intsD_map (natI p)
      simpa [natI, Function.comp_def] using this
    simp only [List.map_cons, tups, tupN, e]
    rw [show (List.map tupN r) = r.map tupN from rfl] at ih
    rw [ih]
theorem dsort_N {l : List (List Nat)} (h : ∀ p ∈ l, p ≠ []) : dsort (l.map tupN) = some ((sortP l).map tupN) := by
  have e1 : (sortP l).map tupN = (sortT (l.map natI)).map tupI := by
    have := List.map_mergeSort (r := fun p q => leI (natI p) (natI q)) (s := leI) (f := natI) (l := l) (fun _ _ _ _ => rfl)
    unfold sortP sortT
    rw [← this, List.map_map]
    refine List.map_congr_left fun p _ => tupN_eq p
  cases l with
  | nil => rw [e1]; simp [dsort, intsD, sortT, sortI]
  | cons p r =>
    unfold dsort
    have h2 : intsD ((p :: r).map tupN) = none := rfl
    rw [h2, tups_N, e1]
    simp only
    rw [if_pos]
    rw [List.all_eq_true]
    intro x hx
    obtain ⟨q, hq, rfl⟩ := List.mem_map.mp hx
    have := h q hq
    cases q with
    | nil => exact absurd rfl this
    | cons _ _ => rfl
def SAllRings (P : List Def) (i : Nat) : Prop := ∀ m h n ls, 14 ≤ m → WOk n ls → ∃ f : List (List Nat), f.Perm (ringsL n ls) ∧ (∀ p ∈ f, p ≠ []) ∧ den P m i [(false, .web n ls)] h = some (h, true, .lst ((sortP f).map tupN))
def SRings (P : List Def) (i : Nat) : Prop := ∀ m h n ls, 15 ≤ m → WOk n ls → ∃ f : List (List Nat), f.Perm (ringsL n ls) ∧ (∀ p ∈ f, p ≠ []) ∧ den P m i [(false, .web n ls)] h = some (h, false, .tup ((sortP f).map tupN))
theorem costs_start : ∀ n ≤ 7, n * costK n n < 1000000 := by decide +kernel
theorem rings_step {P : List Def} {m iH iN n : Nat} {ls : List (Nat × Nat)} {f w : List (List Nat)} {p : List Nat} {u : Option (Ow × D)} {h : Option (List D)} (hm : 13 ≤ m) (h7 : n ≤ 7) (sH : SHas P iH) (sN : SNear P iN) (hp : PathOk n p) (hfl : f.length + 1 ≤ 1000000) (hwl : w.length + 7 ≤ 10000000) :
    execs (den P m) (ringsB iH iN) (zR n ls f (w ++ [p]) u h) = some (.nx (zR n ls (f ++ if closes ls p then [p] else []) (w ++ nexts n ls p) (some (.frz, tupN p)) h)) := by
  have hnl : (nexts n ls p).length ≤ 7 := by
    have h1 := List.length_filter_le (onward p) (nearL n ls (lastN p))
    have h2 := len_nearL (n := n) (ls := ls) (a := lastN p)
    simp only [nexts, List.length_map]
    omega
  refine xs_nx rings_pop (xs_nx (rings_if (by omega) sH hp (by unfold lim; omega)) (xs_nx (z1 := zR n ls (f ++ if closes ls p then [p] else []) (w ++ nexts n ls p) (some (.frz, tupN p)) h) ?_ rfl))
  have e := rings_next (P := P) (m := m) (iN := iN) (ls := ls) (f := f ++ if closes ls p then [p] else []) (w := w) (h := h) (by omega) h7 sN hp
  have e2 := ev_extend (i := 2) (l := w.map tupN) rfl e rfl rfl (by rw [List.length_map, List.length_map]; unfold lim; omega)
  rw [← List.map_append] at e2
  exact e2
theorem rings_cond {F : Phi} {n : Nat} {ls : List (Nat × Nat)} {f w : List (List Nat)} {u : Option (Ow × D)} {h : Option (List D)} : ev F ringsC (zR n ls f w u h) = some (zR n ls f w u h, false, .bl (decide (0 < w.length))) := by
  have e : decide ((0 : Int) < (w.length : Int)) = decide (0 < w.length) := by rw [Bool.eq_iff_iff]; simp
  simp [ringsC, zR, e_var, e_int, e_bl, e_non, e_str, e_bin, e_neg, e_not, e_cmp, e_cmp2, e_and, e_or, e_ite, e_tup, e_lst, e_dic0, e_ix, e_sl, e_rev, e_fld, e_there, e_call, e_web, e_blt, e_isi, e_mt, e_md, e_listIt, e_tupIt, e_val, o_nil, o_cons, ef_nil, ef_cons, eo_none, eo_some, ei_seq, ei_rng1, ei_rng2, ei_zip, ei_enum, r_nil, r_cons, x_nil, x_cons, x_set, x_setH, x_par, x_unp, x_setIx, x_ex, x_ite, x_ret, x_pass, x_brk, x_cont, sVar, sOp1, sOp2, plainB, plain1, plainB2, plain2, sNeg, sNot, sCmp2, sAnd, sOr, sIte, sTup, sLst, sItem, sSl, sCall, sBlt, sMt, sMd, sListIt, sTupIt, sIt1, sIt2, itSeq, itEnum, itZip, sRng1, sRng2, sOsNil, sOsCons, sEfNil, sEfCons, sEoNone, sEoSome, setSlot, setAll, xSet, xSetH, xPar, xUnp, setItem, xSetIx, xEx, xIte, xRet, xSeq, opd, Opd.get, Opd.arg, args, gets, slotsOf, optI, Z.at, Z.put, Z.wipe, Z.back, Z.freeze, keepF, bor, unbor, bindT, bindT.bindTs, binop, isin, isNon, cmpop, iop, nop, D.cmpo, deq, D.eqv, isInst, isInsts, seqOf, lenop, lstop, intop, absop, bltin1, int2, bltin2, bltin, ixop, fldop, thop, stop, mtop, mtop0, mtop1, extop, popop, D.ok, D.okd, e]
theorem r_of {F : Phi} {e : E} {r : Es} {z z1 z2 : Z} {o : Bool} {d : D} {ds : List (Bool × D)} (h : ev F e z = some (z1, o, d)) (h2 : evR F r z1 = some (z2, ds)) : evR F (.cons e r) z = some (z2, (o, d) :: ds) := by
  rw [r_cons, h]
  simp only
  rw [h2]
theorem par_of {F : Phi} {l : List (Nat × Bool)} {es : Es} {z z1 z2 : Z} {ds : List (Bool × D)} (h : evR F es z = some (z1, ds)) (h2 : setAll l ds z1 = some z2) : exec F (.par l es) z = some (.nx z2) := by
  rw [x_par]
  unfold xPar
  rw [h]
  simp only
  rw [h2]
  rfl
theorem rings_start {P : List Def} {m n : Nat} {ls : List (Nat × Nat)} {h : Option (List D)} (h7 : n ≤ 7) : exec (den P m) (.par [(1, true), (2, true)] (.cons (.lst .nil) (.cons (.comp (.tup (.cons (.var 4) .nil)) (.nm 4) (.rng1 (.fld (.var 0) .corners)) (.bl true) [4]) .nil))) ⟨[some (.frz, .web n ls), none, none, none, none, none], h, []⟩ = some (.nx (zR n ls [] ((List.range n).map fun a => [a]) none h)) := by
  have l1 : 1 ≤ lim := by unfold lim; omega
  have l0 : 0 ≤ lim := Nat.zero_le _
  have c := ev_mapM (F := den P m) (elt := .tup (.cons (.var 4) .nil)) (g := .nm 4) (it := .rng1 (.fld (.var 0) .corners)) (own := [4]) (z := ⟨[some (.frz, .web n ls), none, none, none, none, none], h, []⟩) (bs := []) (List.range n) (fun i => .int (i : Nat)) (fun a => tupN [a]) (by simp [e_var, e_int, e_bl, e_non, e_str, e_bin, e_neg, e_not, e_cmp, e_cmp2, e_and, e_or, e_ite, e_tup, e_lst, e_dic0, e_ix, e_sl, e_rev, e_fld, e_there, e_call, e_web, e_blt, e_isi, e_mt, e_md, e_listIt, e_tupIt, e_val, o_nil, o_cons, ef_nil, ef_cons, eo_none, eo_some, ei_seq, ei_rng1, ei_rng2, ei_zip, ei_enum, r_nil, r_cons, x_nil, x_cons, x_set, x_setH, x_par, x_unp, x_setIx, x_ex, x_ite, x_ret, x_pass, x_brk, x_cont, sVar, sOp1, sOp2, plainB, plain1, plainB2, plain2, sNeg, sNot, sCmp2, sAnd, sOr, sIte, sTup, sLst, sItem, sSl, sCall, sBlt, sMt, sMd, sListIt, sTupIt, sIt1, sIt2, itSeq, itEnum, itZip, sRng1, sRng2, sOsNil, sOsCons, sEfNil, sEfCons, sEoNone, sEoSome, setSlot, setAll, xSet, xSetH, xPar, xUnp, setItem, xSetIx, xEx, xIte, xRet, xSeq, opd, Opd.get, Opd.arg, args, gets, slotsOf, optI, Z.at, Z.put, Z.wipe, Z.back, Z.freeze, keepF, bor, unbor, bindT, bindT.bindTs, binop, isin, isNon, cmpop, iop, nop, D.cmpo, deq, D.eqv, isInst, isInsts, seqOf, lenop, lstop, intop, absop, bltin1, int2, bltin2, bltin, ixop, fldop, thop, stop, mtop, mtop0, mtop1, extop, popop, D.ok, D.okd, rngL_nat, rngOk_nat (show n ≤ 1000 by omega)]) (by rw [List.length_range]; exact lim_gt (by omega)) (by simp [keepF, Z.at]) (fun b hb => ⟨⟨[some (.frz, .web n ls), none, none, none, some (.frz, .int (b : Nat)), none], h, []⟩, ⟨[some (.frz, .web n ls), none, none, none, some (.frz, .int (b : Nat)), none], h, []⟩, false, by simp [e_var, e_int, e_bl, e_non, e_str, e_bin, e_neg, e_not, e_cmp, e_cmp2, e_and, e_or, e_ite, e_tup, e_lst, e_dic0, e_ix, e_sl, e_rev, e_fld, e_there, e_call, e_web, e_blt, e_isi, e_mt, e_md, e_listIt, e_tupIt, e_val, o_nil, o_cons, ef_nil, ef_cons, eo_none, eo_some, ei_seq, ei_rng1, ei_rng2, ei_zip, ei_enum, r_nil, r_cons, x_nil, x_cons, x_set, x_setH, x_par, x_unp, x_setIx, x_ex, x_ite, x_ret, x_pass, x_brk, x_cont, sVar, sOp1, sOp2, plainB, plain1, plainB2, plain2, sNeg, sNot, sCmp2, sAnd, sOr, sIte, sTup, sLst, sItem, sSl, sCall, sBlt, sMt, sMd, sListIt, sTupIt, sIt1, sIt2, itSeq, itEnum, itZip, sRng1, sRng2, sOsNil, sOsCons, sEfNil, sEfCons, sEoNone, sEoSome, setSlot, setAll, xSet, xSetH, xPar, xUnp, setItem, xSetIx, xEx, xIte, xRet, xSeq, opd, Opd.get, Opd.arg, args, gets, slotsOf, optI, Z.at, Z.put, Z.wipe, Z.back, Z.freeze, keepF, bor, unbor, bindT, bindT.bindTs, binop, isin, isNon, cmpop, iop, nop, D.cmpo, deq, D.eqv, isInst, isInsts, seqOf, lenop, lstop, intop, absop, bltin1, int2, bltin2, bltin, ixop, fldop, thop, stop, mtop, mtop0, mtop1, extop, popop, D.ok, D.okd], by simp [e_var, e_int, e_bl, e_non, e_str, e_bin, e_neg, e_not, e_cmp, e_cmp2, e_and, e_or, e_ite, e_tup, e_lst, e_dic0, e_ix, e_sl, e_rev, e_fld, e_there, e_call, e_web, e_blt, e_isi, e_mt, e_md, e_listIt, e_tupIt, e_val, o_nil, o_cons, ef_nil, ef_cons, eo_none, eo_some, ei_seq, ei_rng1, ei_rng2, ei_zip, ei_enum, r_nil, r_cons, x_nil, x_cons, x_set, x_setH, x_par, x_unp, x_setIx, x_ex, x_ite, x_ret, x_pass, x_brk, x_cont, sVar, sOp1, sOp2, plainB, plain1, plainB2, plain2, sNeg, sNot, sCmp2, sAnd, sOr, sIte, sTup, sLst, sItem, sSl, sCall, sBlt, sMt, sMd, sListIt, sTupIt, sIt1, sIt2, itSeq, itEnum, itZip, sRng1, sRng2, sOsNil, sOsCons, sEfNil, sEfCons, sEoNone, sEoSome, setSlot, setAll, xSet, xSetH, xPar, xUnp, setItem, xSetIx, xEx, xIte, xRet, xSeq, opd, Opd.get, Opd.arg, args, gets, slotsOf, optI, Z.at, Z.put, Z.wipe, Z.back, Z.freeze, keepF, bor, unbor, bindT, bindT.bindTs, binop, isin, isNon, cmpop, iop, nop, D.cmpo, deq, D.eqv, isInst, isInsts, seqOf, lenop, lstop, intop, absop, bltin1, int2, bltin2, bltin, ixop, fldop, thop, stop, mtop, mtop0, mtop1, extop, popop, D.ok, D.okd, l1, tupN], by simp [e_var, e_int, e_bl, e_non, e_str, e_bin, e_neg, e_not, e_cmp, e_cmp2, e_and, e_or, e_ite, e_tup, e_lst, e_dic0, e_ix, e_sl, e_rev, e_fld, e_there, e_call, e_web, e_blt, e_isi, e_mt, e_md, e_listIt, e_tupIt, e_val, o_nil, o_cons, ef_nil, ef_cons, eo_none, eo_some, ei_seq, ei_rng1, ei_rng2, ei_zip, ei_enum, r_nil, r_cons, x_nil, x_cons, x_set, x_setH, x_par, x_unp, x_setIx, x_ex, x_ite, x_ret, x_pass, x_brk, x_cont, sVar, sOp1, sOp2, plainB, plain1, plainB2, plain2, sNeg, sNot, sCmp2, sAnd, sOr, sIte, sTup, sLst, sItem, sSl, sCall, sBlt, sMt, sMd, sListIt, sTupIt, sIt1, sIt2, itSeq, itEnum, itZip, sRng1, sRng2, sOsNil, sOsCons, sEfNil, sEfCons, sEoNone, sEoSome, setSlot, setAll, xSet, xSetH, xPar, xUnp, setItem, xSetIx, xEx, xIte, xRet, xSeq, opd, Opd.get, Opd.arg, args, gets, slotsOf, optI, Z.at, Z.put, Z.wipe, Z.back, Z.freeze, keepF, bor, unbor, bindT, bindT.bindTs, binop, isin, isNon, cmpop, iop, nop, D.cmpo, deq, D.eqv, isInst, isInsts, seqOf, lenop, lstop, intop, absop, bltin1, int2, bltin2, bltin, ixop, fldop, thop, stop, mtop, mtop0, mtop1, extop, popop, D.ok, D.okd]⟩) (by simp [e_var, e_int, e_bl, e_non, e_str, e_bin, e_neg, e_not, e_cmp, e_cmp2, e_and, e_or, e_ite, e_tup, e_lst, e_dic0, e_ix, e_sl, e_rev, e_fld, e_there, e_call, e_web, e_blt, e_isi, e_mt, e_md, e_listIt, e_tupIt, e_val, o_nil, o_cons, ef_nil, ef_cons, eo_none, eo_some, ei_seq, ei_rng1, ei_rng2, ei_zip, ei_enum, r_nil, r_cons, x_nil, x_cons, x_set, x_setH, x_par, x_unp, x_setIx, x_ex, x_ite, x_ret, x_pass, x_brk, x_cont, sVar, sOp1, sOp2, plainB, plain1, plainB2, plain2, sNeg, sNot, sCmp2, sAnd, sOr, sIte, sTup, sLst, sItem, sSl, sCall, sBlt, sMt, sMd, sListIt, sTupIt, sIt1, sIt2, itSeq, itEnum, itZip, sRng1, sRng2, sOsNil, sOsCons, sEfNil, sEfCons, sEoNone, sEoSome, setSlot, setAll, xSet, xSetH, xPar, xUnp, setItem, xSetIx, xEx, xIte, xRet, xSeq, opd, Opd.get, Opd.arg, args, gets, slotsOf, optI, Z.at, Z.put, Z.wipe, Z.back, Z.freeze, keepF, bor, unbor, bindT, bindT.bindTs, binop, isin, isNon, cmpop, iop, nop, D.cmpo, deq, D.eqv, isInst, isInsts, seqOf, lenop, lstop, intop, absop, bltin1, int2, bltin2, bltin, ixop, fldop, thop, stop, mtop, mtop0, mtop1, extop, popop, D.ok, D.okd])
  have e0 : ev (den P m) (.lst .nil) ⟨[some (.frz, .web n ls), none, none, none, none, none], h, []⟩ = some (⟨[some (.frz, .web n ls), none, none, none, none, none], h, []⟩, true, .lst []) := by simp [e_lst, ef_nil, sLst, sEfNil, l0]
  exact par_of (r_of e0 (r_of c r_nil)) (by simp [setAll, setSlot, Z.put, zR, Function.comp_def])
theorem rings_loop {P : List Def} {m iH iN n : Nat} {ls : List (Nat × Nat)} {h : Option (List D)} (hm : 13 ≤ m) (h7 : n ≤ 7) (sH : SHas P iH) (sN : SNear P iN) : ∃ f u, f.Perm (ringsL n ls) ∧ (∀ p ∈ f, p ≠ []) ∧ exec (den P m) (.whl ringsC (ringsB iH iN)) (zR n ls [] ((List.range n).map fun a => [a]) none h) = some (.nx (zR n ls f [] u h)) := by
  have hc : costs n ((List.range n).map fun a => [a]) = n * costK n n := by
    rw [costs_const (k := 1) (fun p hp => by obtain ⟨a, _, rfl⟩ := List.mem_map.mp hp; rfl)]
    simp
  have hcl := costs_start n h7
  have hcl2 : costs n ((List.range n).map fun a => [a]) < 1000000 := by rw [hc]; exact hcl
  have hd : descs n ls ((List.range n).map fun a => [a]) = ringsL n ls := by
    simp [descs, ringsL, List.flatMap_map]
  obtain ⟨z', e, f, u, rfl, hp, hne⟩ := ex_whl (F := den P m) (c := ringsC) (body := ringsB iH iN)
    (fun k z => ∃ f w u, z = zR n ls f w u h ∧ (∀ p ∈ w, PathOk n p) ∧ (∀ p ∈ f, p ≠ []) ∧ (f ++ descs n ls w).Perm (ringsL n ls) ∧ costs n w = k ∧ f.length + costs n w < 1000000)
    (fun z => ∃ f u, z = zR n ls f [] u h ∧ f.Perm (ringsL n ls) ∧ ∀ p ∈ f, p ≠ []) (by
      rintro k z ⟨f, w, u, rfl, hw1, hne, hpm, hk, hlen⟩
      rcases List.eq_nil_or_concat w with rfl | ⟨w, p, rfl⟩
      · refine Or.inl ⟨zR n ls f [] u h, false, rings_cond, f, u, rfl, ?_, hne⟩
        simpa [descs] using hpm
      · rw [List.concat_eq_append] at *
        have hp : PathOk n p := hw1 p (by simp)
        have hw2 : ∀ q ∈ w, PathOk n q := fun q hq => hw1 q (by simp [hq])
        have hcp := costs_next (ls := ls) hp
        have hce : costs n [p] = costK n (n + 1 - p.length) := by simp [costs]
        rw [costs_append, hce] at hk hlen
        have hwl := len_costs hw2
        have hcond := rings_cond (F := den P m) (n := n) (ls := ls) (f := f) (w := w ++ [p]) (u := u) (h := h)
        have hpos : decide (0 < (w ++ [p]).length) = true := by simp
        rw [hpos] at hcond
        refine Or.inr ⟨zR n ls f (w ++ [p]) u h, false, zR n ls (f ++ if closes ls p then [p] else []) (w ++ nexts n ls p) (some (.frz, tupN p)) h, costs n (w ++ nexts n ls p), hcond, rings_step hm h7 sH sN hp (by omega) (by omega), ?_, _, _, _, rfl, ?_, ?_, ?_, rfl, ?_⟩
        · rw [costs_append]
          omega
        · intro q hq
          rcases List.mem_append.mp hq with hq | hq
          · exact hw2 q hq
          · exact (hp.next hq).1
        · intro q hq
          rcases List.mem_append.mp hq with hq | hq
          · exact hne q hq
          · split at hq
            · simp at hq
              exact hq ▸ hp.1
            · simp at hq
        · exact (descs_pop hp f).symm.trans hpm
        · rw [costs_append, List.length_append]
          have : (if closes ls p then [p] else []).length ≤ 1 := by split <;> simp
          omega) (z := zR n ls [] ((List.range n).map fun a => [a]) none h) (k := costs n ((List.range n).map fun a => [a])) ⟨[], _, none, rfl, (by
            intro p hp
            obtain ⟨a, ha, rfl⟩ := List.mem_map.mp hp
            exact ⟨by simp, by simp, by simpa using ha⟩), by simp, by rw [hd]; exact List.Perm.refl _, rfl, by simpa using hcl2⟩ (by unfold fuel; exact hcl2)
  exact ⟨f, u, hp, hne, e⟩
theorem s_allRings {P : List Def} {i iH iN : Nat} (hf : P[i]? = some ⟨1, 6, bAllRings iH iN⟩) (hg : i ≠ gIdx) (sH : SHas P iH) (sN : SNear P iN) : SAllRings P i := by
  intro m h n ls hm hw
  have h7 := hw.n7
  obtain ⟨f, u, hp, hne, e⟩ := rings_loop (P := P) (m := m - 1) (iH := iH) (iN := iN) (n := n) (ls := ls) (h := h) (by omega) h7 sH sN
  refine ⟨f, hp, hne, den_rt ⟨[some (.frz, .web n ls), none, none, none, none, none], h, []⟩ hf hg (by omega) rfl (by show 1 ≤ 6; omega) rfl ?_⟩
  refine xs_nx (rings_start h7) (xs_nx e (retE_of (z1 := zR n ls f [] u h) (fun _ h => by cases h) ?_))
  have ds := dsort_N hne
  rw [e_blt]
  simp [e_var, e_int, e_bl, e_non, e_str, e_bin, e_neg, e_not, e_cmp, e_cmp2, e_and, e_or, e_ite, e_tup, e_lst, e_dic0, e_ix, e_sl, e_rev, e_fld, e_there, e_call, e_web, e_blt, e_isi, e_mt, e_md, e_listIt, e_tupIt, e_val, o_nil, o_cons, ef_nil, ef_cons, eo_none, eo_some, ei_seq, ei_rng1, ei_rng2, ei_zip, ei_enum, r_nil, r_cons, x_nil, x_cons, x_set, x_setH, x_par, x_unp, x_setIx, x_ex, x_ite, x_ret, x_pass, x_brk, x_cont, sVar, sOp1, sOp2, plainB, plain1, plainB2, plain2, sNeg, sNot, sCmp2, sAnd, sOr, sIte, sTup, sLst, sItem, sSl, sCall, sBlt, sMt, sMd, sListIt, sTupIt, sIt1, sIt2, itSeq, itEnum, itZip, sRng1, sRng2, sOsNil, sOsCons, sEfNil, sEfCons, sEoNone, sEoSome, setSlot, setAll, xSet, xSetH, xPar, xUnp, setItem, xSetIx, xEx, xIte, xRet, xSeq, opd, Opd.get, Opd.arg, args, gets, slotsOf, optI, Z.at, Z.put, Z.wipe, Z.back, Z.freeze, keepF, bor, unbor, bindT, bindT.bindTs, binop, isin, isNon, cmpop, iop, nop, D.cmpo, deq, D.eqv, isInst, isInsts, seqOf, lenop, lstop, intop, absop, bltin1, int2, bltin2, bltin, ixop, fldop, thop, stop, mtop, mtop0, mtop1, extop, popop, D.ok, D.okd, ds, zR]
theorem s_rings {P : List Def} {i iA : Nat} (hf : P[i]? = some ⟨1, 1, bTupOf iA⟩) (hg : i ≠ gIdx) (sA : SAllRings P iA) : SRings P i := by
  intro m h n ls hm hw
  obtain ⟨f, hp, hne, e⟩ := sA (m - 1) h n ls (by omega) hw
  refine ⟨f, hp, hne, den_rt ⟨[some (.frz, .web n ls)], h, []⟩ hf hg (by omega) rfl (by show 1 ≤ 1; omega) rfl ?_⟩
  simp [bTupOf, e_var, e_int, e_bl, e_non, e_str, e_bin, e_neg, e_not, e_cmp, e_cmp2, e_and, e_or, e_ite, e_tup, e_lst, e_dic0, e_ix, e_sl, e_rev, e_fld, e_there, e_call, e_web, e_blt, e_isi, e_mt, e_md, e_listIt, e_tupIt, e_val, o_nil, o_cons, ef_nil, ef_cons, eo_none, eo_some, ei_seq, ei_rng1, ei_rng2, ei_zip, ei_enum, r_nil, r_cons, x_nil, x_cons, x_set, x_setH, x_par, x_unp, x_setIx, x_ex, x_ite, x_ret, x_pass, x_brk, x_cont, sVar, sOp1, sOp2, plainB, plain1, plainB2, plain2, sNeg, sNot, sCmp2, sAnd, sOr, sIte, sTup, sLst, sItem, sSl, sCall, sBlt, sMt, sMd, sListIt, sTupIt, sIt1, sIt2, itSeq, itEnum, itZip, sRng1, sRng2, sOsNil, sOsCons, sEfNil, sEfCons, sEoNone, sEoSome, setSlot, setAll, xSet, xSetH, xPar, xUnp, setItem, xSetIx, xEx, xIte, xRet, xSeq, opd, Opd.get, Opd.arg, args, gets, slotsOf, optI, Z.at, Z.put, Z.wipe, Z.back, Z.freeze, keepF, bor, unbor, bindT, bindT.bindTs, binop, isin, isNon, cmpop, iop, nop, D.cmpo, deq, D.eqv, isInst, isInsts, seqOf, lenop, lstop, intop, absop, bltin1, int2, bltin2, bltin, ixop, fldop, thop, stop, mtop, mtop0, mtop1, extop, popop, D.ok, D.okd, e]
end BV

/-! Sameness of ints by the law's own look; sums. -/
namespace BV
open PySem (Str)
def bIs (iI : Nat) : Ss := (.cons (.ite (.or (.isi (.var 0) [.bool]) (.isi (.var 1) [.bool])) (.cons (.ret (.and (.isi (.var 0) [.bool]) (.and (.isi (.var 1) [.bool]) (.cmp .eq (.var 0) (.var 1)))))
  .nil) .nil)
  (.cons (.ite (.or (.isi (.var 0) [.tuple]) (.isi (.var 0) [.list])) (.cons (.ite (.or (.cmp .ne (.isi (.var 0) [.tuple]) (.isi (.var 1) [.tuple])) (.cmp .ne (.isi (.var 0) [.list]) (.isi (.var 1) [.list]))) (.cons (.ret (.bl false))
  .nil) .nil)
  (.cons (.ret (.and (.cmp .eq (.blt .len (.cons (.var 0) .nil)) (.blt .len (.cons (.var 1) .nil))) (.blt .all (.cons (.comp (.call iI (.cons (.var 3) (.cons (.var 4) .nil))) (.tp (.cons (.nm 3) (.cons (.nm 4) .nil))) (.zip (.var 0) (.var 1)) (.bl true) [3,4]) .nil))))
  .nil)) .nil)
  (.cons (.ite (.isi (.var 0) [.dict]) (.cons (.ite (.or (.not (.isi (.var 1) [.dict])) (.cmp .ne (.blt .len (.cons (.var 0) .nil)) (.blt .len (.cons (.var 1) .nil)))) (.cons (.ret (.bl false))
  .nil) .nil)
  (.cons (.ret (.blt .all (.cons (.comp (.and (.cmp .isin (.var 2) (.var 1)) (.call iI (.cons (.ix (.var 0) (.var 2)) (.cons (.ix (.var 1) (.var 2)) .nil)))) (.nm 2) (.seq (.var 0)) (.bl true) [2]) .nil)))
  .nil)) .nil)
  (.cons (.ret (.and (.cmp .eq (.isi (.var 0) [.int]) (.isi (.var 1) [.int])) (.cmp .eq (.var 0) (.var 1))))
  .nil))))
def SIsInt (P : List Def) (i : Nat) : Prop := ∀ m h (x y : Int), 1 ≤ m → den P m i [(false, .int x), (false, .int y)] h = some (h, false, .bl (x == y))
theorem ite_no {F : Phi} {c : E} {a b : Ss} {z z1 z2 : Z} {o : Bool} (h : ev F c z = some (z1, o, .bl false)) (h2 : execs F b z1 = some (.nx z2)) : exec F (.ite c a b) z = some (.nx z2) := by
  rw [x_ite]
  unfold xIte
  rw [h]
  exact h2
theorem ite_noR {F : Phi} {c : E} {a b : Ss} {z z1 : Z} {o : Bool} (h : ev F c z = some (z1, o, .bl false)) : exec F (.ite c a b) z = execs F b z1 := by
  rw [x_ite]
  unfold xIte
  rw [h]
theorem ite_yesR {F : Phi} {c : E} {a b : Ss} {z z1 : Z} {o : Bool} (h : ev F c z = some (z1, o, .bl true)) : exec F (.ite c a b) z = execs F a z1 := by
  rw [x_ite]
  unfold xIte
  rw [h]
theorem s_isInt {P : List Def} {i iI : Nat} (hf : P[i]? = some ⟨2, 5, bIs iI⟩) (hg : i ≠ gIdx) : SIsInt P i := by
  intro m h x y hm
  refine den_rt ⟨[some (.frz, .int x), some (.frz, .int y), none, none, none], h, []⟩ hf hg (by omega) rfl (by show 2 ≤ 5; omega) rfl ?_
  refine xs_nx (z1 := ⟨[some (.frz, .int x), some (.frz, .int y), none, none, none], h, []⟩) (ite_no (by simp [e_var, e_int, e_bl, e_non, e_str, e_bin, e_neg, e_not, e_cmp, e_cmp2, e_and, e_or, e_ite, e_tup, e_lst, e_dic0, e_ix, e_sl, e_rev, e_fld, e_there, e_call, e_web, e_blt, e_isi, e_mt, e_md, e_listIt, e_tupIt, e_val, o_nil, o_cons, ef_nil, ef_cons, eo_none, eo_some, ei_seq, ei_rng1, ei_rng2, ei_zip, ei_enum, r_nil, r_cons, x_nil, x_cons, x_set, x_setH, x_par, x_unp, x_setIx, x_ex, x_ite, x_ret, x_pass, x_brk, x_cont, sVar, sOp1, sOp2, plainB, plain1, plainB2, plain2, sNeg, sNot, sCmp2, sAnd, sOr, sIte, sTup, sLst, sItem, sSl, sCall, sBlt, sMt, sMd, sListIt, sTupIt, sIt1, sIt2, itSeq, itEnum, itZip, sRng1, sRng2, sOsNil, sOsCons, sEfNil, sEfCons, sEoNone, sEoSome, setSlot, setAll, xSet, xSetH, xPar, xUnp, setItem, xSetIx, xEx, xIte, xRet, xSeq, opd, Opd.get, Opd.arg, args, gets, slotsOf, optI, Z.at, Z.put, Z.wipe, Z.back, Z.freeze, keepF, bor, unbor, bindT, bindT.bindTs, binop, isin, isNon, cmpop, iop, nop, D.cmpo, deq, D.eqv, isInst, isInsts, seqOf, lenop, lstop, intop, absop, bltin1, int2, bltin2, bltin, ixop, fldop, thop, stop, mtop, mtop0, mtop1, extop, popop, D.ok, D.okd]; rfl) x_nil) (xs_nx (z1 := ⟨[some (.frz, .int x), some (.frz, .int y), none, none, none], h, []⟩) (ite_no (by simp [e_var, e_int, e_bl, e_non, e_str, e_bin, e_neg, e_not, e_cmp, e_cmp2, e_and, e_or, e_ite, e_tup, e_lst, e_dic0, e_ix, e_sl, e_rev, e_fld, e_there, e_call, e_web, e_blt, e_isi, e_mt, e_md, e_listIt, e_tupIt, e_val, o_nil, o_cons, ef_nil, ef_cons, eo_none, eo_some, ei_seq, ei_rng1, ei_rng2, ei_zip, ei_enum, r_nil, r_cons, x_nil, x_cons, x_set, x_setH, x_par, x_unp, x_setIx, x_ex, x_ite, x_ret, x_pass, x_brk, x_cont, sVar, sOp1, sOp2, plainB, plain1, plainB2, plain2, sNeg, sNot, sCmp2, sAnd, sOr, sIte, sTup, sLst, sItem, sSl, sCall, sBlt, sMt, sMd, sListIt, sTupIt, sIt1, sIt2, itSeq, itEnum, itZip, sRng1, sRng2, sOsNil, sOsCons, sEfNil, sEfCons, sEoNone, sEoSome, setSlot, setAll, xSet, xSetH, xPar, xUnp, setItem, xSetIx, xEx, xIte, xRet, xSeq, opd, Opd.get, Opd.arg, args, gets, slotsOf, optI, Z.at, Z.put, Z.wipe, Z.back, Z.freeze, keepF, bor, unbor, bindT, bindT.bindTs, binop, isin, isNon, cmpop, iop, nop, D.cmpo, deq, D.eqv, isInst, isInsts, seqOf, lenop, lstop, intop, absop, bltin1, int2, bltin2, bltin, ixop, fldop, thop, stop, mtop, mtop0, mtop1, extop, popop, D.ok, D.okd]; rfl) x_nil) (xs_nx (z1 := ⟨[some (.frz, .int x), some (.frz, .int y), none, none, none], h, []⟩) (ite_no (by simp [e_var, e_int, e_bl, e_non, e_str, e_bin, e_neg, e_not, e_cmp, e_cmp2, e_and, e_or, e_ite, e_tup, e_lst, e_dic0, e_ix, e_sl, e_rev, e_fld, e_there, e_call, e_web, e_blt, e_isi, e_mt, e_md, e_listIt, e_tupIt, e_val, o_nil, o_cons, ef_nil, ef_cons, eo_none, eo_some, ei_seq, ei_rng1, ei_rng2, ei_zip, ei_enum, r_nil, r_cons, x_nil, x_cons, x_set, x_setH, x_par, x_unp, x_setIx, x_ex, x_ite, x_ret, x_pass, x_brk, x_cont, sVar, sOp1, sOp2, plainB, plain1, plainB2, plain2, sNeg, sNot, sCmp2, sAnd, sOr, sIte, sTup, sLst, sItem, sSl, sCall, sBlt, sMt, sMd, sListIt, sTupIt, sIt1, sIt2, itSeq, itEnum, itZip, sRng1, sRng2, sOsNil, sOsCons, sEfNil, sEfCons, sEoNone, sEoSome, setSlot, setAll, xSet, xSetH, xPar, xUnp, setItem, xSetIx, xEx, xIte, xRet, xSeq, opd, Opd.get, Opd.arg, args, gets, slotsOf, optI, Z.at, Z.put, Z.wipe, Z.back, Z.freeze, keepF, bor, unbor, bindT, bindT.bindTs, binop, isin, isNon, cmpop, iop, nop, D.cmpo, deq, D.eqv, isInst, isInsts, seqOf, lenop, lstop, intop, absop, bltin1, int2, bltin2, bltin, ixop, fldop, thop, stop, mtop, mtop0, mtop1, extop, popop, D.ok, D.okd]; rfl) x_nil) ?_))
  simp [e_var, e_int, e_bl, e_non, e_str, e_bin, e_neg, e_not, e_cmp, e_cmp2, e_and, e_or, e_ite, e_tup, e_lst, e_dic0, e_ix, e_sl, e_rev, e_fld, e_there, e_call, e_web, e_blt, e_isi, e_mt, e_md, e_listIt, e_tupIt, e_val, o_nil, o_cons, ef_nil, ef_cons, eo_none, eo_some, ei_seq, ei_rng1, ei_rng2, ei_zip, ei_enum, r_nil, r_cons, x_nil, x_cons, x_set, x_setH, x_par, x_unp, x_setIx, x_ex, x_ite, x_ret, x_pass, x_brk, x_cont, sVar, sOp1, sOp2, plainB, plain1, plainB2, plain2, sNeg, sNot, sCmp2, sAnd, sOr, sIte, sTup, sLst, sItem, sSl, sCall, sBlt, sMt, sMd, sListIt, sTupIt, sIt1, sIt2, itSeq, itEnum, itZip, sRng1, sRng2, sOsNil, sOsCons, sEfNil, sEfCons, sEoNone, sEoSome, setSlot, setAll, xSet, xSetH, xPar, xUnp, setItem, xSetIx, xEx, xIte, xRet, xSeq, opd, Opd.get, Opd.arg, args, gets, slotsOf, optI, Z.at, Z.put, Z.wipe, Z.back, Z.freeze, keepF, bor, unbor, bindT, bindT.bindTs, binop, isin, isNon, cmpop, iop, nop, D.cmpo, deq, D.eqv, isInst, isInsts, seqOf, lenop, lstop, intop, absop, bltin1, int2, bltin2, bltin, ixop, fldop, thop, stop, mtop, mtop0, mtop1, extop, popop, D.ok, D.okd]
/-! sums over ranges -/
def Su (n : Nat) (f : Nat → Int) : Int := ((List.range n).map f).sum
theorem Su_zero {f : Nat → Int} : Su 0 f = 0 := rfl
theorem Su_succ {n : Nat} {f : Nat → Int} : Su (n + 1) f = Su n f + f n := by
  simp [Su, List.range_succ]
theorem Su_congr {n : Nat} {f g : Nat → Int} (h : ∀ i < n, f i = g i) : Su n f = Su n g := by
  unfold Su
  rw [List.map_congr_left fun i hi => h i (List.mem_range.mp hi)]
theorem Su_add {n : Nat} {f g : Nat → Int} : Su n (fun i => f i + g i) = Su n f + Su n g := by
  induction n with
  | zero => rfl
  | succ n ih => rw [Su_succ, Su_succ, Su_succ, ih]; omega
theorem Su_mul {n : Nat} {f : Nat → Int} {c : Int} : Su n (fun i => c * f i) = c * Su n f := by
  induction n with
  | zero => simp [Su_zero]
  | succ n ih => rw [Su_succ, Su_succ, ih, Int.mul_add]
theorem Su_mulr {n : Nat} {f : Nat → Int} {c : Int} : Su n (fun i => f i * c) = Su n f * c := by
  rw [Int.mul_comm, ← Su_mul]
  exact Su_congr fun i _ => Int.mul_comm _ _
theorem Su_const0 {n : Nat} : Su n (fun _ => 0) = 0 := by
  induction n with
  | zero => rfl
  | succ n ih => rw [Su_succ, ih]; rfl
theorem Su_comm {n m : Nat} {f : Nat → Nat → Int} : Su n (fun i => Su m fun j => f i j) = Su m (fun j => Su n fun i => f i j) := by
  induction n with
  | zero => simp only [Su_zero]; rw [Su_const0]
  | succ n ih =>
    rw [Su_succ, ih, ← Su_add]
    exact Su_congr fun j _ => (Su_succ).symm
theorem Su_one {n a : Nat} (h : a < n) {f : Nat → Int} : Su n (fun i => if i = a then f i else 0) = f a := by
  induction n with
  | zero => omega
  | succ n ih =>
    rw [Su_succ]
    by_cases e : a = n
    · subst e
      rw [Su_congr (g := fun _ => 0) fun i hi => if_neg (by omega), Su_const0]
      simp
    · rw [ih (by omega), if_neg (by omega)]
      omega
/-- a sum over the list of those that pass -/
theorem sum_filter (l : List Nat) (p : Nat → Bool) (f : Nat → Int) : ((l.filter p).map f).sum = (l.map fun i => if p i then f i else 0).sum := by
  induction l with
  | nil => rfl
  | cons x r ih =>
    rw [List.filter_cons]
    split
    · rename_i h; simp [h, ih]
    · rename_i h; simp [h, ih]
def A (ls : List (Nat × Nat)) (a b : Nat) : Int := if adj ls a b then 1 else 0
theorem A_comm {ls : List (Nat × Nat)} {a b : Nat} : A ls a b = A ls b a := by unfold A; rw [adj_comm]
/-- how many walks of so many lines lead from one to the other -/
def wk (n : Nat) (ls : List (Nat × Nat)) (k a b : Nat) : Int := (walkF n ls a k).getD b 0
theorem wk_zero {n : Nat} {ls : List (Nat × Nat)} {a b : Nat} (hb : b < n) : wk n ls 0 a b = if b = a then 1 else 0 := by
  simp [wk, walkF, hb]
theorem wk_succ {n : Nat} {ls : List (Nat × Nat)} {k a b : Nat} (hb : b < n) : wk n ls (k + 1) a b = Su n fun c => A ls b c * wk n ls k a c := by
  simp only [wk, walkF, stepF, Su, List.getD_eq_getElem?_getD, List.getElem?_map, List.getElem?_range hb, Option.map_some, Option.getD_some, nearL]
  rw [sum_filter]
  congr 1
  refine List.map_congr_left fun c _ => ?_
  unfold A
  split <;> simp
theorem wk_one {n : Nat} {ls : List (Nat × Nat)} {a b : Nat} (ha : a < n) (hb : b < n) : wk n ls 1 a b = A ls a b := by
  rw [wk_succ hb, Su_congr (g := fun c => if c = a then A ls b c else 0) fun c hc => by rw [wk_zero hc]; split <;> simp, Su_one ha, A_comm]
theorem wk_add {n : Nat} {ls : List (Nat × Nat)} {i a : Nat} (ha : a < n) : ∀ {j b : Nat}, b < n → wk n ls (i + j) a b = Su n fun c => wk n ls i a c * wk n ls j c b
  | 0, b, hb => by
    rw [Nat.add_zero, Su_congr (g := fun c => if c = b then wk n ls i a c else 0) fun c hc => by rw [wk_zero hb]; by_cases e : c = b <;> simp [e, show (b = c) = (c = b) from propext ⟨Eq.symm, Eq.symm⟩], Su_one hb]
  | j + 1, b, hb => by
    rw [← Nat.add_assoc, wk_succ hb, Su_congr (g := fun c => Su n fun d => A ls b c * (wk n ls i a d * wk n ls j d c)) fun c hc => by rw [wk_add ha hc, Su_mul], Su_comm]
    refine Su_congr fun d hd => ?_
    rw [wk_succ hb, ← Su_mul]
    refine Su_congr fun c hc => ?_
    rw [← Int.mul_assoc, ← Int.mul_assoc, Int.mul_comm (A ls b c)]
theorem wk_comm {n : Nat} {ls : List (Nat × Nat)} : ∀ {k a b : Nat}, a < n → b < n → wk n ls k a b = wk n ls k b a
  | 0, a, b, ha, hb => by
    rw [wk_zero hb, wk_zero ha]
    simp only [show (b = a) = (a = b) from propext ⟨Eq.symm, Eq.symm⟩]
  | k + 1, a, b, ha, hb => by
    rw [wk_succ hb, Nat.add_comm k 1, wk_add hb ha]
    refine Su_congr fun c hc => ?_
    rw [wk_one hb hc, wk_comm ha hc]
end BV

/-! Rings of three and closed walks of three lines. -/
namespace BV
open PySem (Str)
def t3 (ls : List (Nat × Nat)) (a b c : Nat) : Int := A ls a b * (A ls b c * A ls a c)
def u3 (ls : List (Nat × Nat)) (a b c : Nat) : Int := if a < b ∧ b < c then t3 ls a b c else 0
def T3 (n : Nat) (ls : List (Nat × Nat)) : Int := Su n fun a => Su n fun b => Su n fun c => u3 ls a b c
theorem t3_swap {ls : List (Nat × Nat)} {a b c : Nat} : t3 ls a b c = t3 ls a c b := by
  unfold t3
  rw [A_comm (a := c) (b := b), Int.mul_comm (A ls a b), Int.mul_comm (A ls b c) (A ls a c), Int.mul_assoc]
theorem t3_flip {ls : List (Nat × Nat)} {a b c : Nat} : t3 ls a b c = t3 ls b a c := by
  unfold t3
  rw [A_comm (a := b) (b := a), Int.mul_comm (A ls b c)]
theorem A_irr {n : Nat} {ls : List (Nat × Nat)} (h : WOk n ls) {a : Nat} : A ls a a = 0 := by
  unfold A
  rw [adj_irr h]
  rfl
theorem t3_split {n : Nat} {ls : List (Nat × Nat)} (h : WOk n ls) (a b c : Nat) : t3 ls a b c = u3 ls a b c + u3 ls a c b + u3 ls b a c + u3 ls b c a + u3 ls c a b + u3 ls c b a := by
  have e1 : t3 ls a c b = t3 ls a b c := t3_swap.symm
  have e2 : t3 ls b a c = t3 ls a b c := t3_flip.symm
  have e3 : t3 ls b c a = t3 ls a b c := by rw [t3_swap, t3_flip]
  have e4 : t3 ls c a b = t3 ls a b c := by rw [t3_flip, t3_swap]
  have e5 : t3 ls c b a = t3 ls a b c := by rw [t3_flip, e3]
  unfold u3
  rw [e1, e2, e3, e4, e5]
  by_cases h1 : a = b
  · subst h1
    have : t3 ls a a c = 0 := by unfold t3; rw [A_irr h]; simp
    rw [this]
    simp
  by_cases h2 : a = c
  · subst h2
    have : t3 ls a b a = 0 := by unfold t3; rw [A_irr h]; simp
    rw [this]
    simp
  by_cases h3 : b = c
  · subst h3
    have : t3 ls a b b = 0 := by unfold t3; rw [A_irr h]; simp
    rw [this]
    simp
  rcases Nat.lt_or_ge a b with q1 | q1 <;> rcases Nat.lt_or_ge b c with q2 | q2 <;> rcases Nat.lt_or_ge a c with q3 | q3
  · rw [if_pos (by omega), if_neg (by omega), if_neg (by omega), if_neg (by omega), if_neg (by omega), if_neg (by omega)]; omega
  · omega
  · rw [if_neg (by omega), if_pos (by omega), if_neg (by omega), if_neg (by omega), if_neg (by omega), if_neg (by omega)]; omega
  · rw [if_neg (by omega), if_neg (by omega), if_neg (by omega), if_neg (by omega), if_pos (by omega), if_neg (by omega)]; omega
  · rw [if_neg (by omega), if_neg (by omega), if_pos (by omega), if_neg (by omega), if_neg (by omega), if_neg (by omega)]; omega
  · rw [if_neg (by omega), if_neg (by omega), if_neg (by omega), if_pos (by omega), if_neg (by omega), if_neg (by omega)]; omega
  · omega
  · rw [if_neg (by omega), if_neg (by omega), if_neg (by omega), if_neg (by omega), if_neg (by omega), if_pos (by omega)]; omega
theorem closed3 {n : Nat} {ls : List (Nat × Nat)} (h : WOk n ls) : Su n (fun a => wk n ls 3 a a) = 6 * T3 n ls := by
  have e1 : Su n (fun a => wk n ls 3 a a) = Su n fun a => Su n fun b => Su n fun c => t3 ls a b c := by
    refine Su_congr fun a ha => ?_
    rw [wk_succ ha]
    refine Su_congr fun b hb => ?_
    rw [wk_succ hb, ← Su_mul]
    refine Su_congr fun c hc => ?_
    rw [wk_one ha hc]
    rfl
  rw [e1]
  simp only [t3_split h, Su_add]
  have s1 : Su n (fun a => Su n fun b => Su n fun c => u3 ls a c b) = T3 n ls := Su_congr fun a _ => Su_comm
  have s2 : Su n (fun a => Su n fun b => Su n fun c => u3 ls b a c) = T3 n ls := Su_comm
  have s3 : Su n (fun a => Su n fun b => Su n fun c => u3 ls b c a) = T3 n ls := by
    rw [Su_comm]
    exact Su_congr fun a _ => Su_comm
  have s4 : Su n (fun a => Su n fun b => Su n fun c => u3 ls c a b) = T3 n ls := by
    have : Su n (fun a => Su n fun b => Su n fun c => u3 ls c a b) = Su n (fun a => Su n fun c => Su n fun b => u3 ls c a b) := Su_congr fun a _ => Su_comm
    rw [this]
    exact Su_comm
  have s5 : Su n (fun a => Su n fun b => Su n fun c => u3 ls c b a) = T3 n ls := by
    have : Su n (fun a => Su n fun b => Su n fun c => u3 ls c b a) = Su n (fun a => Su n fun c => Su n fun b => u3 ls c b a) := Su_congr fun a _ => Su_comm
    rw [this, Su_comm]
    exact Su_congr fun a _ => Su_comm
  rw [s1, s2, s3, s4, s5]
  show T3 n ls + _ + _ + _ + _ + _ = _
  omega
/-! the rings' side -/
def cnt (l : List (List Nat)) : Int := ((l.countP fun q => q.length == 3 : Nat) : Int)
theorem cnt_append {a b : List (List Nat)} : cnt (a ++ b) = cnt a + cnt b := by
  simp [cnt, List.countP_append]
theorem cnt_flatMap {α : Type} {l : List α} {f : α → List (List Nat)} : cnt (l.flatMap f) = (l.map fun x => cnt (f x)).sum := by
  induction l with
  | nil => rfl
  | cons x r ih => rw [List.flatMap_cons, cnt_append, ih]; simp
theorem cnt_next {n : Nat} {ls : List (Nat × Nat)} {k : Nat} {p : List Nat} : cnt ((nexts n ls p).flatMap (descF n ls k)) = Su n fun b => if adj ls (lastN p) b then (if onward p b then cnt (descF n ls k (p ++ [b])) else 0) else 0 := by
  rw [cnt_flatMap, nexts, List.map_map, sum_filter, nearL, sum_filter]
  rfl
theorem cnt_long {n : Nat} {ls : List (Nat × Nat)} : ∀ {k : Nat} {p : List Nat}, 3 < p.length → cnt (descF n ls k p) = 0
  | 0, p, _ => rfl
  | k + 1, p, h => by
    rw [descF, cnt_append, cnt_next, Su_congr (g := fun _ => 0) fun b _ => by rw [cnt_long (by simp; omega)]; simp, Su_const0]
    have : (p.length == 3) = false := by simp; omega
    split <;> simp [cnt, this]
theorem cnt_three {n : Nat} {ls : List (Nat × Nat)} {k a b c : Nat} : cnt (descF n ls (k + 1) [a, b, c]) = if b < c ∧ adj ls c a = true then 1 else 0 := by
  rw [descF, cnt_append, cnt_next, Su_congr (g := fun _ => 0) fun d _ => by rw [cnt_long (by simp)]; simp, Su_const0]
  have e : closes ls [a, b, c] = decide (b < c ∧ adj ls c a = true) := by
    simp [closes, lastN]
  rw [e]
  by_cases q : b < c ∧ adj ls c a = true <;> simp [q, cnt]
theorem cnt_two {n : Nat} {ls : List (Nat × Nat)} {k a b : Nat} (hab : a < b) : cnt (descF n ls (k + 2) [a, b]) = Su n fun c => if adj ls b c = true ∧ b < c ∧ adj ls c a = true then 1 else 0 := by
  rw [descF, cnt_append, cnt_next]
  have e : closes ls [a, b] = false := by simp [closes]
  have e0 : cnt (if closes ls [a, b] = true then [[a, b]] else []) = 0 := by rw [e]; rfl
  rw [e0, Int.zero_add]
  refine Su_congr fun c _ => ?_
  have e2 : lastN [a, b] = b := rfl
  rw [e2]
  show (if adj ls b c = true then (if onward [a, b] c = true then cnt (descF n ls (k + 1) [a, b, c]) else 0) else 0) = _
  rw [cnt_three]
  have e3 : onward [a, b] c = decide (a < c ∧ c ≠ a ∧ c ≠ b) := by
    simp [onward]
  rw [e3]
  by_cases q1 : adj ls b c = true <;> by_cases q2 : b < c <;> simp [q1, q2]
  intro h
  omega
theorem cnt_one {n : Nat} {ls : List (Nat × Nat)} {k a : Nat} : cnt (descF n ls (k + 3) [a]) = Su n fun b => if adj ls a b = true ∧ a < b then (Su n fun c => if adj ls b c = true ∧ b < c ∧ adj ls c a = true then 1 else 0) else 0 := by
  rw [descF, cnt_append, cnt_next]
  have e0 : cnt (if closes ls [a] = true then [[a]] else []) = 0 := by
    have e : closes ls [a] = false := by simp [closes]
    rw [e]; rfl
  rw [e0, Int.zero_add]
  refine Su_congr fun b _ => ?_
  have e2 : lastN [a] = a := rfl
  have e3 : onward [a] b = decide (a < b) := by
    rw [Bool.eq_iff_iff]
    simp [onward]
    omega
  rw [e2, e3]
  show (if adj ls a b = true then (if decide (a < b) = true then cnt (descF n ls (k + 2) [a, b]) else 0) else 0) = _
  by_cases q1 : adj ls a b = true <;> by_cases q2 : a < b <;> simp [q1, q2]
  exact cnt_two q2
theorem rings3 {n : Nat} {ls : List (Nat × Nat)} (hw : WOk n ls) : cnt (ringsL n ls) = T3 n ls := by
  unfold ringsL T3
  rw [cnt_flatMap]
  show Su n (fun a => cnt (descF n ls n [a])) = _
  refine Su_congr fun a ha => ?_
  match n, ha with
  | 1, ha =>
    have e : a = 0 := by omega
    subst e
    simp [Su, u3, descF, closes, nexts, onward, nearL, cnt, lastN, List.range_succ, adj_irr hw]
  | 2, ha =>
    have e : a = 0 ∨ a = 1 := by omega
    rcases e with rfl | rfl
    · cases q : adj ls 0 1 <;> simp [Su, u3, descF, closes, nexts, onward, nearL, cnt, lastN, List.range_succ, adj_irr hw, q]
    · cases q : adj ls 1 0 <;> simp [Su, u3, descF, closes, nexts, onward, nearL, cnt, lastN, List.range_succ, adj_irr hw, q]
  | n + 3, ha =>
    rw [cnt_one]
    refine Su_congr fun b hb => ?_
    unfold u3 t3 A
    by_cases q1 : adj ls a b = true
    · by_cases q2 : a < b
      · rw [if_pos ⟨q1, q2⟩]
        refine Su_congr fun c hc => ?_
        rw [adj_comm (a := c) (b := a)]
        by_cases q3 : adj ls b c = true <;> by_cases q4 : b < c <;> by_cases q5 : adj ls a c = true <;> simp [q1, q2, q3, q4, q5]
      · rw [if_neg (by omega), Su_congr (g := fun _ => 0) fun c _ => by rw [if_neg (by omega)], Su_const0]
    · rw [if_neg (fun h => q1 h.1), Su_congr (g := fun _ => 0) fun c _ => by simp [q1], Su_const0]
theorem closed2 {n : Nat} {ls : List (Nat × Nat)} {a b : Nat} (ha : a < n) (hb : b < n) : wk n ls 2 a b = ((nearL n ls a).countP fun c => adj ls b c : Nat) := by
  rw [wk_succ hb]
  have e : ((nearL n ls a).countP fun c => adj ls b c : Nat) = (((nearL n ls a).filter fun c => adj ls b c).map fun _ => (1 : Int)).sum := by
    rw [List.countP_eq_length_filter]
    generalize (nearL n ls a).filter _ = l
    induction l with
    | nil => rfl
    | cons x r ih =>
      simp at ih ⊢
      omega
  rw [e, sum_filter, nearL, sum_filter]
  refine Su_congr fun c hc => ?_
  rw [wk_one ha hc]
  unfold A
  cases adj ls a c <;> cases adj ls b c <;> simp
theorem pairs_sum {n : Nat} : ∀ {ls : List (Nat × Nat)}, ls.Nodup → (∀ p ∈ ls, p.1 < n ∧ p.2 < n) → (Su n fun a => Su n fun b => if (a, b) ∈ ls then 1 else 0) = (ls.length : Int)
  | [], _, _ => by
    rw [Su_congr (g := fun _ => 0) fun a _ => by rw [Su_congr (g := fun _ => 0) fun b _ => by simp, Su_const0], Su_const0]
    rfl
  | p :: r, hn, hm => by
    rw [List.nodup_cons] at hn
    have ih := pairs_sum (n := n) hn.2 fun q hq => hm q (List.mem_cons_of_mem _ hq)
    have hp := hm p List.mem_cons_self
    have e : ∀ a b, (if (a, b) ∈ p :: r then (1 : Int) else 0) = (if a = p.1 then (if b = p.2 then 1 else 0) else 0) + if (a, b) ∈ r then 1 else 0 := by
      intro a b
      by_cases q : (a, b) = p
      · have h2 : (a, b) ∉ r := by rw [q]; exact hn.1
        subst q
        simp [h2]
      · have h3 : ¬ (a = p.1 ∧ b = p.2) := fun h => q (Prod.ext h.1 h.2)
        by_cases h4 : a = p.1
        · have h5 : ¬ b = p.2 := fun h => h3 ⟨h4, h⟩
          simp [q, h4, h5]
          rw [← h4] 
          simp [q]
        · simp [q, h4]
    rw [Su_congr (g := fun a => (if a = p.1 then 1 else 0) + Su n fun b => if (a, b) ∈ r then 1 else 0) fun a _ => by
      rw [Su_congr fun b _ => e a b, Su_add]
      congr 1
      by_cases h4 : a = p.1
      · simp only [h4, if_true]
        exact Su_one hp.2 (f := fun _ => 1)
      · simp only [h4, if_false]
        exact Su_const0, Su_add, ih]
    have := Su_one hp.1 (f := fun _ => (1 : Int))
    rw [this, List.length_cons]
    omega
theorem A_split {n : Nat} {ls : List (Nat × Nat)} (h : WOk n ls) (a b : Nat) : A ls a b = (if (a, b) ∈ ls then 1 else 0) + if (b, a) ∈ ls then 1 else 0 := by
  unfold A
  by_cases q1 : (a, b) ∈ ls
  · have q2 : (b, a) ∉ ls := fun hm => by
      have h1 := h.mem _ q1
      have h2 := h.mem _ hm
      simp at h1 h2
      omega
    rw [if_pos ((adj_iff h).mpr (Or.inl q1)), if_pos q1, if_neg q2]
    rfl
  · by_cases q2 : (b, a) ∈ ls
    · rw [if_pos ((adj_iff h).mpr (Or.inr q2)), if_neg q1, if_pos q2]
      rfl
    · rw [if_neg fun hh => ((adj_iff h).mp hh).elim q1 q2, if_neg q1, if_neg q2]
      rfl
theorem handshake {n : Nat} {ls : List (Nat × Nat)} (h : WOk n ls) : (Su n fun a => Su n fun b => A ls a b) = 2 * (ls.length : Int) := by
  rw [Su_congr fun a _ => Su_congr fun b _ => A_split h a b]
  simp only [Su_add]
  rw [Su_comm (f := fun a b => if (b, a) ∈ ls then (1 : Int) else 0), pairs_sum h.nodup fun p hp => by have := h.mem p hp; omega]
  omega
theorem closedSum2 {n : Nat} {ls : List (Nat × Nat)} (h : WOk n ls) : (Su n fun a => wk n ls 2 a a) = 2 * (ls.length : Int) := by
  rw [← handshake h]
  refine Su_congr fun a ha => ?_
  rw [wk_succ ha]
  refine Su_congr fun c hc => ?_
  rw [wk_one ha hc]
  unfold A
  split <;> simp
theorem closedSum0 {n : Nat} {ls : List (Nat × Nat)} : (Su n fun a => wk n ls 0 a a) = (n : Int) := by
  rw [Su_congr (g := fun _ => 1) fun a ha => by rw [wk_zero ha, if_pos rfl]]
  induction n with
  | zero => rfl
  | succ n ih => rw [Su_succ, ih]; omega
theorem degree2 {n : Nat} {ls : List (Nat × Nat)} {a : Nat} (ha : a < n) : wk n ls 2 a a = ((nearL n ls a).length : Int) := by
  rw [closed2 ha ha]
  congr 1
  rw [List.countP_eq_length]
  intro c hc
  exact (mem_nearL.mp hc).2
end BV

/-! The law of walks (k50), run. -/
namespace BV
open PySem (Str)
theorem pairsOf_map (ls : List (Nat × Nat)) : pairsOf (ls.map pairD) = some ls := by
  induction ls with
  | nil => rfl
  | cons p r ih => simp [pairsOf, pairOf, pairD, natOf, ih]
theorem webop_ok {n : Nat} {ls : List (Nat × Nat)} (h : WOk n ls) : webop (.int (n : Nat)) (lsD ls) = some (.web n ls) := by
  simp [webop, natOf, pairsOf_map, h.ok]
theorem ev_call_of {F : Phi} {f : Nat} {l : Es} {z z1 : Z} {os : List Opd} {ds : List (Bool × D)} {h' : Option (List D)} {o : Bool} {d : D} (h : evs F l z = some (z1, os)) (h2 : args z1 os = some ds) (h3 : F f ds z1.h = some (h', o, d)) : ev F (.call f l) z = some ({ z1 with h := h' }, o, d) := by
  rw [e_call]
  unfold sCall
  simp only [h, h2, h3]

section
variable {P : List Def}

theorem w_t1 {m n : Nat} {hd : Hand} {u0 u2 u3 u4 u5 u6 u7 u8 u9 u10 u11 u12 u13 u14 : Option (Ow × D)} (hm : 3 ≤ m) (sD : SDraw P 22) : ∃ (h' : Hand) (n : Nat), 1 ≤ n ∧ n ≤ 6 ∧ exec (den P m) (.set 3 false (.bin .add (.int 1) (.call 22 (.cons (.var 1) (.cons (.int 6) .nil))))) ⟨[u0, some (.frz, .hand), u2, u3, u4, u5, u6, u7, u8, u9, u10, u11, u12, u13, u14, none, none], some hd.D, []⟩ = some (.nx ⟨[u0, some (.frz, .hand), u2, some (.frz, .int (n : Nat)), u4, u5, u6, u7, u8, u9, u10, u11, u12, u13, u14, none, none], some h'.D, []⟩) := by
  obtain ⟨h', v, hv, e⟩ := sD.at m (by omega) hd 6 (by omega) (by omega)
  refine ⟨h', 1 + v, by omega, by omega, ?_⟩
  simp at e
  simp [e_var, e_int, e_bl, e_non, e_str, e_bin, e_neg, e_not, e_cmp, e_cmp2, e_and, e_or, e_ite, e_tup, e_lst, e_dic0, e_ix, e_sl, e_rev, e_fld, e_there, e_call, e_web, e_blt, e_isi, e_mt, e_md, e_listIt, e_tupIt, e_val, o_nil, o_cons, ef_nil, ef_cons, eo_none, eo_some, ei_seq, ei_rng1, ei_rng2, ei_zip, ei_enum, r_nil, r_cons, x_nil, x_cons, x_set, x_setH, x_par, x_unp, x_setIx, x_ex, x_ite, x_ret, x_pass, x_brk, x_cont, sVar, sOp1, sOp2, plainB, plain1, plainB2, plain2, sNeg, sNot, sCmp2, sAnd, sOr, sIte, sTup, sLst, sItem, sSl, sCall, sBlt, sMt, sMd, sListIt, sTupIt, sIt1, sIt2, itSeq, itEnum, itZip, sRng1, sRng2, sOsNil, sOsCons, sEfNil, sEfCons, sEoNone, sEoSome, setSlot, setAll, xSet, xSetH, xPar, xUnp, setItem, xSetIx, xEx, xIte, xRet, xSeq, opd, Opd.get, Opd.arg, args, gets, slotsOf, optI, Z.at, Z.put, Z.wipe, Z.back, Z.freeze, keepF, bor, unbor, bindT, bindT.bindTs, binop, isin, isNon, cmpop, iop, nop, D.cmpo, deq, D.eqv, isInst, isInsts, seqOf, lenop, lstop, intop, absop, bltin1, int2, bltin2, bltin, ixop, fldop, thop, stop, mtop, mtop0, mtop1, extop, popop, D.ok, D.okd, e]
theorem w_t2 {m n : Nat} {ls : List (Nat × Nat)} {hd : Hand} {u0 u2 u4 u5 u6 u7 u8 u9 u10 u11 u12 u13 u14 : Option (Ow × D)} (hm : 4 ≤ m) (h1 : 1 ≤ n) (h6 : n ≤ 6) (sL : SLines P 25) : ∃ (h' : Hand) (ls : List (Nat × Nat)), WOk n ls ∧ exec (den P m) (.set 4 false (.call 25 (.cons (.var 1) (.cons (.var 3) .nil)))) ⟨[u0, some (.frz, .hand), u2, some (.frz, .int (n : Nat)), u4, u5, u6, u7, u8, u9, u10, u11, u12, u13, u14, none, none], some hd.D, []⟩ = some (.nx ⟨[u0, some (.frz, .hand), u2, some (.frz, .int (n : Nat)), some (.frz, lsD ls), u5, u6, u7, u8, u9, u10, u11, u12, u13, u14, none, none], some h'.D, []⟩) := by
  obtain ⟨h', ls, hw, e⟩ := sL m hd n (by omega) h1 (by omega)
  refine ⟨h', ls, hw, ?_⟩
  simp [e_var, e_int, e_bl, e_non, e_str, e_bin, e_neg, e_not, e_cmp, e_cmp2, e_and, e_or, e_ite, e_tup, e_lst, e_dic0, e_ix, e_sl, e_rev, e_fld, e_there, e_call, e_web, e_blt, e_isi, e_mt, e_md, e_listIt, e_tupIt, e_val, o_nil, o_cons, ef_nil, ef_cons, eo_none, eo_some, ei_seq, ei_rng1, ei_rng2, ei_zip, ei_enum, r_nil, r_cons, x_nil, x_cons, x_set, x_setH, x_par, x_unp, x_setIx, x_ex, x_ite, x_ret, x_pass, x_brk, x_cont, sVar, sOp1, sOp2, plainB, plain1, plainB2, plain2, sNeg, sNot, sCmp2, sAnd, sOr, sIte, sTup, sLst, sItem, sSl, sCall, sBlt, sMt, sMd, sListIt, sTupIt, sIt1, sIt2, itSeq, itEnum, itZip, sRng1, sRng2, sOsNil, sOsCons, sEfNil, sEfCons, sEoNone, sEoSome, setSlot, setAll, xSet, xSetH, xPar, xUnp, setItem, xSetIx, xEx, xIte, xRet, xSeq, opd, Opd.get, Opd.arg, args, gets, slotsOf, optI, Z.at, Z.put, Z.wipe, Z.back, Z.freeze, keepF, bor, unbor, bindT, bindT.bindTs, binop, isin, isNon, cmpop, iop, nop, D.cmpo, deq, D.eqv, isInst, isInsts, seqOf, lenop, lstop, intop, absop, bltin1, int2, bltin2, bltin, ixop, fldop, thop, stop, mtop, mtop0, mtop1, extop, popop, D.ok, D.okd, e]
theorem w_t3 {m n : Nat} {ls : List (Nat × Nat)} {hd : Hand} {u0 u2 u5 u6 u7 u8 u9 u10 u11 u12 u13 u14 : Option (Ow × D)} (hm : 9 ≤ m) (hw : WOk n ls) : exec (den P m) (.par [(5, false), (6, true)] (.cons (.web (.var 3) (.var 4)) (.cons (.lst .nil) .nil))) ⟨[u0, some (.frz, .hand), u2, some (.frz, .int (n : Nat)), some (.frz, lsD ls), u5, u6, u7, u8, u9, u10, u11, u12, u13, u14, none, none], some hd.D, []⟩ = some (.nx ⟨[u0, some (.frz, .hand), u2, some (.frz, .int (n : Nat)), some (.frz, lsD ls), some (.frz, .web n ls), some (.own, .lst []), u7, u8, u9, u10, u11, u12, u13, u14, none, none], some hd.D, []⟩) := by
  have g := den_guard (P := P) hm
  have w := webop_ok hw
  simp [e_var, e_int, e_bl, e_non, e_str, e_bin, e_neg, e_not, e_cmp, e_cmp2, e_and, e_or, e_ite, e_tup, e_lst, e_dic0, e_ix, e_sl, e_rev, e_fld, e_there, e_call, e_web, e_blt, e_isi, e_mt, e_md, e_listIt, e_tupIt, e_val, o_nil, o_cons, ef_nil, ef_cons, eo_none, eo_some, ei_seq, ei_rng1, ei_rng2, ei_zip, ei_enum, r_nil, r_cons, x_nil, x_cons, x_set, x_setH, x_par, x_unp, x_setIx, x_ex, x_ite, x_ret, x_pass, x_brk, x_cont, sVar, sOp1, sOp2, plainB, plain1, plainB2, plain2, sNeg, sNot, sCmp2, sAnd, sOr, sIte, sTup, sLst, sItem, sSl, sCall, sBlt, sMt, sMd, sListIt, sTupIt, sIt1, sIt2, itSeq, itEnum, itZip, sRng1, sRng2, sOsNil, sOsCons, sEfNil, sEfCons, sEoNone, sEoSome, setSlot, setAll, xSet, xSetH, xPar, xUnp, setItem, xSetIx, xEx, xIte, xRet, xSeq, opd, Opd.get, Opd.arg, args, gets, slotsOf, optI, Z.at, Z.put, Z.wipe, Z.back, Z.freeze, keepF, bor, unbor, bindT, bindT.bindTs, binop, isin, isNon, cmpop, iop, nop, D.cmpo, deq, D.eqv, isInst, isInsts, seqOf, lenop, lstop, intop, absop, bltin1, int2, bltin2, bltin, ixop, fldop, thop, stop, mtop, mtop0, mtop1, extop, popop, D.ok, D.okd, sGuard, g, w]
theorem w_t4 {m n k : Nat} {ls : List (Nat × Nat)} {hd : Hand} {u0 u2 u7 u8 u9 u10 u11 u12 u13 u14 : Option (Ow × D)} (hm : 3 ≤ m) (sD : SDraw P 22) (sS : SSome P 23) : ∃ (h' : Hand) (k : Nat), k ≤ 60 ∧ exec (den P m) (.set 7 false (.call 23 (.cons (.var 1) (.cons (.lst (.cons (.int 0) (.cons (.int 1) (.cons (.int 2) (.cons (.int 3) (.cons (.int 4) (.cons (.int 7) (.cons (.int 60) (.cons (.call 22 (.cons (.var 1) (.cons (.int 61) .nil))) .nil))))))))) .nil)))) ⟨[u0, some (.frz, .hand), u2, some (.frz, .int (n : Nat)), some (.frz, lsD ls), some (.frz, .web n ls), some (.own, .lst []), u7, u8, u9, u10, u11, u12, u13, u14, none, none], some hd.D, []⟩ = some (.nx ⟨[u0, some (.frz, .hand), u2, some (.frz, .int (n : Nat)), some (.frz, lsD ls), some (.frz, .web n ls), some (.own, .lst []), some (.frz, .int (k : Nat)), u8, u9, u10, u11, u12, u13, u14, none, none], some h'.D, []⟩) := by
  obtain ⟨h1, v, hv, e1⟩ := sD.at m (by omega) hd 61 (by omega) (by omega)
  obtain ⟨h', w, hw, e2, _⟩ := sS m h1 [.int 0, .int 1, .int 2, .int 3, .int 4, .int 7, .int 60, .int v] (by omega) (by simp) (by simp)
  have e2 := e2 false
  have l8 : 8 ≤ lim := by unfold lim; omega
  have hk : ∃ k : Nat, k ≤ 60 ∧ [D.int 0, .int 1, .int 2, .int 3, .int 4, .int 7, .int 60, .int v][w] = .int k := by
    simp at hw
    match w, hw with
    | 0, _ => exact ⟨0, by omega, rfl⟩
    | 1, _ => exact ⟨1, by omega, rfl⟩
    | 2, _ => exact ⟨2, by omega, rfl⟩
    | 3, _ => exact ⟨3, by omega, rfl⟩
    | 4, _ => exact ⟨4, by omega, rfl⟩
    | 5, _ => exact ⟨7, by omega, rfl⟩
    | 6, _ => exact ⟨60, by omega, rfl⟩
    | 7, _ => exact ⟨v, by omega, rfl⟩
  obtain ⟨k, hk, ek⟩ := hk
  rw [ek] at e2
  refine ⟨h', k, hk, ?_⟩
  simp at e1
  simp [e_var, e_int, e_bl, e_non, e_str, e_bin, e_neg, e_not, e_cmp, e_cmp2, e_and, e_or, e_ite, e_tup, e_lst, e_dic0, e_ix, e_sl, e_rev, e_fld, e_there, e_call, e_web, e_blt, e_isi, e_mt, e_md, e_listIt, e_tupIt, e_val, o_nil, o_cons, ef_nil, ef_cons, eo_none, eo_some, ei_seq, ei_rng1, ei_rng2, ei_zip, ei_enum, r_nil, r_cons, x_nil, x_cons, x_set, x_setH, x_par, x_unp, x_setIx, x_ex, x_ite, x_ret, x_pass, x_brk, x_cont, sVar, sOp1, sOp2, plainB, plain1, plainB2, plain2, sNeg, sNot, sCmp2, sAnd, sOr, sIte, sTup, sLst, sItem, sSl, sCall, sBlt, sMt, sMd, sListIt, sTupIt, sIt1, sIt2, itSeq, itEnum, itZip, sRng1, sRng2, sOsNil, sOsCons, sEfNil, sEfCons, sEoNone, sEoSome, setSlot, setAll, xSet, xSetH, xPar, xUnp, setItem, xSetIx, xEx, xIte, xRet, xSeq, opd, Opd.get, Opd.arg, args, gets, slotsOf, optI, Z.at, Z.put, Z.wipe, Z.back, Z.freeze, keepF, bor, unbor, bindT, bindT.bindTs, binop, isin, isNon, cmpop, iop, nop, D.cmpo, deq, D.eqv, isInst, isInsts, seqOf, lenop, lstop, intop, absop, bltin1, int2, bltin2, bltin, ixop, fldop, thop, stop, mtop, mtop0, mtop1, extop, popop, D.ok, D.okd, e1, e2, l8]

theorem w_c1 {m n k : Nat} {ls : List (Nat × Nat)} {hd : Hand} {tb : List D} {u0 u2 u9 u10 u11 u12 u13 u14 : Option (Ow × D)} {a : Nat} (h7 : n ≤ 7) (h11 : keepF u11 = u11) : exec (den P m) (.set 13 false (.comp (.blt .int (.cons (.cmp .eq (.var 8) (.var 11)) .nil)) (.nm 11) (.rng1 (.var 3)) (.bl true) [11])) ⟨[u0, some (.frz, .hand), u2, some (.frz, .int (n : Nat)), some (.frz, lsD ls), some (.frz, .web n ls), some (.own, .lst tb), some (.frz, .int (k : Nat)), some (.frz, .int (a : Nat)), u9, u10, u11, u12, u13, u14, none, none], some hd.D, []⟩ = some (.nx ⟨[u0, some (.frz, .hand), u2, some (.frz, .int (n : Nat)), some (.frz, lsD ls), some (.frz, .web n ls), some (.own, .lst tb), some (.frz, .int (k : Nat)), some (.frz, .int (a : Nat)), u9, u10, u11, u12, some (.frz, .lst ((walkF n ls a 0).map .int)), u14, none, none], some hd.D, []⟩) := by
  refine ex_set (z1 := ⟨[u0, some (.frz, .hand), u2, some (.frz, .int (n : Nat)), some (.frz, lsD ls), some (.frz, .web n ls), some (.own, .lst tb), some (.frz, .int (k : Nat)), some (.frz, .int (a : Nat)), u9, u10, u11, u12, u13, u14, none, none], some hd.D, []⟩) (o := true) (d := .lst ((walkF n ls a 0).map .int)) ?_ (by simp)
  rw [walkF, List.map_map]
  refine ev_mapM (bs := []) (List.range n) (fun i => .int (i : Nat)) _ (by simp [e_var, e_int, e_bl, e_non, e_str, e_bin, e_neg, e_not, e_cmp, e_cmp2, e_and, e_or, e_ite, e_tup, e_lst, e_dic0, e_ix, e_sl, e_rev, e_fld, e_there, e_call, e_web, e_blt, e_isi, e_mt, e_md, e_listIt, e_tupIt, e_val, o_nil, o_cons, ef_nil, ef_cons, eo_none, eo_some, ei_seq, ei_rng1, ei_rng2, ei_zip, ei_enum, r_nil, r_cons, x_nil, x_cons, x_set, x_setH, x_par, x_unp, x_setIx, x_ex, x_ite, x_ret, x_pass, x_brk, x_cont, sVar, sOp1, sOp2, plainB, plain1, plainB2, plain2, sNeg, sNot, sCmp2, sAnd, sOr, sIte, sTup, sLst, sItem, sSl, sCall, sBlt, sMt, sMd, sListIt, sTupIt, sIt1, sIt2, itSeq, itEnum, itZip, sRng1, sRng2, sOsNil, sOsCons, sEfNil, sEfCons, sEoNone, sEoSome, setSlot, setAll, xSet, xSetH, xPar, xUnp, setItem, xSetIx, xEx, xIte, xRet, xSeq, opd, Opd.get, Opd.arg, args, gets, slotsOf, optI, Z.at, Z.put, Z.wipe, Z.back, Z.freeze, keepF, bor, unbor, bindT, bindT.bindTs, binop, isin, isNon, cmpop, iop, nop, D.cmpo, deq, D.eqv, isInst, isInsts, seqOf, lenop, lstop, intop, absop, bltin1, int2, bltin2, bltin, ixop, fldop, thop, stop, mtop, mtop0, mtop1, extop, popop, D.ok, D.okd, rngL_nat, rngOk_nat (show n ≤ 1000 by omega)]) (by rw [List.length_range]; exact lim_gt (by omega)) (by simp [Z.at, h11]) (fun b hb => ⟨⟨[u0, some (.frz, .hand), u2, some (.frz, .int (n : Nat)), some (.frz, lsD ls), some (.frz, .web n ls), some (.own, .lst tb), some (.frz, .int (k : Nat)), some (.frz, .int (a : Nat)), u9, u10, some (.frz, .int (b : Nat)), u12, u13, u14, none, none], some hd.D, []⟩, ⟨[u0, some (.frz, .hand), u2, some (.frz, .int (n : Nat)), some (.frz, lsD ls), some (.frz, .web n ls), some (.own, .lst tb), some (.frz, .int (k : Nat)), some (.frz, .int (a : Nat)), u9, u10, some (.frz, .int (b : Nat)), u12, u13, u14, none, none], some hd.D, []⟩, false, by simp [e_var, e_int, e_bl, e_non, e_str, e_bin, e_neg, e_not, e_cmp, e_cmp2, e_and, e_or, e_ite, e_tup, e_lst, e_dic0, e_ix, e_sl, e_rev, e_fld, e_there, e_call, e_web, e_blt, e_isi, e_mt, e_md, e_listIt, e_tupIt, e_val, o_nil, o_cons, ef_nil, ef_cons, eo_none, eo_some, ei_seq, ei_rng1, ei_rng2, ei_zip, ei_enum, r_nil, r_cons, x_nil, x_cons, x_set, x_setH, x_par, x_unp, x_setIx, x_ex, x_ite, x_ret, x_pass, x_brk, x_cont, sVar, sOp1, sOp2, plainB, plain1, plainB2, plain2, sNeg, sNot, sCmp2, sAnd, sOr, sIte, sTup, sLst, sItem, sSl, sCall, sBlt, sMt, sMd, sListIt, sTupIt, sIt1, sIt2, itSeq, itEnum, itZip, sRng1, sRng2, sOsNil, sOsCons, sEfNil, sEfCons, sEoNone, sEoSome, setSlot, setAll, xSet, xSetH, xPar, xUnp, setItem, xSetIx, xEx, xIte, xRet, xSeq, opd, Opd.get, Opd.arg, args, gets, slotsOf, optI, Z.at, Z.put, Z.wipe, Z.back, Z.freeze, keepF, bor, unbor, bindT, bindT.bindTs, binop, isin, isNon, cmpop, iop, nop, D.cmpo, deq, D.eqv, isInst, isInsts, seqOf, lenop, lstop, intop, absop, bltin1, int2, bltin2, bltin, ixop, fldop, thop, stop, mtop, mtop0, mtop1, extop, popop, D.ok, D.okd], ?_, by simp [e_var, e_int, e_bl, e_non, e_str, e_bin, e_neg, e_not, e_cmp, e_cmp2, e_and, e_or, e_ite, e_tup, e_lst, e_dic0, e_ix, e_sl, e_rev, e_fld, e_there, e_call, e_web, e_blt, e_isi, e_mt, e_md, e_listIt, e_tupIt, e_val, o_nil, o_cons, ef_nil, ef_cons, eo_none, eo_some, ei_seq, ei_rng1, ei_rng2, ei_zip, ei_enum, r_nil, r_cons, x_nil, x_cons, x_set, x_setH, x_par, x_unp, x_setIx, x_ex, x_ite, x_ret, x_pass, x_brk, x_cont, sVar, sOp1, sOp2, plainB, plain1, plainB2, plain2, sNeg, sNot, sCmp2, sAnd, sOr, sIte, sTup, sLst, sItem, sSl, sCall, sBlt, sMt, sMd, sListIt, sTupIt, sIt1, sIt2, itSeq, itEnum, itZip, sRng1, sRng2, sOsNil, sOsCons, sEfNil, sEfCons, sEoNone, sEoSome, setSlot, setAll, xSet, xSetH, xPar, xUnp, setItem, xSetIx, xEx, xIte, xRet, xSeq, opd, Opd.get, Opd.arg, args, gets, slotsOf, optI, Z.at, Z.put, Z.wipe, Z.back, Z.freeze, keepF, bor, unbor, bindT, bindT.bindTs, binop, isin, isNon, cmpop, iop, nop, D.cmpo, deq, D.eqv, isInst, isInsts, seqOf, lenop, lstop, intop, absop, bltin1, int2, bltin2, bltin, ixop, fldop, thop, stop, mtop, mtop0, mtop1, extop, popop, D.ok, D.okd]⟩) (by simp [e_var, e_int, e_bl, e_non, e_str, e_bin, e_neg, e_not, e_cmp, e_cmp2, e_and, e_or, e_ite, e_tup, e_lst, e_dic0, e_ix, e_sl, e_rev, e_fld, e_there, e_call, e_web, e_blt, e_isi, e_mt, e_md, e_listIt, e_tupIt, e_val, o_nil, o_cons, ef_nil, ef_cons, eo_none, eo_some, ei_seq, ei_rng1, ei_rng2, ei_zip, ei_enum, r_nil, r_cons, x_nil, x_cons, x_set, x_setH, x_par, x_unp, x_setIx, x_ex, x_ite, x_ret, x_pass, x_brk, x_cont, sVar, sOp1, sOp2, plainB, plain1, plainB2, plain2, sNeg, sNot, sCmp2, sAnd, sOr, sIte, sTup, sLst, sItem, sSl, sCall, sBlt, sMt, sMd, sListIt, sTupIt, sIt1, sIt2, itSeq, itEnum, itZip, sRng1, sRng2, sOsNil, sOsCons, sEfNil, sEfCons, sEoNone, sEoSome, setSlot, setAll, xSet, xSetH, xPar, xUnp, setItem, xSetIx, xEx, xIte, xRet, xSeq, opd, Opd.get, Opd.arg, args, gets, slotsOf, optI, Z.at, Z.put, Z.wipe, Z.back, Z.freeze, keepF, bor, unbor, bindT, bindT.bindTs, binop, isin, isNon, cmpop, iop, nop, D.cmpo, deq, D.eqv, isInst, isInsts, seqOf, lenop, lstop, intop, absop, bltin1, int2, bltin2, bltin, ixop, fldop, thop, stop, mtop, mtop0, mtop1, extop, popop, D.ok, D.okd])
  by_cases e : b = a
  · simp [e_var, e_int, e_bl, e_non, e_str, e_bin, e_neg, e_not, e_cmp, e_cmp2, e_and, e_or, e_ite, e_tup, e_lst, e_dic0, e_ix, e_sl, e_rev, e_fld, e_there, e_call, e_web, e_blt, e_isi, e_mt, e_md, e_listIt, e_tupIt, e_val, o_nil, o_cons, ef_nil, ef_cons, eo_none, eo_some, ei_seq, ei_rng1, ei_rng2, ei_zip, ei_enum, r_nil, r_cons, x_nil, x_cons, x_set, x_setH, x_par, x_unp, x_setIx, x_ex, x_ite, x_ret, x_pass, x_brk, x_cont, sVar, sOp1, sOp2, plainB, plain1, plainB2, plain2, sNeg, sNot, sCmp2, sAnd, sOr, sIte, sTup, sLst, sItem, sSl, sCall, sBlt, sMt, sMd, sListIt, sTupIt, sIt1, sIt2, itSeq, itEnum, itZip, sRng1, sRng2, sOsNil, sOsCons, sEfNil, sEfCons, sEoNone, sEoSome, setSlot, setAll, xSet, xSetH, xPar, xUnp, setItem, xSetIx, xEx, xIte, xRet, xSeq, opd, Opd.get, Opd.arg, args, gets, slotsOf, optI, Z.at, Z.put, Z.wipe, Z.back, Z.freeze, keepF, bor, unbor, bindT, bindT.bindTs, binop, isin, isNon, cmpop, iop, nop, D.cmpo, deq, D.eqv, isInst, isInsts, seqOf, lenop, lstop, intop, absop, bltin1, int2, bltin2, bltin, ixop, fldop, thop, stop, mtop, mtop0, mtop1, extop, popop, D.ok, D.okd, e]
  · have e2 : ¬ (a : Int) = b := by omega
    simp [e_var, e_int, e_bl, e_non, e_str, e_bin, e_neg, e_not, e_cmp, e_cmp2, e_and, e_or, e_ite, e_tup, e_lst, e_dic0, e_ix, e_sl, e_rev, e_fld, e_there, e_call, e_web, e_blt, e_isi, e_mt, e_md, e_listIt, e_tupIt, e_val, o_nil, o_cons, ef_nil, ef_cons, eo_none, eo_some, ei_seq, ei_rng1, ei_rng2, ei_zip, ei_enum, r_nil, r_cons, x_nil, x_cons, x_set, x_setH, x_par, x_unp, x_setIx, x_ex, x_ite, x_ret, x_pass, x_brk, x_cont, sVar, sOp1, sOp2, plainB, plain1, plainB2, plain2, sNeg, sNot, sCmp2, sAnd, sOr, sIte, sTup, sLst, sItem, sSl, sCall, sBlt, sMt, sMd, sListIt, sTupIt, sIt1, sIt2, itSeq, itEnum, itZip, sRng1, sRng2, sOsNil, sOsCons, sEfNil, sEfCons, sEoNone, sEoSome, setSlot, setAll, xSet, xSetH, xPar, xUnp, setItem, xSetIx, xEx, xIte, xRet, xSeq, opd, Opd.get, Opd.arg, args, gets, slotsOf, optI, Z.at, Z.put, Z.wipe, Z.back, Z.freeze, keepF, bor, unbor, bindT, bindT.bindTs, binop, isin, isNon, cmpop, iop, nop, D.cmpo, deq, D.eqv, isInst, isInsts, seqOf, lenop, lstop, intop, absop, bltin1, int2, bltin2, bltin, ixop, fldop, thop, stop, mtop, mtop0, mtop1, extop, popop, D.ok, D.okd, e, e2]
theorem w_c2 {m n k : Nat} {ls : List (Nat × Nat)} {hd : Hand} {tb : List D} {u0 u2 u9 u10 u11 u12 u14 : Option (Ow × D)} {a : Nat} (hm : 2 ≤ m) (hk : k ≤ 60) (hw : WOk n ls) (sO : SLOn P 28) : ∃ u14', exec (den P m) (.for (.nm 14) (.rng1 (.var 7)) (.cons (.set 13 false (.call 28 (.cons (.var 4) (.cons (.var 13) .nil)))) .nil)) ⟨[u0, some (.frz, .hand), u2, some (.frz, .int (n : Nat)), some (.frz, lsD ls), some (.frz, .web n ls), some (.own, .lst tb), some (.frz, .int (k : Nat)), some (.frz, .int (a : Nat)), u9, u10, u11, u12, some (.frz, .lst ((walkF n ls a 0).map .int)), u14, none, none], some hd.D, []⟩ = some (.nx ⟨[u0, some (.frz, .hand), u2, some (.frz, .int (n : Nat)), some (.frz, lsD ls), some (.frz, .web n ls), some (.own, .lst tb), some (.frz, .int (k : Nat)), some (.frz, .int (a : Nat)), u9, u10, u11, u12, some (.frz, .lst ((walkF n ls a k).map .int)), u14', none, none], some hd.D, []⟩) := by
  obtain ⟨z', e, u, hz⟩ := ex_forN (F := den P m) (g := .nm 14) (it := .rng1 (.var 7)) (body := .cons (.set 13 false (.call 28 (.cons (.var 4) (.cons (.var 13) .nil)))) .nil) (z := ⟨[u0, some (.frz, .hand), u2, some (.frz, .int (n : Nat)), some (.frz, lsD ls), some (.frz, .web n ls), some (.own, .lst tb), some (.frz, .int (k : Nat)), some (.frz, .int (a : Nat)), u9, u10, u11, u12, some (.frz, .lst ((walkF n ls a 0).map .int)), u14, none, none], some hd.D, []⟩) (z1 := ⟨[u0, some (.frz, .hand), u2, some (.frz, .int (n : Nat)), some (.frz, lsD ls), some (.frz, .web n ls), some (.own, .lst tb), some (.frz, .int (k : Nat)), some (.frz, .int (a : Nat)), u9, u10, u11, u12, some (.frz, .lst ((walkF n ls a 0).map .int)), u14, none, none], some hd.D, []⟩) (bs := [])
    (List.range k) (fun i => .int (i : Nat)) (fun j z => ∃ u, z = ⟨[u0, some (.frz, .hand), u2, some (.frz, .int (n : Nat)), some (.frz, lsD ls), some (.frz, .web n ls), some (.own, .lst tb), some (.frz, .int (k : Nat)), some (.frz, .int (a : Nat)), u9, u10, u11, u12, some (.frz, .lst ((walkF n ls a j).map .int)), u, none, none], some hd.D, []⟩)
    (by simp [e_var, e_int, e_bl, e_non, e_str, e_bin, e_neg, e_not, e_cmp, e_cmp2, e_and, e_or, e_ite, e_tup, e_lst, e_dic0, e_ix, e_sl, e_rev, e_fld, e_there, e_call, e_web, e_blt, e_isi, e_mt, e_md, e_listIt, e_tupIt, e_val, o_nil, o_cons, ef_nil, ef_cons, eo_none, eo_some, ei_seq, ei_rng1, ei_rng2, ei_zip, ei_enum, r_nil, r_cons, x_nil, x_cons, x_set, x_setH, x_par, x_unp, x_setIx, x_ex, x_ite, x_ret, x_pass, x_brk, x_cont, sVar, sOp1, sOp2, plainB, plain1, plainB2, plain2, sNeg, sNot, sCmp2, sAnd, sOr, sIte, sTup, sLst, sItem, sSl, sCall, sBlt, sMt, sMd, sListIt, sTupIt, sIt1, sIt2, itSeq, itEnum, itZip, sRng1, sRng2, sOsNil, sOsCons, sEfNil, sEfCons, sEoNone, sEoSome, setSlot, setAll, xSet, xSetH, xPar, xUnp, setItem, xSetIx, xEx, xIte, xRet, xSeq, opd, Opd.get, Opd.arg, args, gets, slotsOf, optI, Z.at, Z.put, Z.wipe, Z.back, Z.freeze, keepF, bor, unbor, bindT, bindT.bindTs, binop, isin, isNon, cmpop, iop, nop, D.cmpo, deq, D.eqv, isInst, isInsts, seqOf, lenop, lstop, intop, absop, bltin1, int2, bltin2, bltin, ixop, fldop, thop, stop, mtop, mtop0, mtop1, extop, popop, D.ok, D.okd, rngL_nat, rngOk_nat (show k ≤ 1000 by omega)]) ⟨u14, rfl⟩ (by
      rintro j x z hx ⟨u, rfl⟩
      have e := sO m (some hd.D) n ls (walkF n ls a j) hm hw walkF_len
      exact ⟨⟨[u0, some (.frz, .hand), u2, some (.frz, .int (n : Nat)), some (.frz, lsD ls), some (.frz, .web n ls), some (.own, .lst tb), some (.frz, .int (k : Nat)), some (.frz, .int (a : Nat)), u9, u10, u11, u12, some (.frz, .lst ((walkF n ls a j).map .int)), some (.frz, .int (x : Nat)), none, none], some hd.D, []⟩, ⟨[u0, some (.frz, .hand), u2, some (.frz, .int (n : Nat)), some (.frz, lsD ls), some (.frz, .web n ls), some (.own, .lst tb), some (.frz, .int (k : Nat)), some (.frz, .int (a : Nat)), u9, u10, u11, u12, some (.frz, .lst ((walkF n ls a (j + 1)).map .int)), some (.frz, .int (x : Nat)), none, none], some hd.D, []⟩, by simp [e_var, e_int, e_bl, e_non, e_str, e_bin, e_neg, e_not, e_cmp, e_cmp2, e_and, e_or, e_ite, e_tup, e_lst, e_dic0, e_ix, e_sl, e_rev, e_fld, e_there, e_call, e_web, e_blt, e_isi, e_mt, e_md, e_listIt, e_tupIt, e_val, o_nil, o_cons, ef_nil, ef_cons, eo_none, eo_some, ei_seq, ei_rng1, ei_rng2, ei_zip, ei_enum, r_nil, r_cons, x_nil, x_cons, x_set, x_setH, x_par, x_unp, x_setIx, x_ex, x_ite, x_ret, x_pass, x_brk, x_cont, sVar, sOp1, sOp2, plainB, plain1, plainB2, plain2, sNeg, sNot, sCmp2, sAnd, sOr, sIte, sTup, sLst, sItem, sSl, sCall, sBlt, sMt, sMd, sListIt, sTupIt, sIt1, sIt2, itSeq, itEnum, itZip, sRng1, sRng2, sOsNil, sOsCons, sEfNil, sEfCons, sEoNone, sEoSome, setSlot, setAll, xSet, xSetH, xPar, xUnp, setItem, xSetIx, xEx, xIte, xRet, xSeq, opd, Opd.get, Opd.arg, args, gets, slotsOf, optI, Z.at, Z.put, Z.wipe, Z.back, Z.freeze, keepF, bor, unbor, bindT, bindT.bindTs, binop, isin, isNon, cmpop, iop, nop, D.cmpo, deq, D.eqv, isInst, isInsts, seqOf, lenop, lstop, intop, absop, bltin1, int2, bltin2, bltin, ixop, fldop, thop, stop, mtop, mtop0, mtop1, extop, popop, D.ok, D.okd], by simp [e_var, e_int, e_bl, e_non, e_str, e_bin, e_neg, e_not, e_cmp, e_cmp2, e_and, e_or, e_ite, e_tup, e_lst, e_dic0, e_ix, e_sl, e_rev, e_fld, e_there, e_call, e_web, e_blt, e_isi, e_mt, e_md, e_listIt, e_tupIt, e_val, o_nil, o_cons, ef_nil, ef_cons, eo_none, eo_some, ei_seq, ei_rng1, ei_rng2, ei_zip, ei_enum, r_nil, r_cons, x_nil, x_cons, x_set, x_setH, x_par, x_unp, x_setIx, x_ex, x_ite, x_ret, x_pass, x_brk, x_cont, sVar, sOp1, sOp2, plainB, plain1, plainB2, plain2, sNeg, sNot, sCmp2, sAnd, sOr, sIte, sTup, sLst, sItem, sSl, sCall, sBlt, sMt, sMd, sListIt, sTupIt, sIt1, sIt2, itSeq, itEnum, itZip, sRng1, sRng2, sOsNil, sOsCons, sEfNil, sEfCons, sEoNone, sEoSome, setSlot, setAll, xSet, xSetH, xPar, xUnp, setItem, xSetIx, xEx, xIte, xRet, xSeq, opd, Opd.get, Opd.arg, args, gets, slotsOf, optI, Z.at, Z.put, Z.wipe, Z.back, Z.freeze, keepF, bor, unbor, bindT, bindT.bindTs, binop, isin, isNon, cmpop, iop, nop, D.cmpo, deq, D.eqv, isInst, isInsts, seqOf, lenop, lstop, intop, absop, bltin1, int2, bltin2, bltin, ixop, fldop, thop, stop, mtop, mtop0, mtop1, extop, popop, D.ok, D.okd, e, walkF], _, rfl⟩)
  rw [List.length_range] at hz
  subst hz
  exact ⟨u, e⟩
theorem w_c3 {m n k : Nat} {ls : List (Nat × Nat)} {hd : Hand} {tb : List D} {u0 u2 u9 u10 u11 u12 u14 : Option (Ow × D)} {a : Nat} {c : List D} (hl : tb.length < 1000) : exec (den P m) (.ex (.mt .append 6 (.cons (.var 13) .nil))) ⟨[u0, some (.frz, .hand), u2, some (.frz, .int (n : Nat)), some (.frz, lsD ls), some (.frz, .web n ls), some (.own, .lst tb), some (.frz, .int (k : Nat)), some (.frz, .int (a : Nat)), u9, u10, u11, u12, some (.frz, .lst c), u14, none, none], some hd.D, []⟩ = some (.nx ⟨[u0, some (.frz, .hand), u2, some (.frz, .int (n : Nat)), some (.frz, lsD ls), some (.frz, .web n ls), some (.own, .lst (tb ++ [.lst c])), some (.frz, .int (k : Nat)), some (.frz, .int (a : Nat)), u9, u10, u11, u12, some (.frz, .lst c), u14, none, none], some hd.D, []⟩) := by
  have h := lim_gt (n := tb.length) (by omega)
  simp [e_var, e_int, e_bl, e_non, e_str, e_bin, e_neg, e_not, e_cmp, e_cmp2, e_and, e_or, e_ite, e_tup, e_lst, e_dic0, e_ix, e_sl, e_rev, e_fld, e_there, e_call, e_web, e_blt, e_isi, e_mt, e_md, e_listIt, e_tupIt, e_val, o_nil, o_cons, ef_nil, ef_cons, eo_none, eo_some, ei_seq, ei_rng1, ei_rng2, ei_zip, ei_enum, r_nil, r_cons, x_nil, x_cons, x_set, x_setH, x_par, x_unp, x_setIx, x_ex, x_ite, x_ret, x_pass, x_brk, x_cont, sVar, sOp1, sOp2, plainB, plain1, plainB2, plain2, sNeg, sNot, sCmp2, sAnd, sOr, sIte, sTup, sLst, sItem, sSl, sCall, sBlt, sMt, sMd, sListIt, sTupIt, sIt1, sIt2, itSeq, itEnum, itZip, sRng1, sRng2, sOsNil, sOsCons, sEfNil, sEfCons, sEoNone, sEoSome, setSlot, setAll, xSet, xSetH, xPar, xUnp, setItem, xSetIx, xEx, xIte, xRet, xSeq, opd, Opd.get, Opd.arg, args, gets, slotsOf, optI, Z.at, Z.put, Z.wipe, Z.back, Z.freeze, keepF, bor, unbor, bindT, bindT.bindTs, binop, isin, isNon, cmpop, iop, nop, D.cmpo, deq, D.eqv, isInst, isInsts, seqOf, lenop, lstop, intop, absop, bltin1, int2, bltin2, bltin, ixop, fldop, thop, stop, mtop, mtop0, mtop1, extop, popop, D.ok, D.okd, h]

theorem w_b1 {m n k : Nat} {ls : List (Nat × Nat)} {hd : Hand} {tb : List D} {u0 u2 u9 u10 u12 u14 : Option (Ow × D)} {a b : Nat} (hm : 16 ≤ m) (h7 : n ≤ 7) (hk : k ≤ 60) (ha : a < n) (hb : b < n) (sW : SWalks P 17) (sI : SIsInt P 24) : exec (den P m) (.ite (.not (.call 24 (.cons (.call 17 (.cons (.var 5) (.cons (.var 8) (.cons (.var 11) (.cons (.var 7) .nil))))) (.cons (.ix (.var 13) (.var 11)) .nil)))) (.cons (.ret (.bl false)) .nil) .nil) ⟨[u0, some (.frz, .hand), u2, some (.frz, .int (n : Nat)), some (.frz, lsD ls), some (.frz, .web n ls), some (.own, .lst tb), some (.frz, .int (k : Nat)), some (.frz, .int (a : Nat)), u9, u10, some (.frz, .int (b : Nat)), u12, some (.frz, .lst ((walkF n ls a k).map .int)), u14, none, none], some hd.D, []⟩ = some (.nx ⟨[u0, some (.frz, .hand), u2, some (.frz, .int (n : Nat)), some (.frz, lsD ls), some (.frz, .web n ls), some (.own, .lst tb), some (.frz, .int (k : Nat)), some (.frz, .int (a : Nat)), u9, u10, some (.frz, .int (b : Nat)), u12, some (.frz, .lst ((walkF n ls a k).map .int)), u14, none, none], some hd.D, []⟩) := by
  have e1 := sW m (some hd.D) n ls a b k hm h7 hk ha hb
  have e2 := sI m (some hd.D) ((walkF n ls a k).getD b 0) ((walkF n ls a k).getD b 0) (by omega)
  have hl : b < (walkF n ls a k).length := by rw [walkF_len]; exact hb
  have e3 := atI_mapN (walkF n ls a k) .int b hl
  have e4 : (walkF n ls a k)[b] = (walkF n ls a k).getD b 0 := by simp [List.getElem?_eq_getElem hl]
  rw [e4] at e3
  simp only [List.getD_eq_getElem?_getD] at e1 e2 e3
  simp [e_var, e_int, e_bl, e_non, e_str, e_bin, e_neg, e_not, e_cmp, e_cmp2, e_and, e_or, e_ite, e_tup, e_lst, e_dic0, e_ix, e_sl, e_rev, e_fld, e_there, e_call, e_web, e_blt, e_isi, e_mt, e_md, e_listIt, e_tupIt, e_val, o_nil, o_cons, ef_nil, ef_cons, eo_none, eo_some, ei_seq, ei_rng1, ei_rng2, ei_zip, ei_enum, r_nil, r_cons, x_nil, x_cons, x_set, x_setH, x_par, x_unp, x_setIx, x_ex, x_ite, x_ret, x_pass, x_brk, x_cont, sVar, sOp1, sOp2, plainB, plain1, plainB2, plain2, sNeg, sNot, sCmp2, sAnd, sOr, sIte, sTup, sLst, sItem, sSl, sCall, sBlt, sMt, sMd, sListIt, sTupIt, sIt1, sIt2, itSeq, itEnum, itZip, sRng1, sRng2, sOsNil, sOsCons, sEfNil, sEfCons, sEoNone, sEoSome, setSlot, setAll, xSet, xSetH, xPar, xUnp, setItem, xSetIx, xEx, xIte, xRet, xSeq, opd, Opd.get, Opd.arg, args, gets, slotsOf, optI, Z.at, Z.put, Z.wipe, Z.back, Z.freeze, keepF, bor, unbor, bindT, bindT.bindTs, binop, isin, isNon, cmpop, iop, nop, D.cmpo, deq, D.eqv, isInst, isInsts, seqOf, lenop, lstop, intop, absop, bltin1, int2, bltin2, bltin, ixop, fldop, thop, stop, mtop, mtop0, mtop1, extop, popop, D.ok, D.okd, e1, e2, e3]
theorem w_b2 {m n k : Nat} {ls : List (Nat × Nat)} {hd : Hand} {tb : List D} {u0 u2 u9 u10 u12 u14 : Option (Ow × D)} {a b : Nat} (hm : 16 ≤ m) (h7 : n ≤ 7) (hk : k ≤ 60) (ha : a < n) (hb : b < n) (sW : SWalks P 17) : exec (den P m) (.ite (.cmp .ne (.call 17 (.cons (.var 5) (.cons (.var 8) (.cons (.var 11) (.cons (.var 7) .nil))))) (.call 17 (.cons (.var 5) (.cons (.var 11) (.cons (.var 8) (.cons (.var 7) .nil)))))) (.cons (.ret (.bl false)) .nil) .nil) ⟨[u0, some (.frz, .hand), u2, some (.frz, .int (n : Nat)), some (.frz, lsD ls), some (.frz, .web n ls), some (.own, .lst tb), some (.frz, .int (k : Nat)), some (.frz, .int (a : Nat)), u9, u10, some (.frz, .int (b : Nat)), u12, some (.frz, .lst ((walkF n ls a k).map .int)), u14, none, none], some hd.D, []⟩ = some (.nx ⟨[u0, some (.frz, .hand), u2, some (.frz, .int (n : Nat)), some (.frz, lsD ls), some (.frz, .web n ls), some (.own, .lst tb), some (.frz, .int (k : Nat)), some (.frz, .int (a : Nat)), u9, u10, some (.frz, .int (b : Nat)), u12, some (.frz, .lst ((walkF n ls a k).map .int)), u14, none, none], some hd.D, []⟩) := by
  have e1 := sW m (some hd.D) n ls a b k hm h7 hk ha hb
  have e2 := sW m (some hd.D) n ls b a k hm h7 hk hb ha
  have e3 : wk n ls k b a = wk n ls k a b := wk_comm hb ha
  unfold wk at e3
  rw [e3] at e2
  simp only [List.getD_eq_getElem?_getD] at e1 e2
  simp [e_var, e_int, e_bl, e_non, e_str, e_bin, e_neg, e_not, e_cmp, e_cmp2, e_and, e_or, e_ite, e_tup, e_lst, e_dic0, e_ix, e_sl, e_rev, e_fld, e_there, e_call, e_web, e_blt, e_isi, e_mt, e_md, e_listIt, e_tupIt, e_val, o_nil, o_cons, ef_nil, ef_cons, eo_none, eo_some, ei_seq, ei_rng1, ei_rng2, ei_zip, ei_enum, r_nil, r_cons, x_nil, x_cons, x_set, x_setH, x_par, x_unp, x_setIx, x_ex, x_ite, x_ret, x_pass, x_brk, x_cont, sVar, sOp1, sOp2, plainB, plain1, plainB2, plain2, sNeg, sNot, sCmp2, sAnd, sOr, sIte, sTup, sLst, sItem, sSl, sCall, sBlt, sMt, sMd, sListIt, sTupIt, sIt1, sIt2, itSeq, itEnum, itZip, sRng1, sRng2, sOsNil, sOsCons, sEfNil, sEfCons, sEoNone, sEoSome, setSlot, setAll, xSet, xSetH, xPar, xUnp, setItem, xSetIx, xEx, xIte, xRet, xSeq, opd, Opd.get, Opd.arg, args, gets, slotsOf, optI, Z.at, Z.put, Z.wipe, Z.back, Z.freeze, keepF, bor, unbor, bindT, bindT.bindTs, binop, isin, isNon, cmpop, iop, nop, D.cmpo, deq, D.eqv, isInst, isInsts, seqOf, lenop, lstop, intop, absop, bltin1, int2, bltin2, bltin, ixop, fldop, thop, stop, mtop, mtop0, mtop1, extop, popop, D.ok, D.okd, e1, e2]
theorem w_c4 {m n k : Nat} {ls : List (Nat × Nat)} {hd : Hand} {tb : List D} {u0 u2 u9 u10 u11 u12 u14 : Option (Ow × D)} {a : Nat} (hm : 16 ≤ m) (hw : WOk n ls) (hk : k ≤ 60) (ha : a < n) (h11 : keepF u11 = u11) (sW : SWalks P 17) (sI : SIsInt P 24) : ∃ v11, keepF v11 = v11 ∧ exec (den P m) (.for (.nm 11) (.rng1 (.var 3)) (.cons (.ite (.not (.call 24 (.cons (.call 17 (.cons (.var 5) (.cons (.var 8) (.cons (.var 11) (.cons (.var 7) .nil))))) (.cons (.ix (.var 13) (.var 11)) .nil)))) (.cons (.ret (.bl false)) .nil) .nil) (.cons (.ite (.cmp .ne (.call 17 (.cons (.var 5) (.cons (.var 8) (.cons (.var 11) (.cons (.var 7) .nil))))) (.call 17 (.cons (.var 5) (.cons (.var 11) (.cons (.var 8) (.cons (.var 7) .nil)))))) (.cons (.ret (.bl false)) .nil) .nil) .nil))) ⟨[u0, some (.frz, .hand), u2, some (.frz, .int (n : Nat)), some (.frz, lsD ls), some (.frz, .web n ls), some (.own, .lst tb), some (.frz, .int (k : Nat)), some (.frz, .int (a : Nat)), u9, u10, u11, u12, some (.frz, .lst ((walkF n ls a k).map .int)), u14, none, none], some hd.D, []⟩ = some (.nx ⟨[u0, some (.frz, .hand), u2, some (.frz, .int (n : Nat)), some (.frz, lsD ls), some (.frz, .web n ls), some (.own, .lst tb), some (.frz, .int (k : Nat)), some (.frz, .int (a : Nat)), u9, u10, v11, u12, some (.frz, .lst ((walkF n ls a k).map .int)), u14, none, none], some hd.D, []⟩) := by
  have h7 := hw.n7
  obtain ⟨z', e, u, hz, hu⟩ := ex_forN (F := den P m) (g := .nm 11) (it := .rng1 (.var 3)) (body := .cons (.ite (.not (.call 24 (.cons (.call 17 (.cons (.var 5) (.cons (.var 8) (.cons (.var 11) (.cons (.var 7) .nil))))) (.cons (.ix (.var 13) (.var 11)) .nil)))) (.cons (.ret (.bl false)) .nil) .nil) (.cons (.ite (.cmp .ne (.call 17 (.cons (.var 5) (.cons (.var 8) (.cons (.var 11) (.cons (.var 7) .nil))))) (.call 17 (.cons (.var 5) (.cons (.var 11) (.cons (.var 8) (.cons (.var 7) .nil)))))) (.cons (.ret (.bl false)) .nil) .nil) .nil)) (z := ⟨[u0, some (.frz, .hand), u2, some (.frz, .int (n : Nat)), some (.frz, lsD ls), some (.frz, .web n ls), some (.own, .lst tb), some (.frz, .int (k : Nat)), some (.frz, .int (a : Nat)), u9, u10, u11, u12, some (.frz, .lst ((walkF n ls a k).map .int)), u14, none, none], some hd.D, []⟩) (z1 := ⟨[u0, some (.frz, .hand), u2, some (.frz, .int (n : Nat)), some (.frz, lsD ls), some (.frz, .web n ls), some (.own, .lst tb), some (.frz, .int (k : Nat)), some (.frz, .int (a : Nat)), u9, u10, u11, u12, some (.frz, .lst ((walkF n ls a k).map .int)), u14, none, none], some hd.D, []⟩) (bs := [])
    (List.range n) (fun i => .int (i : Nat)) (fun j z => ∃ u, z = ⟨[u0, some (.frz, .hand), u2, some (.frz, .int (n : Nat)), some (.frz, lsD ls), some (.frz, .web n ls), some (.own, .lst tb), some (.frz, .int (k : Nat)), some (.frz, .int (a : Nat)), u9, u10, u, u12, some (.frz, .lst ((walkF n ls a k).map .int)), u14, none, none], some hd.D, []⟩ ∧ keepF u = u)
    (by simp [e_var, e_int, e_bl, e_non, e_str, e_bin, e_neg, e_not, e_cmp, e_cmp2, e_and, e_or, e_ite, e_tup, e_lst, e_dic0, e_ix, e_sl, e_rev, e_fld, e_there, e_call, e_web, e_blt, e_isi, e_mt, e_md, e_listIt, e_tupIt, e_val, o_nil, o_cons, ef_nil, ef_cons, eo_none, eo_some, ei_seq, ei_rng1, ei_rng2, ei_zip, ei_enum, r_nil, r_cons, x_nil, x_cons, x_set, x_setH, x_par, x_unp, x_setIx, x_ex, x_ite, x_ret, x_pass, x_brk, x_cont, sVar, sOp1, sOp2, plainB, plain1, plainB2, plain2, sNeg, sNot, sCmp2, sAnd, sOr, sIte, sTup, sLst, sItem, sSl, sCall, sBlt, sMt, sMd, sListIt, sTupIt, sIt1, sIt2, itSeq, itEnum, itZip, sRng1, sRng2, sOsNil, sOsCons, sEfNil, sEfCons, sEoNone, sEoSome, setSlot, setAll, xSet, xSetH, xPar, xUnp, setItem, xSetIx, xEx, xIte, xRet, xSeq, opd, Opd.get, Opd.arg, args, gets, slotsOf, optI, Z.at, Z.put, Z.wipe, Z.back, Z.freeze, keepF, bor, unbor, bindT, bindT.bindTs, binop, isin, isNon, cmpop, iop, nop, D.cmpo, deq, D.eqv, isInst, isInsts, seqOf, lenop, lstop, intop, absop, bltin1, int2, bltin2, bltin, ixop, fldop, thop, stop, mtop, mtop0, mtop1, extop, popop, D.ok, D.okd, rngL_nat, rngOk_nat (show n ≤ 1000 by omega)]) ⟨u11, rfl, h11⟩ (by
      rintro j b z hx ⟨u, rfl, _⟩
      have hb : b < n := by
        have := List.mem_of_getElem? hx
        simpa using this
      exact ⟨⟨[u0, some (.frz, .hand), u2, some (.frz, .int (n : Nat)), some (.frz, lsD ls), some (.frz, .web n ls), some (.own, .lst tb), some (.frz, .int (k : Nat)), some (.frz, .int (a : Nat)), u9, u10, some (.frz, .int (b : Nat)), u12, some (.frz, .lst ((walkF n ls a k).map .int)), u14, none, none], some hd.D, []⟩, ⟨[u0, some (.frz, .hand), u2, some (.frz, .int (n : Nat)), some (.frz, lsD ls), some (.frz, .web n ls), some (.own, .lst tb), some (.frz, .int (k : Nat)), some (.frz, .int (a : Nat)), u9, u10, some (.frz, .int (b : Nat)), u12, some (.frz, .lst ((walkF n ls a k).map .int)), u14, none, none], some hd.D, []⟩, by simp [e_var, e_int, e_bl, e_non, e_str, e_bin, e_neg, e_not, e_cmp, e_cmp2, e_and, e_or, e_ite, e_tup, e_lst, e_dic0, e_ix, e_sl, e_rev, e_fld, e_there, e_call, e_web, e_blt, e_isi, e_mt, e_md, e_listIt, e_tupIt, e_val, o_nil, o_cons, ef_nil, ef_cons, eo_none, eo_some, ei_seq, ei_rng1, ei_rng2, ei_zip, ei_enum, r_nil, r_cons, x_nil, x_cons, x_set, x_setH, x_par, x_unp, x_setIx, x_ex, x_ite, x_ret, x_pass, x_brk, x_cont, sVar, sOp1, sOp2, plainB, plain1, plainB2, plain2, sNeg, sNot, sCmp2, sAnd, sOr, sIte, sTup, sLst, sItem, sSl, sCall, sBlt, sMt, sMd, sListIt, sTupIt, sIt1, sIt2, itSeq, itEnum, itZip, sRng1, sRng2, sOsNil, sOsCons, sEfNil, sEfCons, sEoNone, sEoSome, setSlot, setAll, xSet, xSetH, xPar, xUnp, setItem, xSetIx, xEx, xIte, xRet, xSeq, opd, Opd.get, Opd.arg, args, gets, slotsOf, optI, Z.at, Z.put, Z.wipe, Z.back, Z.freeze, keepF, bor, unbor, bindT, bindT.bindTs, binop, isin, isNon, cmpop, iop, nop, D.cmpo, deq, D.eqv, isInst, isInsts, seqOf, lenop, lstop, intop, absop, bltin1, int2, bltin2, bltin, ixop, fldop, thop, stop, mtop, mtop0, mtop1, extop, popop, D.ok, D.okd], xs_nx (w_b1 hm h7 hk ha hb sW sI) (xs_nx (w_b2 hm h7 hk ha hb sW) x_nil), _, rfl, rfl⟩)
  subst hz
  exact ⟨u, hu, e⟩

theorem w_body {m n k : Nat} {ls : List (Nat × Nat)} {hd : Hand} {tb : List D} {u0 u2 u9 u10 u11 u12 u13 u14 : Option (Ow × D)} {a : Nat} (hm : 16 ≤ m) (hw : WOk n ls) (hk : k ≤ 60) (ha : a < n) (h11 : keepF u11 = u11) (hl : tb.length < 1000) (sO : SLOn P 28) (sW : SWalks P 17) (sI : SIsInt P 24) : ∃ v11 v14, keepF v11 = v11 ∧ execs (den P m) (.cons (.set 13 false (.comp (.blt .int (.cons (.cmp .eq (.var 8) (.var 11)) .nil)) (.nm 11) (.rng1 (.var 3)) (.bl true) [11])) (.cons (.for (.nm 14) (.rng1 (.var 7)) (.cons (.set 13 false (.call 28 (.cons (.var 4) (.cons (.var 13) .nil)))) .nil)) (.cons (.ex (.mt .append 6 (.cons (.var 13) .nil))) (.cons (.for (.nm 11) (.rng1 (.var 3)) (.cons (.ite (.not (.call 24 (.cons (.call 17 (.cons (.var 5) (.cons (.var 8) (.cons (.var 11) (.cons (.var 7) .nil))))) (.cons (.ix (.var 13) (.var 11)) .nil)))) (.cons (.ret (.bl false)) .nil) .nil) (.cons (.ite (.cmp .ne (.call 17 (.cons (.var 5) (.cons (.var 8) (.cons (.var 11) (.cons (.var 7) .nil))))) (.call 17 (.cons (.var 5) (.cons (.var 11) (.cons (.var 8) (.cons (.var 7) .nil)))))) (.cons (.ret (.bl false)) .nil) .nil) .nil))) .nil)))) ⟨[u0, some (.frz, .hand), u2, some (.frz, .int (n : Nat)), some (.frz, lsD ls), some (.frz, .web n ls), some (.own, .lst tb), some (.frz, .int (k : Nat)), some (.frz, .int (a : Nat)), u9, u10, u11, u12, u13, u14, none, none], some hd.D, []⟩ = some (.nx ⟨[u0, some (.frz, .hand), u2, some (.frz, .int (n : Nat)), some (.frz, lsD ls), some (.frz, .web n ls), some (.own, .lst (tb ++ [.lst ((walkF n ls a k).map .int)])), some (.frz, .int (k : Nat)), some (.frz, .int (a : Nat)), u9, u10, v11, u12, some (.frz, .lst ((walkF n ls a k).map .int)), v14, none, none], some hd.D, []⟩) := by
  obtain ⟨v14, e2⟩ := w_c2 (P := P) (m := m) (n := n) (k := k) (ls := ls) (hd := hd) (tb := tb) (u0 := u0) (u2 := u2) (u9 := u9) (u10 := u10) (u11 := u11) (u12 := u12) (u14 := u14) (a := a) (by omega) hk hw sO
  obtain ⟨v11, hv, e4⟩ := w_c4 (P := P) (m := m) (n := n) (k := k) (ls := ls) (hd := hd) (tb := tb ++ [.lst ((walkF n ls a k).map .int)]) (u0 := u0) (u2 := u2) (u9 := u9) (u10 := u10) (u11 := u11) (u12 := u12) (u14 := v14) (a := a) hm hw hk ha h11 sW sI
  exact ⟨v11, v14, hv, xs_nx (w_c1 (P := P) hw.n7 h11) (xs_nx e2 (xs_nx (w_c3 hl) (xs_nx e4 x_nil)))⟩
theorem w_t5 {m n k : Nat} {ls : List (Nat × Nat)} {hd : Hand} {u0 u2 u8 u9 u10 u11 u12 u13 u14 : Option (Ow × D)} (hm : 16 ≤ m) (hw : WOk n ls) (hk : k ≤ 60) (h8 : keepF u8 = u8) (h11 : keepF u11 = u11) (sO : SLOn P 28) (sW : SWalks P 17) (sI : SIsInt P 24) : ∃ v8 v11 v13 v14, keepF v8 = v8 ∧ keepF v11 = v11 ∧ exec (den P m) (.for (.nm 8) (.rng1 (.var 3)) (.cons (.set 13 false (.comp (.blt .int (.cons (.cmp .eq (.var 8) (.var 11)) .nil)) (.nm 11) (.rng1 (.var 3)) (.bl true) [11])) (.cons (.for (.nm 14) (.rng1 (.var 7)) (.cons (.set 13 false (.call 28 (.cons (.var 4) (.cons (.var 13) .nil)))) .nil)) (.cons (.ex (.mt .append 6 (.cons (.var 13) .nil))) (.cons (.for (.nm 11) (.rng1 (.var 3)) (.cons (.ite (.not (.call 24 (.cons (.call 17 (.cons (.var 5) (.cons (.var 8) (.cons (.var 11) (.cons (.var 7) .nil))))) (.cons (.ix (.var 13) (.var 11)) .nil)))) (.cons (.ret (.bl false)) .nil) .nil) (.cons (.ite (.cmp .ne (.call 17 (.cons (.var 5) (.cons (.var 8) (.cons (.var 11) (.cons (.var 7) .nil))))) (.call 17 (.cons (.var 5) (.cons (.var 11) (.cons (.var 8) (.cons (.var 7) .nil)))))) (.cons (.ret (.bl false)) .nil) .nil) .nil))) .nil))))) ⟨[u0, some (.frz, .hand), u2, some (.frz, .int (n : Nat)), some (.frz, lsD ls), some (.frz, .web n ls), some (.own, .lst []), some (.frz, .int (k : Nat)), u8, u9, u10, u11, u12, u13, u14, none, none], some hd.D, []⟩ = some (.nx ⟨[u0, some (.frz, .hand), u2, some (.frz, .int (n : Nat)), some (.frz, lsD ls), some (.frz, .web n ls), some (.own, .lst ((List.range n).map fun a => D.lst ((walkF n ls a k).map .int))), some (.frz, .int (k : Nat)), v8, u9, u10, v11, u12, v13, v14, none, none], some hd.D, []⟩) := by
  have h7 := hw.n7
  obtain ⟨z', e, v8, v11, v13, v14, hz, hv8, hv11⟩ := ex_forN (F := den P m) (g := .nm 8) (it := .rng1 (.var 3)) (body := (.cons (.set 13 false (.comp (.blt .int (.cons (.cmp .eq (.var 8) (.var 11)) .nil)) (.nm 11) (.rng1 (.var 3)) (.bl true) [11])) (.cons (.for (.nm 14) (.rng1 (.var 7)) (.cons (.set 13 false (.call 28 (.cons (.var 4) (.cons (.var 13) .nil)))) .nil)) (.cons (.ex (.mt .append 6 (.cons (.var 13) .nil))) (.cons (.for (.nm 11) (.rng1 (.var 3)) (.cons (.ite (.not (.call 24 (.cons (.call 17 (.cons (.var 5) (.cons (.var 8) (.cons (.var 11) (.cons (.var 7) .nil))))) (.cons (.ix (.var 13) (.var 11)) .nil)))) (.cons (.ret (.bl false)) .nil) .nil) (.cons (.ite (.cmp .ne (.call 17 (.cons (.var 5) (.cons (.var 8) (.cons (.var 11) (.cons (.var 7) .nil))))) (.call 17 (.cons (.var 5) (.cons (.var 11) (.cons (.var 8) (.cons (.var 7) .nil)))))) (.cons (.ret (.bl false)) .nil) .nil) .nil))) .nil))))) (z := ⟨[u0, some (.frz, .hand), u2, some (.frz, .int (n : Nat)), some (.frz, lsD ls), some (.frz, .web n ls), some (.own, .lst []), some (.frz, .int (k : Nat)), u8, u9, u10, u11, u12, u13, u14, none, none], some hd.D, []⟩) (z1 := ⟨[u0, some (.frz, .hand), u2, some (.frz, .int (n : Nat)), some (.frz, lsD ls), some (.frz, .web n ls), some (.own, .lst []), some (.frz, .int (k : Nat)), u8, u9, u10, u11, u12, u13, u14, none, none], some hd.D, []⟩) (bs := [])
    (List.range n) (fun i => .int (i : Nat)) (fun i z => ∃ v8 v11 v13 v14, z = ⟨[u0, some (.frz, .hand), u2, some (.frz, .int (n : Nat)), some (.frz, lsD ls), some (.frz, .web n ls), some (.own, .lst ((List.range i).map fun a => D.lst ((walkF n ls a k).map .int))), some (.frz, .int (k : Nat)), v8, u9, u10, v11, u12, v13, v14, none, none], some hd.D, []⟩ ∧ keepF v8 = v8 ∧ keepF v11 = v11)
    (by simp [e_var, e_int, e_bl, e_non, e_str, e_bin, e_neg, e_not, e_cmp, e_cmp2, e_and, e_or, e_ite, e_tup, e_lst, e_dic0, e_ix, e_sl, e_rev, e_fld, e_there, e_call, e_web, e_blt, e_isi, e_mt, e_md, e_listIt, e_tupIt, e_val, o_nil, o_cons, ef_nil, ef_cons, eo_none, eo_some, ei_seq, ei_rng1, ei_rng2, ei_zip, ei_enum, r_nil, r_cons, x_nil, x_cons, x_set, x_setH, x_par, x_unp, x_setIx, x_ex, x_ite, x_ret, x_pass, x_brk, x_cont, sVar, sOp1, sOp2, plainB, plain1, plainB2, plain2, sNeg, sNot, sCmp2, sAnd, sOr, sIte, sTup, sLst, sItem, sSl, sCall, sBlt, sMt, sMd, sListIt, sTupIt, sIt1, sIt2, itSeq, itEnum, itZip, sRng1, sRng2, sOsNil, sOsCons, sEfNil, sEfCons, sEoNone, sEoSome, setSlot, setAll, xSet, xSetH, xPar, xUnp, setItem, xSetIx, xEx, xIte, xRet, xSeq, opd, Opd.get, Opd.arg, args, gets, slotsOf, optI, Z.at, Z.put, Z.wipe, Z.back, Z.freeze, keepF, bor, unbor, bindT, bindT.bindTs, binop, isin, isNon, cmpop, iop, nop, D.cmpo, deq, D.eqv, isInst, isInsts, seqOf, lenop, lstop, intop, absop, bltin1, int2, bltin2, bltin, ixop, fldop, thop, stop, mtop, mtop0, mtop1, extop, popop, D.ok, D.okd, rngL_nat, rngOk_nat (show n ≤ 1000 by omega)]) ⟨u8, u11, u13, u14, rfl, h8, h11⟩ (by
      rintro i a z hx ⟨v8, v11, v13, v14, rfl, _, hv11⟩
      have hi : i < n := by
        have := (List.getElem?_eq_some_iff.mp hx).1
        simpa using this
      have hxi : i = a := by
        rw [List.getElem?_eq_getElem (by simpa using hi)] at hx
        simpa using hx
      subst hxi
      obtain ⟨w11, w14, hw11, e⟩ := w_body (P := P) (m := m) (n := n) (k := k) (ls := ls) (hd := hd) (tb := (List.range i).map fun a => D.lst ((walkF n ls a k).map .int)) (u0 := u0) (u2 := u2) (u9 := u9) (u10 := u10) (u11 := v11) (u12 := u12) (u13 := v13) (u14 := v14) (a := i) hm hw hk hi hv11 (by rw [List.length_map, List.length_range]; omega) sO sW sI
      refine ⟨⟨[u0, some (.frz, .hand), u2, some (.frz, .int (n : Nat)), some (.frz, lsD ls), some (.frz, .web n ls), some (.own, .lst ((List.range i).map fun a => D.lst ((walkF n ls a k).map .int))), some (.frz, .int (k : Nat)), some (.frz, .int (i : Nat)), u9, u10, v11, u12, v13, v14, none, none], some hd.D, []⟩, _, by simp [e_var, e_int, e_bl, e_non, e_str, e_bin, e_neg, e_not, e_cmp, e_cmp2, e_and, e_or, e_ite, e_tup, e_lst, e_dic0, e_ix, e_sl, e_rev, e_fld, e_there, e_call, e_web, e_blt, e_isi, e_mt, e_md, e_listIt, e_tupIt, e_val, o_nil, o_cons, ef_nil, ef_cons, eo_none, eo_some, ei_seq, ei_rng1, ei_rng2, ei_zip, ei_enum, r_nil, r_cons, x_nil, x_cons, x_set, x_setH, x_par, x_unp, x_setIx, x_ex, x_ite, x_ret, x_pass, x_brk, x_cont, sVar, sOp1, sOp2, plainB, plain1, plainB2, plain2, sNeg, sNot, sCmp2, sAnd, sOr, sIte, sTup, sLst, sItem, sSl, sCall, sBlt, sMt, sMd, sListIt, sTupIt, sIt1, sIt2, itSeq, itEnum, itZip, sRng1, sRng2, sOsNil, sOsCons, sEfNil, sEfCons, sEoNone, sEoSome, setSlot, setAll, xSet, xSetH, xPar, xUnp, setItem, xSetIx, xEx, xIte, xRet, xSeq, opd, Opd.get, Opd.arg, args, gets, slotsOf, optI, Z.at, Z.put, Z.wipe, Z.back, Z.freeze, keepF, bor, unbor, bindT, bindT.bindTs, binop, isin, isNon, cmpop, iop, nop, D.cmpo, deq, D.eqv, isInst, isInsts, seqOf, lenop, lstop, intop, absop, bltin1, int2, bltin2, bltin, ixop, fldop, thop, stop, mtop, mtop0, mtop1, extop, popop, D.ok, D.okd], e, some (.frz, .int (i : Nat)), w11, some (.frz, .lst ((walkF n ls i k).map .int)), w14, ?_, rfl, hw11⟩
      rw [List.range_succ, List.map_append]
      rfl)
  rw [List.length_range] at hz
  subst hz
  exact ⟨v8, v11, v13, v14, hv8, hv11, e⟩

theorem w_s6 {m n k : Nat} {ls : List (Nat × Nat)} {hd : Hand} {u0 u2 u8 u9 u10 u11 u12 u13 u14 : Option (Ow × D)} (h7 : n ≤ 7) (h8 : keepF u8 = u8) : ev (den P m) (.blt .sum (.cons (.comp (.ix (.ix (.var 6) (.var 8)) (.var 8)) (.nm 8) (.rng1 (.var 3)) (.bl true) [8]) .nil)) ⟨[u0, some (.frz, .hand), u2, some (.frz, .int (n : Nat)), some (.frz, lsD ls), some (.frz, .web n ls), some (.own, .lst ((List.range n).map fun a => D.lst ((walkF n ls a k).map .int))), some (.frz, .int (k : Nat)), u8, u9, u10, u11, u12, u13, u14, none, none], some hd.D, []⟩ = some (⟨[u0, some (.frz, .hand), u2, some (.frz, .int (n : Nat)), some (.frz, lsD ls), some (.frz, .web n ls), some (.own, .lst ((List.range n).map fun a => D.lst ((walkF n ls a k).map .int))), some (.frz, .int (k : Nat)), u8, u9, u10, u11, u12, u13, u14, none, none], some hd.D, []⟩, false, .int (Su n fun a => wk n ls k a a)) := by
  refine ev_blt1 (fun _ h => by cases h) (ev_mapM (bs := []) (List.range n) (fun i => .int (i : Nat)) (fun a => .int (wk n ls k a a)) (by simp [e_var, e_int, e_bl, e_non, e_str, e_bin, e_neg, e_not, e_cmp, e_cmp2, e_and, e_or, e_ite, e_tup, e_lst, e_dic0, e_ix, e_sl, e_rev, e_fld, e_there, e_call, e_web, e_blt, e_isi, e_mt, e_md, e_listIt, e_tupIt, e_val, o_nil, o_cons, ef_nil, ef_cons, eo_none, eo_some, ei_seq, ei_rng1, ei_rng2, ei_zip, ei_enum, r_nil, r_cons, x_nil, x_cons, x_set, x_setH, x_par, x_unp, x_setIx, x_ex, x_ite, x_ret, x_pass, x_brk, x_cont, sVar, sOp1, sOp2, plainB, plain1, plainB2, plain2, sNeg, sNot, sCmp2, sAnd, sOr, sIte, sTup, sLst, sItem, sSl, sCall, sBlt, sMt, sMd, sListIt, sTupIt, sIt1, sIt2, itSeq, itEnum, itZip, sRng1, sRng2, sOsNil, sOsCons, sEfNil, sEfCons, sEoNone, sEoSome, setSlot, setAll, xSet, xSetH, xPar, xUnp, setItem, xSetIx, xEx, xIte, xRet, xSeq, opd, Opd.get, Opd.arg, args, gets, slotsOf, optI, Z.at, Z.put, Z.wipe, Z.back, Z.freeze, keepF, bor, unbor, bindT, bindT.bindTs, binop, isin, isNon, cmpop, iop, nop, D.cmpo, deq, D.eqv, isInst, isInsts, seqOf, lenop, lstop, intop, absop, bltin1, int2, bltin2, bltin, ixop, fldop, thop, stop, mtop, mtop0, mtop1, extop, popop, D.ok, D.okd, rngL_nat, rngOk_nat (show n ≤ 1000 by omega)]) (by rw [List.length_range]; exact lim_gt (by omega)) (by simp [Z.at, h8]) (fun a ha => ⟨⟨[u0, some (.frz, .hand), u2, some (.frz, .int (n : Nat)), some (.frz, lsD ls), some (.frz, .web n ls), some (.own, .lst ((List.range n).map fun a => D.lst ((walkF n ls a k).map .int))), some (.frz, .int (k : Nat)), some (.frz, .int (a : Nat)), u9, u10, u11, u12, u13, u14, none, none], some hd.D, []⟩, ⟨[u0, some (.frz, .hand), u2, some (.frz, .int (n : Nat)), some (.frz, lsD ls), some (.frz, .web n ls), some (.own, .lst ((List.range n).map fun a => D.lst ((walkF n ls a k).map .int))), some (.frz, .int (k : Nat)), some (.frz, .int (a : Nat)), u9, u10, u11, u12, u13, u14, none, none], some hd.D, []⟩, false, by simp [e_var, e_int, e_bl, e_non, e_str, e_bin, e_neg, e_not, e_cmp, e_cmp2, e_and, e_or, e_ite, e_tup, e_lst, e_dic0, e_ix, e_sl, e_rev, e_fld, e_there, e_call, e_web, e_blt, e_isi, e_mt, e_md, e_listIt, e_tupIt, e_val, o_nil, o_cons, ef_nil, ef_cons, eo_none, eo_some, ei_seq, ei_rng1, ei_rng2, ei_zip, ei_enum, r_nil, r_cons, x_nil, x_cons, x_set, x_setH, x_par, x_unp, x_setIx, x_ex, x_ite, x_ret, x_pass, x_brk, x_cont, sVar, sOp1, sOp2, plainB, plain1, plainB2, plain2, sNeg, sNot, sCmp2, sAnd, sOr, sIte, sTup, sLst, sItem, sSl, sCall, sBlt, sMt, sMd, sListIt, sTupIt, sIt1, sIt2, itSeq, itEnum, itZip, sRng1, sRng2, sOsNil, sOsCons, sEfNil, sEfCons, sEoNone, sEoSome, setSlot, setAll, xSet, xSetH, xPar, xUnp, setItem, xSetIx, xEx, xIte, xRet, xSeq, opd, Opd.get, Opd.arg, args, gets, slotsOf, optI, Z.at, Z.put, Z.wipe, Z.back, Z.freeze, keepF, bor, unbor, bindT, bindT.bindTs, binop, isin, isNon, cmpop, iop, nop, D.cmpo, deq, D.eqv, isInst, isInsts, seqOf, lenop, lstop, intop, absop, bltin1, int2, bltin2, bltin, ixop, fldop, thop, stop, mtop, mtop0, mtop1, extop, popop, D.ok, D.okd], ?_, by simp [e_var, e_int, e_bl, e_non, e_str, e_bin, e_neg, e_not, e_cmp, e_cmp2, e_and, e_or, e_ite, e_tup, e_lst, e_dic0, e_ix, e_sl, e_rev, e_fld, e_there, e_call, e_web, e_blt, e_isi, e_mt, e_md, e_listIt, e_tupIt, e_val, o_nil, o_cons, ef_nil, ef_cons, eo_none, eo_some, ei_seq, ei_rng1, ei_rng2, ei_zip, ei_enum, r_nil, r_cons, x_nil, x_cons, x_set, x_setH, x_par, x_unp, x_setIx, x_ex, x_ite, x_ret, x_pass, x_brk, x_cont, sVar, sOp1, sOp2, plainB, plain1, plainB2, plain2, sNeg, sNot, sCmp2, sAnd, sOr, sIte, sTup, sLst, sItem, sSl, sCall, sBlt, sMt, sMd, sListIt, sTupIt, sIt1, sIt2, itSeq, itEnum, itZip, sRng1, sRng2, sOsNil, sOsCons, sEfNil, sEfCons, sEoNone, sEoSome, setSlot, setAll, xSet, xSetH, xPar, xUnp, setItem, xSetIx, xEx, xIte, xRet, xSeq, opd, Opd.get, Opd.arg, args, gets, slotsOf, optI, Z.at, Z.put, Z.wipe, Z.back, Z.freeze, keepF, bor, unbor, bindT, bindT.bindTs, binop, isin, isNon, cmpop, iop, nop, D.cmpo, deq, D.eqv, isInst, isInsts, seqOf, lenop, lstop, intop, absop, bltin1, int2, bltin2, bltin, ixop, fldop, thop, stop, mtop, mtop0, mtop1, extop, popop, D.ok, D.okd]⟩) (by simp [e_var, e_int, e_bl, e_non, e_str, e_bin, e_neg, e_not, e_cmp, e_cmp2, e_and, e_or, e_ite, e_tup, e_lst, e_dic0, e_ix, e_sl, e_rev, e_fld, e_there, e_call, e_web, e_blt, e_isi, e_mt, e_md, e_listIt, e_tupIt, e_val, o_nil, o_cons, ef_nil, ef_cons, eo_none, eo_some, ei_seq, ei_rng1, ei_rng2, ei_zip, ei_enum, r_nil, r_cons, x_nil, x_cons, x_set, x_setH, x_par, x_unp, x_setIx, x_ex, x_ite, x_ret, x_pass, x_brk, x_cont, sVar, sOp1, sOp2, plainB, plain1, plainB2, plain2, sNeg, sNot, sCmp2, sAnd, sOr, sIte, sTup, sLst, sItem, sSl, sCall, sBlt, sMt, sMd, sListIt, sTupIt, sIt1, sIt2, itSeq, itEnum, itZip, sRng1, sRng2, sOsNil, sOsCons, sEfNil, sEfCons, sEoNone, sEoSome, setSlot, setAll, xSet, xSetH, xPar, xUnp, setItem, xSetIx, xEx, xIte, xRet, xSeq, opd, Opd.get, Opd.arg, args, gets, slotsOf, optI, Z.at, Z.put, Z.wipe, Z.back, Z.freeze, keepF, bor, unbor, bindT, bindT.bindTs, binop, isin, isNon, cmpop, iop, nop, D.cmpo, deq, D.eqv, isInst, isInsts, seqOf, lenop, lstop, intop, absop, bltin1, int2, bltin2, bltin, ixop, fldop, thop, stop, mtop, mtop0, mtop1, extop, popop, D.ok, D.okd])) (sum_map _ _)
  have ha := List.mem_range.mp ha
  have e1 := atI_mapN (List.range n) (fun a => D.lst ((walkF n ls a k).map .int)) a (by rw [List.length_range]; exact ha)
  have hl : a < (walkF n ls a k).length := by rw [walkF_len]; exact ha
  have e2 := atI_mapN (walkF n ls a k) .int a hl
  have e3 : (walkF n ls a k)[a] = wk n ls k a a := by simp [wk, List.getElem?_eq_getElem hl]
  rw [e3] at e2
  simp only [List.getElem_range] at e1
  simp [e_var, e_int, e_bl, e_non, e_str, e_bin, e_neg, e_not, e_cmp, e_cmp2, e_and, e_or, e_ite, e_tup, e_lst, e_dic0, e_ix, e_sl, e_rev, e_fld, e_there, e_call, e_web, e_blt, e_isi, e_mt, e_md, e_listIt, e_tupIt, e_val, o_nil, o_cons, ef_nil, ef_cons, eo_none, eo_some, ei_seq, ei_rng1, ei_rng2, ei_zip, ei_enum, r_nil, r_cons, x_nil, x_cons, x_set, x_setH, x_par, x_unp, x_setIx, x_ex, x_ite, x_ret, x_pass, x_brk, x_cont, sVar, sOp1, sOp2, plainB, plain1, plainB2, plain2, sNeg, sNot, sCmp2, sAnd, sOr, sIte, sTup, sLst, sItem, sSl, sCall, sBlt, sMt, sMd, sListIt, sTupIt, sIt1, sIt2, itSeq, itEnum, itZip, sRng1, sRng2, sOsNil, sOsCons, sEfNil, sEfCons, sEoNone, sEoSome, setSlot, setAll, xSet, xSetH, xPar, xUnp, setItem, xSetIx, xEx, xIte, xRet, xSeq, opd, Opd.get, Opd.arg, args, gets, slotsOf, optI, Z.at, Z.put, Z.wipe, Z.back, Z.freeze, keepF, bor, unbor, bindT, bindT.bindTs, binop, isin, isNon, cmpop, iop, nop, D.cmpo, deq, D.eqv, isInst, isInsts, seqOf, lenop, lstop, intop, absop, bltin1, int2, bltin2, bltin, ixop, fldop, thop, stop, mtop, mtop0, mtop1, extop, popop, D.ok, D.okd, e1, e2]
theorem w_t6 {m n k : Nat} {ls : List (Nat × Nat)} {hd : Hand} {u0 u2 u8 u9 u10 u11 u12 u13 u14 : Option (Ow × D)} {X : E} (hm : 16 ≤ m) (hw : WOk n ls) (hk : k ≤ 60) (hX : ∀ i, X ≠ .var i) (eX : ev (den P m) X ⟨[u0, some (.frz, .hand), u2, some (.frz, .int (n : Nat)), some (.frz, lsD ls), some (.frz, .web n ls), some (.own, .lst ((List.range n).map fun a => D.lst ((walkF n ls a k).map .int))), some (.frz, .int (k : Nat)), u8, u9, u10, u11, u12, u13, u14, none, none], some hd.D, []⟩ = some (⟨[u0, some (.frz, .hand), u2, some (.frz, .int (n : Nat)), some (.frz, lsD ls), some (.frz, .web n ls), some (.own, .lst ((List.range n).map fun a => D.lst ((walkF n ls a k).map .int))), some (.frz, .int (k : Nat)), u8, u9, u10, u11, u12, u13, u14, none, none], some hd.D, []⟩, false, .int (Su n fun a => wk n ls k a a))) (sC : SClosed P 18) (sI : SIsInt P 24) : exec (den P m) (.ite (.not (.call 24 (.cons (.call 18 (.cons (.var 5) (.cons (.var 7) .nil))) (.cons X .nil)))) (.cons (.ret (.bl false)) .nil) .nil) ⟨[u0, some (.frz, .hand), u2, some (.frz, .int (n : Nat)), some (.frz, lsD ls), some (.frz, .web n ls), some (.own, .lst ((List.range n).map fun a => D.lst ((walkF n ls a k).map .int))), some (.frz, .int (k : Nat)), u8, u9, u10, u11, u12, u13, u14, none, none], some hd.D, []⟩ = some (.nx ⟨[u0, some (.frz, .hand), u2, some (.frz, .int (n : Nat)), some (.frz, lsD ls), some (.frz, .web n ls), some (.own, .lst ((List.range n).map fun a => D.lst ((walkF n ls a k).map .int))), some (.frz, .int (k : Nat)), u8, u9, u10, u11, u12, u13, u14, none, none], some hd.D, []⟩) := by
  have e1 := sC m (some hd.D) n ls k hm hw.n7 hk
  have e2 : ((List.range n).map fun a => (walkF n ls a k).getD a 0).sum = Su n fun a => wk n ls k a a := rfl
  rw [e2] at e1
  have e3 := sI m (some hd.D) (Su n fun a => wk n ls k a a) (Su n fun a => wk n ls k a a) (by omega)
  have ho := opd_of hX
  simp [e_var, e_int, e_bl, e_non, e_str, e_bin, e_neg, e_not, e_cmp, e_cmp2, e_and, e_or, e_ite, e_tup, e_lst, e_dic0, e_ix, e_sl, e_rev, e_fld, e_there, e_call, e_web, e_blt, e_isi, e_mt, e_md, e_listIt, e_tupIt, e_val, o_nil, o_cons, ef_nil, ef_cons, eo_none, eo_some, ei_seq, ei_rng1, ei_rng2, ei_zip, ei_enum, r_nil, r_cons, x_nil, x_cons, x_set, x_setH, x_par, x_unp, x_setIx, x_ex, x_ite, x_ret, x_pass, x_brk, x_cont, sVar, sOp1, sOp2, plainB, plain1, plainB2, plain2, sNeg, sNot, sCmp2, sAnd, sOr, sIte, sTup, sLst, sItem, sSl, sCall, sBlt, sMt, sMd, sListIt, sTupIt, sIt1, sIt2, itSeq, itEnum, itZip, sRng1, sRng2, sOsNil, sOsCons, sEfNil, sEfCons, sEoNone, sEoSome, setSlot, setAll, xSet, xSetH, xPar, xUnp, setItem, xSetIx, xEx, xIte, xRet, xSeq, opd, Opd.get, Opd.arg, args, gets, slotsOf, optI, Z.at, Z.put, Z.wipe, Z.back, Z.freeze, keepF, bor, unbor, bindT, bindT.bindTs, binop, isin, isNon, cmpop, iop, nop, D.cmpo, deq, D.eqv, isInst, isInsts, seqOf, lenop, lstop, intop, absop, bltin1, int2, bltin2, bltin, ixop, fldop, thop, stop, mtop, mtop0, mtop1, extop, popop, D.ok, D.okd, ↓ho, eX, e1, e3]

theorem w_t7 {m n k : Nat} {ls : List (Nat × Nat)} {hd : Hand} {u0 u2 u8 u9 u10 u11 u12 u13 u14 : Option (Ow × D)} (hm : 3 ≤ m) (hw : WOk n ls) (sD : SDraw P 22) : ∃ (h' : Hand) (x y a b : Nat), x < 9 ∧ y < 9 ∧ a < n ∧ b < n ∧ exec (den P m) (.par [(9, false), (10, false), (8, false), (11, false)] (.cons (.call 22 (.cons (.var 1) (.cons (.int 9) .nil))) (.cons (.call 22 (.cons (.var 1) (.cons (.int 9) .nil))) (.cons (.call 22 (.cons (.var 1) (.cons (.var 3) .nil))) (.cons (.call 22 (.cons (.var 1) (.cons (.var 3) .nil))) .nil))))) ⟨[u0, some (.frz, .hand), u2, some (.frz, .int (n : Nat)), some (.frz, lsD ls), some (.frz, .web n ls), some (.own, .lst ((List.range n).map fun a => D.lst ((walkF n ls a k).map .int))), some (.frz, .int (k : Nat)), u8, u9, u10, u11, u12, u13, u14, none, none], some hd.D, []⟩ = some (.nx ⟨[u0, some (.frz, .hand), u2, some (.frz, .int (n : Nat)), some (.frz, lsD ls), some (.frz, .web n ls), some (.own, .lst ((List.range n).map fun a => D.lst ((walkF n ls a k).map .int))), some (.frz, .int (k : Nat)), some (.frz, .int (a : Nat)), some (.frz, .int (x : Nat)), some (.frz, .int (y : Nat)), some (.frz, .int (b : Nat)), u12, u13, u14, none, none], some h'.D, []⟩) := by
  have h7 := hw.n7
  have h1 := hw.n1
  obtain ⟨ha, x, hx, e1⟩ := sD.at m (by omega) hd 9 (by omega) (by omega)
  obtain ⟨hb, y, hy, e2⟩ := sD.at m (by omega) ha 9 (by omega) (by omega)
  obtain ⟨hc, a, hA, e3⟩ := sD.at m (by omega) hb n (by omega) (by omega)
  obtain ⟨h', b, hB, e4⟩ := sD.at m (by omega) hc n (by omega) (by omega)
  refine ⟨h', x, y, a, b, hx, hy, hA, hB, ?_⟩
  simp at e1 e2
  simp [e_var, e_int, e_bl, e_non, e_str, e_bin, e_neg, e_not, e_cmp, e_cmp2, e_and, e_or, e_ite, e_tup, e_lst, e_dic0, e_ix, e_sl, e_rev, e_fld, e_there, e_call, e_web, e_blt, e_isi, e_mt, e_md, e_listIt, e_tupIt, e_val, o_nil, o_cons, ef_nil, ef_cons, eo_none, eo_some, ei_seq, ei_rng1, ei_rng2, ei_zip, ei_enum, r_nil, r_cons, x_nil, x_cons, x_set, x_setH, x_par, x_unp, x_setIx, x_ex, x_ite, x_ret, x_pass, x_brk, x_cont, sVar, sOp1, sOp2, plainB, plain1, plainB2, plain2, sNeg, sNot, sCmp2, sAnd, sOr, sIte, sTup, sLst, sItem, sSl, sCall, sBlt, sMt, sMd, sListIt, sTupIt, sIt1, sIt2, itSeq, itEnum, itZip, sRng1, sRng2, sOsNil, sOsCons, sEfNil, sEfCons, sEoNone, sEoSome, setSlot, setAll, xSet, xSetH, xPar, xUnp, setItem, xSetIx, xEx, xIte, xRet, xSeq, opd, Opd.get, Opd.arg, args, gets, slotsOf, optI, Z.at, Z.put, Z.wipe, Z.back, Z.freeze, keepF, bor, unbor, bindT, bindT.bindTs, binop, isin, isNon, cmpop, iop, nop, D.cmpo, deq, D.eqv, isInst, isInsts, seqOf, lenop, lstop, intop, absop, bltin1, int2, bltin2, bltin, ixop, fldop, thop, stop, mtop, mtop0, mtop1, extop, popop, D.ok, D.okd, e1, e2, e3, e4]

theorem small_wk {n : Nat} {ls : List (Nat × Nat)} {a : Nat} (h7 : n ≤ 7) : ∀ {k : Nat} {b : Nat}, k ≤ 8 → b < n → 0 ≤ wk n ls k a b ∧ wk n ls k a b ≤ 7 ^ k
  | 0, b, _, hb => by rw [wk_zero hb]; split <;> simp
  | k + 1, b, hk, hb => by
    rw [wk_succ hb]
    have key : ∀ j ≤ n, 0 ≤ (Su j fun c => A ls b c * wk n ls k a c) ∧ (Su j fun c => A ls b c * wk n ls k a c) ≤ j * 7 ^ k := by
      intro j
      induction j with
      | zero => intro _; simp [Su_zero]
      | succ j ih =>
        intro hj
        have h1 := ih (by omega)
        have h2 := small_wk (ls := ls) (a := a) h7 (k := k) (b := j) (by omega) (by omega)
        rw [Su_succ]
        have e : A ls b j * wk n ls k a j = 0 ∨ A ls b j * wk n ls k a j = wk n ls k a j := by unfold A; split <;> simp
        have e2 : ((j + 1 : Nat) : Int) * 7 ^ k = j * 7 ^ k + 7 ^ k := by rw [Int.natCast_add, Int.add_mul]; simp
        rw [e2]
        rcases e with e | e <;> rw [e] <;> omega
    have h1 := key n (Nat.le_refl _)
    refine ⟨h1.1, Int.le_trans h1.2 ?_⟩
    rw [Int.pow_succ, Int.mul_comm]
    exact Int.mul_le_mul_of_nonneg_left (by omega) (by have : (0 : Int) ≤ 7 := by omega
                                                       exact Int.pow_nonneg this)
theorem small_of {n : Nat} {ls : List (Nat × Nat)} {a k b : Nat} (h7 : n ≤ 7) (hk : k ≤ 8) (hb : b < n) : small (wk n ls k a b) = true := by
  have h := small_wk (a := a) (ls := ls) h7 hk hb
  have e : (7 : Int) ^ k ≤ 7 ^ 8 := by
    have : ∀ k ≤ 8, (7 : Int) ^ k ≤ 7 ^ 8 := by decide
    exact this k hk
  simp only [small, Bool.and_eq_true, decide_eq_true_eq]
  omega
theorem w_s8 {m n k : Nat} {ls : List (Nat × Nat)} {hd : Hand} {u0 u2 u12 u13 u14 : Option (Ow × D)} {x y a b : Nat} (hm : 16 ≤ m) (hw : WOk n ls) (hx : x < 9) (hy : y < 9) (ha : a < n) (hb : b < n) (sW : SWalks P 17) : ev (den P m) (.blt .sum (.cons (.comp (.bin .mul (.call 17 (.cons (.var 5) (.cons (.var 8) (.cons (.var 15) (.cons (.var 9) .nil))))) (.call 17 (.cons (.var 5) (.cons (.var 15) (.cons (.var 11) (.cons (.var 10) .nil)))))) (.nm 15) (.rng1 (.var 3)) (.bl true) [15]) .nil)) ⟨[u0, some (.frz, .hand), u2, some (.frz, .int (n : Nat)), some (.frz, lsD ls), some (.frz, .web n ls), some (.own, .lst ((List.range n).map fun a => D.lst ((walkF n ls a k).map .int))), some (.frz, .int (k : Nat)), some (.frz, .int (a : Nat)), some (.frz, .int (x : Nat)), some (.frz, .int (y : Nat)), some (.frz, .int (b : Nat)), u12, u13, u14, none, none], some hd.D, []⟩ = some (⟨[u0, some (.frz, .hand), u2, some (.frz, .int (n : Nat)), some (.frz, lsD ls), some (.frz, .web n ls), some (.own, .lst ((List.range n).map fun a => D.lst ((walkF n ls a k).map .int))), some (.frz, .int (k : Nat)), some (.frz, .int (a : Nat)), some (.frz, .int (x : Nat)), some (.frz, .int (y : Nat)), some (.frz, .int (b : Nat)), u12, u13, u14, none, none], some hd.D, []⟩, false, .int (wk n ls (x + y) a b)) := by
  have h7 := hw.n7
  rw [wk_add ha hb]
  refine ev_blt1 (fun _ h => by cases h) (ev_mapM (bs := []) (List.range n) (fun i => .int (i : Nat)) (fun c => .int (wk n ls x a c * wk n ls y c b)) (by simp [e_var, e_int, e_bl, e_non, e_str, e_bin, e_neg, e_not, e_cmp, e_cmp2, e_and, e_or, e_ite, e_tup, e_lst, e_dic0, e_ix, e_sl, e_rev, e_fld, e_there, e_call, e_web, e_blt, e_isi, e_mt, e_md, e_listIt, e_tupIt, e_val, o_nil, o_cons, ef_nil, ef_cons, eo_none, eo_some, ei_seq, ei_rng1, ei_rng2, ei_zip, ei_enum, r_nil, r_cons, x_nil, x_cons, x_set, x_setH, x_par, x_unp, x_setIx, x_ex, x_ite, x_ret, x_pass, x_brk, x_cont, sVar, sOp1, sOp2, plainB, plain1, plainB2, plain2, sNeg, sNot, sCmp2, sAnd, sOr, sIte, sTup, sLst, sItem, sSl, sCall, sBlt, sMt, sMd, sListIt, sTupIt, sIt1, sIt2, itSeq, itEnum, itZip, sRng1, sRng2, sOsNil, sOsCons, sEfNil, sEfCons, sEoNone, sEoSome, setSlot, setAll, xSet, xSetH, xPar, xUnp, setItem, xSetIx, xEx, xIte, xRet, xSeq, opd, Opd.get, Opd.arg, args, gets, slotsOf, optI, Z.at, Z.put, Z.wipe, Z.back, Z.freeze, keepF, bor, unbor, bindT, bindT.bindTs, binop, isin, isNon, cmpop, iop, nop, D.cmpo, deq, D.eqv, isInst, isInsts, seqOf, lenop, lstop, intop, absop, bltin1, int2, bltin2, bltin, ixop, fldop, thop, stop, mtop, mtop0, mtop1, extop, popop, D.ok, D.okd, rngL_nat, rngOk_nat (show n ≤ 1000 by omega)]) (by rw [List.length_range]; exact lim_gt (by omega)) (by simp [keepF, Z.at]) (fun c hc => ⟨⟨[u0, some (.frz, .hand), u2, some (.frz, .int (n : Nat)), some (.frz, lsD ls), some (.frz, .web n ls), some (.own, .lst ((List.range n).map fun a => D.lst ((walkF n ls a k).map .int))), some (.frz, .int (k : Nat)), some (.frz, .int (a : Nat)), some (.frz, .int (x : Nat)), some (.frz, .int (y : Nat)), some (.frz, .int (b : Nat)), u12, u13, u14, some (.frz, .int (c : Nat)), none], some hd.D, []⟩, ⟨[u0, some (.frz, .hand), u2, some (.frz, .int (n : Nat)), some (.frz, lsD ls), some (.frz, .web n ls), some (.own, .lst ((List.range n).map fun a => D.lst ((walkF n ls a k).map .int))), some (.frz, .int (k : Nat)), some (.frz, .int (a : Nat)), some (.frz, .int (x : Nat)), some (.frz, .int (y : Nat)), some (.frz, .int (b : Nat)), u12, u13, u14, some (.frz, .int (c : Nat)), none], some hd.D, []⟩, false, by simp [e_var, e_int, e_bl, e_non, e_str, e_bin, e_neg, e_not, e_cmp, e_cmp2, e_and, e_or, e_ite, e_tup, e_lst, e_dic0, e_ix, e_sl, e_rev, e_fld, e_there, e_call, e_web, e_blt, e_isi, e_mt, e_md, e_listIt, e_tupIt, e_val, o_nil, o_cons, ef_nil, ef_cons, eo_none, eo_some, ei_seq, ei_rng1, ei_rng2, ei_zip, ei_enum, r_nil, r_cons, x_nil, x_cons, x_set, x_setH, x_par, x_unp, x_setIx, x_ex, x_ite, x_ret, x_pass, x_brk, x_cont, sVar, sOp1, sOp2, plainB, plain1, plainB2, plain2, sNeg, sNot, sCmp2, sAnd, sOr, sIte, sTup, sLst, sItem, sSl, sCall, sBlt, sMt, sMd, sListIt, sTupIt, sIt1, sIt2, itSeq, itEnum, itZip, sRng1, sRng2, sOsNil, sOsCons, sEfNil, sEfCons, sEoNone, sEoSome, setSlot, setAll, xSet, xSetH, xPar, xUnp, setItem, xSetIx, xEx, xIte, xRet, xSeq, opd, Opd.get, Opd.arg, args, gets, slotsOf, optI, Z.at, Z.put, Z.wipe, Z.back, Z.freeze, keepF, bor, unbor, bindT, bindT.bindTs, binop, isin, isNon, cmpop, iop, nop, D.cmpo, deq, D.eqv, isInst, isInsts, seqOf, lenop, lstop, intop, absop, bltin1, int2, bltin2, bltin, ixop, fldop, thop, stop, mtop, mtop0, mtop1, extop, popop, D.ok, D.okd], ?_, by simp [e_var, e_int, e_bl, e_non, e_str, e_bin, e_neg, e_not, e_cmp, e_cmp2, e_and, e_or, e_ite, e_tup, e_lst, e_dic0, e_ix, e_sl, e_rev, e_fld, e_there, e_call, e_web, e_blt, e_isi, e_mt, e_md, e_listIt, e_tupIt, e_val, o_nil, o_cons, ef_nil, ef_cons, eo_none, eo_some, ei_seq, ei_rng1, ei_rng2, ei_zip, ei_enum, r_nil, r_cons, x_nil, x_cons, x_set, x_setH, x_par, x_unp, x_setIx, x_ex, x_ite, x_ret, x_pass, x_brk, x_cont, sVar, sOp1, sOp2, plainB, plain1, plainB2, plain2, sNeg, sNot, sCmp2, sAnd, sOr, sIte, sTup, sLst, sItem, sSl, sCall, sBlt, sMt, sMd, sListIt, sTupIt, sIt1, sIt2, itSeq, itEnum, itZip, sRng1, sRng2, sOsNil, sOsCons, sEfNil, sEfCons, sEoNone, sEoSome, setSlot, setAll, xSet, xSetH, xPar, xUnp, setItem, xSetIx, xEx, xIte, xRet, xSeq, opd, Opd.get, Opd.arg, args, gets, slotsOf, optI, Z.at, Z.put, Z.wipe, Z.back, Z.freeze, keepF, bor, unbor, bindT, bindT.bindTs, binop, isin, isNon, cmpop, iop, nop, D.cmpo, deq, D.eqv, isInst, isInsts, seqOf, lenop, lstop, intop, absop, bltin1, int2, bltin2, bltin, ixop, fldop, thop, stop, mtop, mtop0, mtop1, extop, popop, D.ok, D.okd]⟩) (by simp [e_var, e_int, e_bl, e_non, e_str, e_bin, e_neg, e_not, e_cmp, e_cmp2, e_and, e_or, e_ite, e_tup, e_lst, e_dic0, e_ix, e_sl, e_rev, e_fld, e_there, e_call, e_web, e_blt, e_isi, e_mt, e_md, e_listIt, e_tupIt, e_val, o_nil, o_cons, ef_nil, ef_cons, eo_none, eo_some, ei_seq, ei_rng1, ei_rng2, ei_zip, ei_enum, r_nil, r_cons, x_nil, x_cons, x_set, x_setH, x_par, x_unp, x_setIx, x_ex, x_ite, x_ret, x_pass, x_brk, x_cont, sVar, sOp1, sOp2, plainB, plain1, plainB2, plain2, sNeg, sNot, sCmp2, sAnd, sOr, sIte, sTup, sLst, sItem, sSl, sCall, sBlt, sMt, sMd, sListIt, sTupIt, sIt1, sIt2, itSeq, itEnum, itZip, sRng1, sRng2, sOsNil, sOsCons, sEfNil, sEfCons, sEoNone, sEoSome, setSlot, setAll, xSet, xSetH, xPar, xUnp, setItem, xSetIx, xEx, xIte, xRet, xSeq, opd, Opd.get, Opd.arg, args, gets, slotsOf, optI, Z.at, Z.put, Z.wipe, Z.back, Z.freeze, keepF, bor, unbor, bindT, bindT.bindTs, binop, isin, isNon, cmpop, iop, nop, D.cmpo, deq, D.eqv, isInst, isInsts, seqOf, lenop, lstop, intop, absop, bltin1, int2, bltin2, bltin, ixop, fldop, thop, stop, mtop, mtop0, mtop1, extop, popop, D.ok, D.okd])) (sum_map _ _)
  have hc := List.mem_range.mp hc
  have e1 := sW m (some hd.D) n ls a c x hm h7 (by omega) ha hc
  have e2 := sW m (some hd.D) n ls c b y hm h7 (by omega) hc hb
  have s := small_of (ls := ls) (a := a) (k := x) h7 (by omega) hc
  change den P m 17 _ _ = some (_, _, .int (wk n ls x a c)) at e1
  change den P m 17 _ _ = some (_, _, .int (wk n ls y c b)) at e2
  simp [e_var, e_int, e_bl, e_non, e_str, e_bin, e_neg, e_not, e_cmp, e_cmp2, e_and, e_or, e_ite, e_tup, e_lst, e_dic0, e_ix, e_sl, e_rev, e_fld, e_there, e_call, e_web, e_blt, e_isi, e_mt, e_md, e_listIt, e_tupIt, e_val, o_nil, o_cons, ef_nil, ef_cons, eo_none, eo_some, ei_seq, ei_rng1, ei_rng2, ei_zip, ei_enum, r_nil, r_cons, x_nil, x_cons, x_set, x_setH, x_par, x_unp, x_setIx, x_ex, x_ite, x_ret, x_pass, x_brk, x_cont, sVar, sOp1, sOp2, plainB, plain1, plainB2, plain2, sNeg, sNot, sCmp2, sAnd, sOr, sIte, sTup, sLst, sItem, sSl, sCall, sBlt, sMt, sMd, sListIt, sTupIt, sIt1, sIt2, itSeq, itEnum, itZip, sRng1, sRng2, sOsNil, sOsCons, sEfNil, sEfCons, sEoNone, sEoSome, setSlot, setAll, xSet, xSetH, xPar, xUnp, setItem, xSetIx, xEx, xIte, xRet, xSeq, opd, Opd.get, Opd.arg, args, gets, slotsOf, optI, Z.at, Z.put, Z.wipe, Z.back, Z.freeze, keepF, bor, unbor, bindT, bindT.bindTs, binop, isin, isNon, cmpop, iop, nop, D.cmpo, deq, D.eqv, isInst, isInsts, seqOf, lenop, lstop, intop, absop, bltin1, int2, bltin2, bltin, ixop, fldop, thop, stop, mtop, mtop0, mtop1, extop, popop, D.ok, D.okd, e1, e2, s]
theorem w_t9 {m n k : Nat} {ls : List (Nat × Nat)} {hd : Hand} {u0 u2 u13 u14 : Option (Ow × D)} {x y a b : Nat} (hm : 16 ≤ m) (hw : WOk n ls) (hx : x < 9) (hy : y < 9) (ha : a < n) (hb : b < n) (sW : SWalks P 17) : exec (den P m) (.ite (.cmp .ne (.call 17 (.cons (.var 5) (.cons (.var 8) (.cons (.var 11) (.cons (.bin .add (.var 9) (.var 10)) .nil))))) (.var 12)) (.cons (.ret (.bl false)) .nil) .nil) ⟨[u0, some (.frz, .hand), u2, some (.frz, .int (n : Nat)), some (.frz, lsD ls), some (.frz, .web n ls), some (.own, .lst ((List.range n).map fun a => D.lst ((walkF n ls a k).map .int))), some (.frz, .int (k : Nat)), some (.frz, .int (a : Nat)), some (.frz, .int (x : Nat)), some (.frz, .int (y : Nat)), some (.frz, .int (b : Nat)), some (.frz, .int (wk n ls (x + y) a b)), u13, u14, none, none], some hd.D, []⟩ = some (.nx ⟨[u0, some (.frz, .hand), u2, some (.frz, .int (n : Nat)), some (.frz, lsD ls), some (.frz, .web n ls), some (.own, .lst ((List.range n).map fun a => D.lst ((walkF n ls a k).map .int))), some (.frz, .int (k : Nat)), some (.frz, .int (a : Nat)), some (.frz, .int (x : Nat)), some (.frz, .int (y : Nat)), some (.frz, .int (b : Nat)), some (.frz, .int (wk n ls (x + y) a b)), u13, u14, none, none], some hd.D, []⟩) := by
  have h7 := hw.n7
  have e1 := sW m (some hd.D) n ls a b (x + y) hm h7 (by omega) ha hb
  change den P m 17 _ _ = some (_, _, .int (wk n ls (x + y) a b)) at e1
  simp at e1
  simp [e_var, e_int, e_bl, e_non, e_str, e_bin, e_neg, e_not, e_cmp, e_cmp2, e_and, e_or, e_ite, e_tup, e_lst, e_dic0, e_ix, e_sl, e_rev, e_fld, e_there, e_call, e_web, e_blt, e_isi, e_mt, e_md, e_listIt, e_tupIt, e_val, o_nil, o_cons, ef_nil, ef_cons, eo_none, eo_some, ei_seq, ei_rng1, ei_rng2, ei_zip, ei_enum, r_nil, r_cons, x_nil, x_cons, x_set, x_setH, x_par, x_unp, x_setIx, x_ex, x_ite, x_ret, x_pass, x_brk, x_cont, sVar, sOp1, sOp2, plainB, plain1, plainB2, plain2, sNeg, sNot, sCmp2, sAnd, sOr, sIte, sTup, sLst, sItem, sSl, sCall, sBlt, sMt, sMd, sListIt, sTupIt, sIt1, sIt2, itSeq, itEnum, itZip, sRng1, sRng2, sOsNil, sOsCons, sEfNil, sEfCons, sEoNone, sEoSome, setSlot, setAll, xSet, xSetH, xPar, xUnp, setItem, xSetIx, xEx, xIte, xRet, xSeq, opd, Opd.get, Opd.arg, args, gets, slotsOf, optI, Z.at, Z.put, Z.wipe, Z.back, Z.freeze, keepF, bor, unbor, bindT, bindT.bindTs, binop, isin, isNon, cmpop, iop, nop, D.cmpo, deq, D.eqv, isInst, isInsts, seqOf, lenop, lstop, intop, absop, bltin1, int2, bltin2, bltin, ixop, fldop, thop, stop, mtop, mtop0, mtop1, extop, popop, D.ok, D.okd, e1]
theorem w_t10 {m n k : Nat} {ls : List (Nat × Nat)} {hd : Hand} {u0 u2 u13 u14 : Option (Ow × D)} {x y a b : Nat} (hm : 16 ≤ m) (hw : WOk n ls) (hx : x < 9) (hy : y < 9) (ha : a < n) (hb : b < n) (sW : SWalks P 17) (sH : SLHas P 27) (sG : SDegsT P 14) : exec (den P m) (.ite (.or (.cmp .ne (.call 17 (.cons (.var 5) (.cons (.var 8) (.cons (.var 11) (.cons (.int 1) .nil))))) (.blt .int (.cons (.call 27 (.cons (.var 4) (.cons (.var 8) (.cons (.var 11) .nil)))) .nil))) (.cmp .ne (.call 17 (.cons (.var 5) (.cons (.var 8) (.cons (.var 8) (.cons (.int 2) .nil))))) (.ix (.call 14 (.cons (.var 5) .nil)) (.var 8)))) (.cons (.ret (.bl false)) .nil) .nil) ⟨[u0, some (.frz, .hand), u2, some (.frz, .int (n : Nat)), some (.frz, lsD ls), some (.frz, .web n ls), some (.own, .lst ((List.range n).map fun a => D.lst ((walkF n ls a k).map .int))), some (.frz, .int (k : Nat)), some (.frz, .int (a : Nat)), some (.frz, .int (x : Nat)), some (.frz, .int (y : Nat)), some (.frz, .int (b : Nat)), some (.frz, .int (wk n ls (x + y) a b)), u13, u14, none, none], some hd.D, []⟩ = some (.nx ⟨[u0, some (.frz, .hand), u2, some (.frz, .int (n : Nat)), some (.frz, lsD ls), some (.frz, .web n ls), some (.own, .lst ((List.range n).map fun a => D.lst ((walkF n ls a k).map .int))), some (.frz, .int (k : Nat)), some (.frz, .int (a : Nat)), some (.frz, .int (x : Nat)), some (.frz, .int (y : Nat)), some (.frz, .int (b : Nat)), some (.frz, .int (wk n ls (x + y) a b)), u13, u14, none, none], some hd.D, []⟩) := by
  have h7 := hw.n7
  have e1 := sW m (some hd.D) n ls a b 1 hm h7 (by omega) ha hb
  have e2 := sW m (some hd.D) n ls a a 2 hm h7 (by omega) ha ha
  change den P m 17 _ _ = some (_, _, .int (wk n ls 1 a b)) at e1
  change den P m 17 _ _ = some (_, _, .int (wk n ls 2 a a)) at e2
  rw [wk_one ha hb] at e1
  rw [degree2 ha] at e2
  have e3 := sH m (some hd.D) n ls a b (by omega) hw
  have e4 := sG m (some hd.D) n ls (by omega) h7
  have e5 := atI_mapN (List.range n) (fun a => D.int ((nearL n ls a).length : Nat)) a (by rw [List.length_range]; exact ha)
  simp only [List.getElem_range] at e5
  unfold A at e1
  simp at e1 e2
  cases q : adj ls a b <;> simp [q] at e1 e3 <;> simp [e_var, e_int, e_bl, e_non, e_str, e_bin, e_neg, e_not, e_cmp, e_cmp2, e_and, e_or, e_ite, e_tup, e_lst, e_dic0, e_ix, e_sl, e_rev, e_fld, e_there, e_call, e_web, e_blt, e_isi, e_mt, e_md, e_listIt, e_tupIt, e_val, o_nil, o_cons, ef_nil, ef_cons, eo_none, eo_some, ei_seq, ei_rng1, ei_rng2, ei_zip, ei_enum, r_nil, r_cons, x_nil, x_cons, x_set, x_setH, x_par, x_unp, x_setIx, x_ex, x_ite, x_ret, x_pass, x_brk, x_cont, sVar, sOp1, sOp2, plainB, plain1, plainB2, plain2, sNeg, sNot, sCmp2, sAnd, sOr, sIte, sTup, sLst, sItem, sSl, sCall, sBlt, sMt, sMd, sListIt, sTupIt, sIt1, sIt2, itSeq, itEnum, itZip, sRng1, sRng2, sOsNil, sOsCons, sEfNil, sEfCons, sEoNone, sEoSome, setSlot, setAll, xSet, xSetH, xPar, xUnp, setItem, xSetIx, xEx, xIte, xRet, xSeq, opd, Opd.get, Opd.arg, args, gets, slotsOf, optI, Z.at, Z.put, Z.wipe, Z.back, Z.freeze, keepF, bor, unbor, bindT, bindT.bindTs, binop, isin, isNon, cmpop, iop, nop, D.cmpo, deq, D.eqv, isInst, isInsts, seqOf, lenop, lstop, intop, absop, bltin1, int2, bltin2, bltin, ixop, fldop, thop, stop, mtop, mtop0, mtop1, extop, popop, D.ok, D.okd, e1, e2, e3, e4, intL, Function.comp_def, e5]
theorem w_t11 {m n k : Nat} {ls : List (Nat × Nat)} {hd : Hand} {u0 u2 u13 u14 : Option (Ow × D)} {x y a b : Nat} {X : E} (hm : 16 ≤ m) (hw : WOk n ls) (hx : x < 9) (hy : y < 9) (ha : a < n) (hb : b < n) (hX : ∀ i, X ≠ .var i) (eX : ev (den P m) X ⟨[u0, some (.frz, .hand), u2, some (.frz, .int (n : Nat)), some (.frz, lsD ls), some (.frz, .web n ls), some (.own, .lst ((List.range n).map fun a => D.lst ((walkF n ls a k).map .int))), some (.frz, .int (k : Nat)), some (.frz, .int (a : Nat)), some (.frz, .int (x : Nat)), some (.frz, .int (y : Nat)), some (.frz, .int (b : Nat)), some (.frz, .int (wk n ls (x + y) a b)), u13, u14, none, none], some hd.D, []⟩ = some (⟨[u0, some (.frz, .hand), u2, some (.frz, .int (n : Nat)), some (.frz, lsD ls), some (.frz, .web n ls), some (.own, .lst ((List.range n).map fun a => D.lst ((walkF n ls a k).map .int))), some (.frz, .int (k : Nat)), some (.frz, .int (a : Nat)), some (.frz, .int (x : Nat)), some (.frz, .int (y : Nat)), some (.frz, .int (b : Nat)), some (.frz, .int (wk n ls (x + y) a b)), u13, u14, none, none], some hd.D, []⟩, false, .int (wk n ls 2 a b))) (sW : SWalks P 17) : exec (den P m) (.ite (.and (.cmp .ne (.var 8) (.var 11)) (.cmp .ne (.call 17 (.cons (.var 5) (.cons (.var 8) (.cons (.var 11) (.cons (.int 2) .nil))))) X)) (.cons (.ret (.bl false)) .nil) .nil) ⟨[u0, some (.frz, .hand), u2, some (.frz, .int (n : Nat)), some (.frz, lsD ls), some (.frz, .web n ls), some (.own, .lst ((List.range n).map fun a => D.lst ((walkF n ls a k).map .int))), some (.frz, .int (k : Nat)), some (.frz, .int (a : Nat)), some (.frz, .int (x : Nat)), some (.frz, .int (y : Nat)), some (.frz, .int (b : Nat)), some (.frz, .int (wk n ls (x + y) a b)), u13, u14, none, none], some hd.D, []⟩ = some (.nx ⟨[u0, some (.frz, .hand), u2, some (.frz, .int (n : Nat)), some (.frz, lsD ls), some (.frz, .web n ls), some (.own, .lst ((List.range n).map fun a => D.lst ((walkF n ls a k).map .int))), some (.frz, .int (k : Nat)), some (.frz, .int (a : Nat)), some (.frz, .int (x : Nat)), some (.frz, .int (y : Nat)), some (.frz, .int (b : Nat)), some (.frz, .int (wk n ls (x + y) a b)), u13, u14, none, none], some hd.D, []⟩) := by
  have h7 := hw.n7
  have e1 := sW m (some hd.D) n ls a b 2 hm h7 (by omega) ha hb
  change den P m 17 _ _ = some (_, _, .int (wk n ls 2 a b)) at e1
  simp at e1
  have ho := opd_of hX
  by_cases q : (a : Int) = b
  · have q2 : a = b := by omega
    simp [e_var, e_int, e_bl, e_non, e_str, e_bin, e_neg, e_not, e_cmp, e_cmp2, e_and, e_or, e_ite, e_tup, e_lst, e_dic0, e_ix, e_sl, e_rev, e_fld, e_there, e_call, e_web, e_blt, e_isi, e_mt, e_md, e_listIt, e_tupIt, e_val, o_nil, o_cons, ef_nil, ef_cons, eo_none, eo_some, ei_seq, ei_rng1, ei_rng2, ei_zip, ei_enum, r_nil, r_cons, x_nil, x_cons, x_set, x_setH, x_par, x_unp, x_setIx, x_ex, x_ite, x_ret, x_pass, x_brk, x_cont, sVar, sOp1, sOp2, plainB, plain1, plainB2, plain2, sNeg, sNot, sCmp2, sAnd, sOr, sIte, sTup, sLst, sItem, sSl, sCall, sBlt, sMt, sMd, sListIt, sTupIt, sIt1, sIt2, itSeq, itEnum, itZip, sRng1, sRng2, sOsNil, sOsCons, sEfNil, sEfCons, sEoNone, sEoSome, setSlot, setAll, xSet, xSetH, xPar, xUnp, setItem, xSetIx, xEx, xIte, xRet, xSeq, opd, Opd.get, Opd.arg, args, gets, slotsOf, optI, Z.at, Z.put, Z.wipe, Z.back, Z.freeze, keepF, bor, unbor, bindT, bindT.bindTs, binop, isin, isNon, cmpop, iop, nop, D.cmpo, deq, D.eqv, isInst, isInsts, seqOf, lenop, lstop, intop, absop, bltin1, int2, bltin2, bltin, ixop, fldop, thop, stop, mtop, mtop0, mtop1, extop, popop, D.ok, D.okd, q2]
  · have q2 : ((a : Int) == b) = false := by simpa using q
    simp [e_var, e_int, e_bl, e_non, e_str, e_bin, e_neg, e_not, e_cmp, e_cmp2, e_and, e_or, e_ite, e_tup, e_lst, e_dic0, e_ix, e_sl, e_rev, e_fld, e_there, e_call, e_web, e_blt, e_isi, e_mt, e_md, e_listIt, e_tupIt, e_val, o_nil, o_cons, ef_nil, ef_cons, eo_none, eo_some, ei_seq, ei_rng1, ei_rng2, ei_zip, ei_enum, r_nil, r_cons, x_nil, x_cons, x_set, x_setH, x_par, x_unp, x_setIx, x_ex, x_ite, x_ret, x_pass, x_brk, x_cont, sVar, sOp1, sOp2, plainB, plain1, plainB2, plain2, sNeg, sNot, sCmp2, sAnd, sOr, sIte, sTup, sLst, sItem, sSl, sCall, sBlt, sMt, sMd, sListIt, sTupIt, sIt1, sIt2, itSeq, itEnum, itZip, sRng1, sRng2, sOsNil, sOsCons, sEfNil, sEfCons, sEoNone, sEoSome, setSlot, setAll, xSet, xSetH, xPar, xUnp, setItem, xSetIx, xEx, xIte, xRet, xSeq, opd, Opd.get, Opd.arg, args, gets, slotsOf, optI, Z.at, Z.put, Z.wipe, Z.back, Z.freeze, keepF, bor, unbor, bindT, bindT.bindTs, binop, isin, isNon, cmpop, iop, nop, D.cmpo, deq, D.eqv, isInst, isInsts, seqOf, lenop, lstop, intop, absop, bltin1, int2, bltin2, bltin, ixop, fldop, thop, stop, mtop, mtop0, mtop1, extop, popop, D.ok, D.okd, q2, ↓ho, eX, e1]

theorem w_s11 {m n k : Nat} {ls : List (Nat × Nat)} {hd : Hand} {u0 u2 u13 u14 : Option (Ow × D)} {x y a b : Nat} (hm : 16 ≤ m) (hw : WOk n ls) (hx : x < 9) (hy : y < 9) (ha : a < n) (hb : b < n) (sN : SNearT P 12) : ev (den P m) (.blt .len (.cons (.comp (.var 15) (.nm 15) (.seq (.call 12 (.cons (.var 5) (.cons (.var 8) .nil)))) (.cmp .isin (.var 15) (.call 12 (.cons (.var 5) (.cons (.var 11) .nil)))) [15]) .nil)) ⟨[u0, some (.frz, .hand), u2, some (.frz, .int (n : Nat)), some (.frz, lsD ls), some (.frz, .web n ls), some (.own, .lst ((List.range n).map fun a => D.lst ((walkF n ls a k).map .int))), some (.frz, .int (k : Nat)), some (.frz, .int (a : Nat)), some (.frz, .int (x : Nat)), some (.frz, .int (y : Nat)), some (.frz, .int (b : Nat)), some (.frz, .int (wk n ls (x + y) a b)), u13, u14, none, none], some hd.D, []⟩ = some (⟨[u0, some (.frz, .hand), u2, some (.frz, .int (n : Nat)), some (.frz, lsD ls), some (.frz, .web n ls), some (.own, .lst ((List.range n).map fun a => D.lst ((walkF n ls a k).map .int))), some (.frz, .int (k : Nat)), some (.frz, .int (a : Nat)), some (.frz, .int (x : Nat)), some (.frz, .int (y : Nat)), some (.frz, .int (b : Nat)), some (.frz, .int (wk n ls (x + y) a b)), u13, u14, none, none], some hd.D, []⟩, false, .int (wk n ls 2 a b)) := by
  have h7 := hw.n7
  have e1 := sN m (some hd.D) n ls a (by omega) h7 ha
  have e2 := sN m (some hd.D) n ls b (by omega) h7 hb
  refine ev_blt1 (fun _ h => by cases h) (ev_compM (bs := []) (nearL n ls a) (fun i => .int (i : Nat)) (fun c => adj ls b c) (fun i => .int (i : Nat)) (by simp [e_var, e_int, e_bl, e_non, e_str, e_bin, e_neg, e_not, e_cmp, e_cmp2, e_and, e_or, e_ite, e_tup, e_lst, e_dic0, e_ix, e_sl, e_rev, e_fld, e_there, e_call, e_web, e_blt, e_isi, e_mt, e_md, e_listIt, e_tupIt, e_val, o_nil, o_cons, ef_nil, ef_cons, eo_none, eo_some, ei_seq, ei_rng1, ei_rng2, ei_zip, ei_enum, r_nil, r_cons, x_nil, x_cons, x_set, x_setH, x_par, x_unp, x_setIx, x_ex, x_ite, x_ret, x_pass, x_brk, x_cont, sVar, sOp1, sOp2, plainB, plain1, plainB2, plain2, sNeg, sNot, sCmp2, sAnd, sOr, sIte, sTup, sLst, sItem, sSl, sCall, sBlt, sMt, sMd, sListIt, sTupIt, sIt1, sIt2, itSeq, itEnum, itZip, sRng1, sRng2, sOsNil, sOsCons, sEfNil, sEfCons, sEoNone, sEoSome, setSlot, setAll, xSet, xSetH, xPar, xUnp, setItem, xSetIx, xEx, xIte, xRet, xSeq, opd, Opd.get, Opd.arg, args, gets, slotsOf, optI, Z.at, Z.put, Z.wipe, Z.back, Z.freeze, keepF, bor, unbor, bindT, bindT.bindTs, binop, isin, isNon, cmpop, iop, nop, D.cmpo, deq, D.eqv, isInst, isInsts, seqOf, lenop, lstop, intop, absop, bltin1, int2, bltin2, bltin, ixop, fldop, thop, stop, mtop, mtop0, mtop1, extop, popop, D.ok, D.okd, e1, intL]) (lim_gt (Nat.le_trans len_nearL (by omega))) (by simp [keepF, Z.at]) (fun c hc => ⟨⟨[u0, some (.frz, .hand), u2, some (.frz, .int (n : Nat)), some (.frz, lsD ls), some (.frz, .web n ls), some (.own, .lst ((List.range n).map fun a => D.lst ((walkF n ls a k).map .int))), some (.frz, .int (k : Nat)), some (.frz, .int (a : Nat)), some (.frz, .int (x : Nat)), some (.frz, .int (y : Nat)), some (.frz, .int (b : Nat)), some (.frz, .int (wk n ls (x + y) a b)), u13, u14, some (.frz, .int (c : Nat)), none], some hd.D, []⟩, ⟨[u0, some (.frz, .hand), u2, some (.frz, .int (n : Nat)), some (.frz, lsD ls), some (.frz, .web n ls), some (.own, .lst ((List.range n).map fun a => D.lst ((walkF n ls a k).map .int))), some (.frz, .int (k : Nat)), some (.frz, .int (a : Nat)), some (.frz, .int (x : Nat)), some (.frz, .int (y : Nat)), some (.frz, .int (b : Nat)), some (.frz, .int (wk n ls (x + y) a b)), u13, u14, some (.frz, .int (c : Nat)), none], some hd.D, []⟩, false, by simp [e_var, e_int, e_bl, e_non, e_str, e_bin, e_neg, e_not, e_cmp, e_cmp2, e_and, e_or, e_ite, e_tup, e_lst, e_dic0, e_ix, e_sl, e_rev, e_fld, e_there, e_call, e_web, e_blt, e_isi, e_mt, e_md, e_listIt, e_tupIt, e_val, o_nil, o_cons, ef_nil, ef_cons, eo_none, eo_some, ei_seq, ei_rng1, ei_rng2, ei_zip, ei_enum, r_nil, r_cons, x_nil, x_cons, x_set, x_setH, x_par, x_unp, x_setIx, x_ex, x_ite, x_ret, x_pass, x_brk, x_cont, sVar, sOp1, sOp2, plainB, plain1, plainB2, plain2, sNeg, sNot, sCmp2, sAnd, sOr, sIte, sTup, sLst, sItem, sSl, sCall, sBlt, sMt, sMd, sListIt, sTupIt, sIt1, sIt2, itSeq, itEnum, itZip, sRng1, sRng2, sOsNil, sOsCons, sEfNil, sEfCons, sEoNone, sEoSome, setSlot, setAll, xSet, xSetH, xPar, xUnp, setItem, xSetIx, xEx, xIte, xRet, xSeq, opd, Opd.get, Opd.arg, args, gets, slotsOf, optI, Z.at, Z.put, Z.wipe, Z.back, Z.freeze, keepF, bor, unbor, bindT, bindT.bindTs, binop, isin, isNon, cmpop, iop, nop, D.cmpo, deq, D.eqv, isInst, isInsts, seqOf, lenop, lstop, intop, absop, bltin1, int2, bltin2, bltin, ixop, fldop, thop, stop, mtop, mtop0, mtop1, extop, popop, D.ok, D.okd], ?_, by simp [e_var, e_int, e_bl, e_non, e_str, e_bin, e_neg, e_not, e_cmp, e_cmp2, e_and, e_or, e_ite, e_tup, e_lst, e_dic0, e_ix, e_sl, e_rev, e_fld, e_there, e_call, e_web, e_blt, e_isi, e_mt, e_md, e_listIt, e_tupIt, e_val, o_nil, o_cons, ef_nil, ef_cons, eo_none, eo_some, ei_seq, ei_rng1, ei_rng2, ei_zip, ei_enum, r_nil, r_cons, x_nil, x_cons, x_set, x_setH, x_par, x_unp, x_setIx, x_ex, x_ite, x_ret, x_pass, x_brk, x_cont, sVar, sOp1, sOp2, plainB, plain1, plainB2, plain2, sNeg, sNot, sCmp2, sAnd, sOr, sIte, sTup, sLst, sItem, sSl, sCall, sBlt, sMt, sMd, sListIt, sTupIt, sIt1, sIt2, itSeq, itEnum, itZip, sRng1, sRng2, sOsNil, sOsCons, sEfNil, sEfCons, sEoNone, sEoSome, setSlot, setAll, xSet, xSetH, xPar, xUnp, setItem, xSetIx, xEx, xIte, xRet, xSeq, opd, Opd.get, Opd.arg, args, gets, slotsOf, optI, Z.at, Z.put, Z.wipe, Z.back, Z.freeze, keepF, bor, unbor, bindT, bindT.bindTs, binop, isin, isNon, cmpop, iop, nop, D.cmpo, deq, D.eqv, isInst, isInsts, seqOf, lenop, lstop, intop, absop, bltin1, int2, bltin2, bltin, ixop, fldop, thop, stop, mtop, mtop0, mtop1, extop, popop, D.ok, D.okd], fun _ => ⟨⟨[u0, some (.frz, .hand), u2, some (.frz, .int (n : Nat)), some (.frz, lsD ls), some (.frz, .web n ls), some (.own, .lst ((List.range n).map fun a => D.lst ((walkF n ls a k).map .int))), some (.frz, .int (k : Nat)), some (.frz, .int (a : Nat)), some (.frz, .int (x : Nat)), some (.frz, .int (y : Nat)), some (.frz, .int (b : Nat)), some (.frz, .int (wk n ls (x + y) a b)), u13, u14, some (.frz, .int (c : Nat)), none], some hd.D, []⟩, false, by simp [e_var, e_int, e_bl, e_non, e_str, e_bin, e_neg, e_not, e_cmp, e_cmp2, e_and, e_or, e_ite, e_tup, e_lst, e_dic0, e_ix, e_sl, e_rev, e_fld, e_there, e_call, e_web, e_blt, e_isi, e_mt, e_md, e_listIt, e_tupIt, e_val, o_nil, o_cons, ef_nil, ef_cons, eo_none, eo_some, ei_seq, ei_rng1, ei_rng2, ei_zip, ei_enum, r_nil, r_cons, x_nil, x_cons, x_set, x_setH, x_par, x_unp, x_setIx, x_ex, x_ite, x_ret, x_pass, x_brk, x_cont, sVar, sOp1, sOp2, plainB, plain1, plainB2, plain2, sNeg, sNot, sCmp2, sAnd, sOr, sIte, sTup, sLst, sItem, sSl, sCall, sBlt, sMt, sMd, sListIt, sTupIt, sIt1, sIt2, itSeq, itEnum, itZip, sRng1, sRng2, sOsNil, sOsCons, sEfNil, sEfCons, sEoNone, sEoSome, setSlot, setAll, xSet, xSetH, xPar, xUnp, setItem, xSetIx, xEx, xIte, xRet, xSeq, opd, Opd.get, Opd.arg, args, gets, slotsOf, optI, Z.at, Z.put, Z.wipe, Z.back, Z.freeze, keepF, bor, unbor, bindT, bindT.bindTs, binop, isin, isNon, cmpop, iop, nop, D.cmpo, deq, D.eqv, isInst, isInsts, seqOf, lenop, lstop, intop, absop, bltin1, int2, bltin2, bltin, ixop, fldop, thop, stop, mtop, mtop0, mtop1, extop, popop, D.ok, D.okd], by simp [e_var, e_int, e_bl, e_non, e_str, e_bin, e_neg, e_not, e_cmp, e_cmp2, e_and, e_or, e_ite, e_tup, e_lst, e_dic0, e_ix, e_sl, e_rev, e_fld, e_there, e_call, e_web, e_blt, e_isi, e_mt, e_md, e_listIt, e_tupIt, e_val, o_nil, o_cons, ef_nil, ef_cons, eo_none, eo_some, ei_seq, ei_rng1, ei_rng2, ei_zip, ei_enum, r_nil, r_cons, x_nil, x_cons, x_set, x_setH, x_par, x_unp, x_setIx, x_ex, x_ite, x_ret, x_pass, x_brk, x_cont, sVar, sOp1, sOp2, plainB, plain1, plainB2, plain2, sNeg, sNot, sCmp2, sAnd, sOr, sIte, sTup, sLst, sItem, sSl, sCall, sBlt, sMt, sMd, sListIt, sTupIt, sIt1, sIt2, itSeq, itEnum, itZip, sRng1, sRng2, sOsNil, sOsCons, sEfNil, sEfCons, sEoNone, sEoSome, setSlot, setAll, xSet, xSetH, xPar, xUnp, setItem, xSetIx, xEx, xIte, xRet, xSeq, opd, Opd.get, Opd.arg, args, gets, slotsOf, optI, Z.at, Z.put, Z.wipe, Z.back, Z.freeze, keepF, bor, unbor, bindT, bindT.bindTs, binop, isin, isNon, cmpop, iop, nop, D.cmpo, deq, D.eqv, isInst, isInsts, seqOf, lenop, lstop, intop, absop, bltin1, int2, bltin2, bltin, ixop, fldop, thop, stop, mtop, mtop0, mtop1, extop, popop, D.ok, D.okd]⟩⟩)) ?_
  · have e3 := member_N (nearL n ls b) c
    have e4 : (nearL n ls b).contains c = adj ls b c := by
      rw [Bool.eq_iff_iff]
      simp only [List.contains_eq_mem, decide_eq_true_eq, mem_nearL]
      exact ⟨fun h => h.2, fun h => ⟨(mem_nearL.mp hc).1, h⟩⟩
    rw [e4] at e3
    simp [e_var, e_int, e_bl, e_non, e_str, e_bin, e_neg, e_not, e_cmp, e_cmp2, e_and, e_or, e_ite, e_tup, e_lst, e_dic0, e_ix, e_sl, e_rev, e_fld, e_there, e_call, e_web, e_blt, e_isi, e_mt, e_md, e_listIt, e_tupIt, e_val, o_nil, o_cons, ef_nil, ef_cons, eo_none, eo_some, ei_seq, ei_rng1, ei_rng2, ei_zip, ei_enum, r_nil, r_cons, x_nil, x_cons, x_set, x_setH, x_par, x_unp, x_setIx, x_ex, x_ite, x_ret, x_pass, x_brk, x_cont, sVar, sOp1, sOp2, plainB, plain1, plainB2, plain2, sNeg, sNot, sCmp2, sAnd, sOr, sIte, sTup, sLst, sItem, sSl, sCall, sBlt, sMt, sMd, sListIt, sTupIt, sIt1, sIt2, itSeq, itEnum, itZip, sRng1, sRng2, sOsNil, sOsCons, sEfNil, sEfCons, sEoNone, sEoSome, setSlot, setAll, xSet, xSetH, xPar, xUnp, setItem, xSetIx, xEx, xIte, xRet, xSeq, opd, Opd.get, Opd.arg, args, gets, slotsOf, optI, Z.at, Z.put, Z.wipe, Z.back, Z.freeze, keepF, bor, unbor, bindT, bindT.bindTs, binop, isin, isNon, cmpop, iop, nop, D.cmpo, deq, D.eqv, isInst, isInsts, seqOf, lenop, lstop, intop, absop, bltin1, int2, bltin2, bltin, ixop, fldop, thop, stop, mtop, mtop0, mtop1, extop, popop, D.ok, D.okd, e2, intL, e3]
  · rw [closed2 ha hb, List.countP_eq_length_filter]
    simp [bltin, bltin1, lenop]
theorem cnt_perm {a b : List (List Nat)} (h : a.Perm b) : cnt a = cnt b := by
  unfold cnt
  rw [h.countP_eq]
theorem paths_len {n : Nat} {ls : List (Nat × Nat)} : ∀ {k : Nat} {p : List Nat}, PathOk n p → n + 1 - p.length = k → (descF n ls k p).length ≤ costK n k
  | 0, p, _, _ => by simp [descF]
  | k + 1, p, hp, hk => by
    have hl := hp.len
    have key : ∀ w : List (List Nat), (∀ q ∈ w, q ∈ nexts n ls p) → (w.flatMap (descF n ls k)).length ≤ w.length * costK n k := by
      intro w
      induction w with
      | nil => intro _; simp
      | cons q r ih =>
        intro h
        have h1 := ih fun q hq => h q (List.mem_cons_of_mem _ hq)
        have h2 := hp.next (h q List.mem_cons_self)
        have h3 := paths_len (ls := ls) (k := k) h2.1 (by omega)
        rw [List.flatMap_cons, List.length_append, List.length_cons, Nat.add_mul]
        omega
    have h1 := key (nexts n ls p) fun _ h => h
    have h2 : (nexts n ls p).length ≤ n := by
      have h1 := List.length_filter_le (onward p) (nearL n ls (lastN p))
      have h2 := len_nearL (n := n) (ls := ls) (a := lastN p)
      simp only [nexts, List.length_map]
      omega
    have h3 := Nat.mul_le_mul_right (costK n k) h2
    rw [descF, List.length_append, costK]
    have : (if closes ls p = true then [p] else []).length ≤ 1 := by split <;> simp
    omega
theorem rings_len {n : Nat} {ls : List (Nat × Nat)} (h7 : n ≤ 7) : (ringsL n ls).length < lim := by
  have key : ∀ w : List Nat, (∀ a ∈ w, a < n) → (w.flatMap fun a => descF n ls n [a]).length ≤ w.length * costK n n := by
    intro w
    induction w with
    | nil => intro _; simp
    | cons a r ih =>
      intro h
      have h1 := ih fun q hq => h q (List.mem_cons_of_mem _ hq)
      have h2 := h a List.mem_cons_self
      have h3 := paths_len (n := n) (ls := ls) (k := n) (p := [a]) ⟨by simp, by simp, by simpa using h2⟩ (by simp)
      rw [List.flatMap_cons, List.length_append, List.length_cons, Nat.add_mul]
      omega
  have h1 := key (List.range n) fun a h => List.mem_range.mp h
  have h2 := costs_start n h7
  rw [List.length_range] at h1
  unfold ringsL lim
  omega
theorem w_s12 {m n k : Nat} {ls : List (Nat × Nat)} {hd : Hand} {u0 u2 u13 u14 : Option (Ow × D)} {x y a b : Nat} (hm : 16 ≤ m) (hw : WOk n ls) (hx : x < 9) (hy : y < 9) (ha : a < n) (hb : b < n) (sR : SRings P 20) : ev (den P m) (.blt .len (.cons (.comp (.var 16) (.nm 16) (.seq (.call 20 (.cons (.var 5) .nil))) (.cmp .eq (.blt .len (.cons (.var 16) .nil)) (.int 3)) [16]) .nil)) ⟨[u0, some (.frz, .hand), u2, some (.frz, .int (n : Nat)), some (.frz, lsD ls), some (.frz, .web n ls), some (.own, .lst ((List.range n).map fun a => D.lst ((walkF n ls a k).map .int))), some (.frz, .int (k : Nat)), some (.frz, .int (a : Nat)), some (.frz, .int (x : Nat)), some (.frz, .int (y : Nat)), some (.frz, .int (b : Nat)), some (.frz, .int (wk n ls (x + y) a b)), u13, u14, none, none], some hd.D, []⟩ = some (⟨[u0, some (.frz, .hand), u2, some (.frz, .int (n : Nat)), some (.frz, lsD ls), some (.frz, .web n ls), some (.own, .lst ((List.range n).map fun a => D.lst ((walkF n ls a k).map .int))), some (.frz, .int (k : Nat)), some (.frz, .int (a : Nat)), some (.frz, .int (x : Nat)), some (.frz, .int (y : Nat)), some (.frz, .int (b : Nat)), some (.frz, .int (wk n ls (x + y) a b)), u13, u14, none, none], some hd.D, []⟩, false, .int (T3 n ls)) := by
  have h7 := hw.n7
  obtain ⟨f, hf, _, e1⟩ := sR m (some hd.D) n ls (by omega) hw
  have hs : (sortP f).Perm f := List.mergeSort_perm _ _
  refine ev_blt1 (fun _ h => by cases h) (ev_compM (bs := []) (sortP f) tupN (fun p => p.length == 3) tupN (by simp [e_var, e_int, e_bl, e_non, e_str, e_bin, e_neg, e_not, e_cmp, e_cmp2, e_and, e_or, e_ite, e_tup, e_lst, e_dic0, e_ix, e_sl, e_rev, e_fld, e_there, e_call, e_web, e_blt, e_isi, e_mt, e_md, e_listIt, e_tupIt, e_val, o_nil, o_cons, ef_nil, ef_cons, eo_none, eo_some, ei_seq, ei_rng1, ei_rng2, ei_zip, ei_enum, r_nil, r_cons, x_nil, x_cons, x_set, x_setH, x_par, x_unp, x_setIx, x_ex, x_ite, x_ret, x_pass, x_brk, x_cont, sVar, sOp1, sOp2, plainB, plain1, plainB2, plain2, sNeg, sNot, sCmp2, sAnd, sOr, sIte, sTup, sLst, sItem, sSl, sCall, sBlt, sMt, sMd, sListIt, sTupIt, sIt1, sIt2, itSeq, itEnum, itZip, sRng1, sRng2, sOsNil, sOsCons, sEfNil, sEfCons, sEoNone, sEoSome, setSlot, setAll, xSet, xSetH, xPar, xUnp, setItem, xSetIx, xEx, xIte, xRet, xSeq, opd, Opd.get, Opd.arg, args, gets, slotsOf, optI, Z.at, Z.put, Z.wipe, Z.back, Z.freeze, keepF, bor, unbor, bindT, bindT.bindTs, binop, isin, isNon, cmpop, iop, nop, D.cmpo, deq, D.eqv, isInst, isInsts, seqOf, lenop, lstop, intop, absop, bltin1, int2, bltin2, bltin, ixop, fldop, thop, stop, mtop, mtop0, mtop1, extop, popop, D.ok, D.okd, e1]) (by rw [hs.length_eq, hf.length_eq]; exact rings_len h7) (by simp [keepF, Z.at]) (fun p hp => ⟨⟨[u0, some (.frz, .hand), u2, some (.frz, .int (n : Nat)), some (.frz, lsD ls), some (.frz, .web n ls), some (.own, .lst ((List.range n).map fun a => D.lst ((walkF n ls a k).map .int))), some (.frz, .int (k : Nat)), some (.frz, .int (a : Nat)), some (.frz, .int (x : Nat)), some (.frz, .int (y : Nat)), some (.frz, .int (b : Nat)), some (.frz, .int (wk n ls (x + y) a b)), u13, u14, none, some (.frz, tupN p)], some hd.D, []⟩, ⟨[u0, some (.frz, .hand), u2, some (.frz, .int (n : Nat)), some (.frz, lsD ls), some (.frz, .web n ls), some (.own, .lst ((List.range n).map fun a => D.lst ((walkF n ls a k).map .int))), some (.frz, .int (k : Nat)), some (.frz, .int (a : Nat)), some (.frz, .int (x : Nat)), some (.frz, .int (y : Nat)), some (.frz, .int (b : Nat)), some (.frz, .int (wk n ls (x + y) a b)), u13, u14, none, some (.frz, tupN p)], some hd.D, []⟩, false, by simp [e_var, e_int, e_bl, e_non, e_str, e_bin, e_neg, e_not, e_cmp, e_cmp2, e_and, e_or, e_ite, e_tup, e_lst, e_dic0, e_ix, e_sl, e_rev, e_fld, e_there, e_call, e_web, e_blt, e_isi, e_mt, e_md, e_listIt, e_tupIt, e_val, o_nil, o_cons, ef_nil, ef_cons, eo_none, eo_some, ei_seq, ei_rng1, ei_rng2, ei_zip, ei_enum, r_nil, r_cons, x_nil, x_cons, x_set, x_setH, x_par, x_unp, x_setIx, x_ex, x_ite, x_ret, x_pass, x_brk, x_cont, sVar, sOp1, sOp2, plainB, plain1, plainB2, plain2, sNeg, sNot, sCmp2, sAnd, sOr, sIte, sTup, sLst, sItem, sSl, sCall, sBlt, sMt, sMd, sListIt, sTupIt, sIt1, sIt2, itSeq, itEnum, itZip, sRng1, sRng2, sOsNil, sOsCons, sEfNil, sEfCons, sEoNone, sEoSome, setSlot, setAll, xSet, xSetH, xPar, xUnp, setItem, xSetIx, xEx, xIte, xRet, xSeq, opd, Opd.get, Opd.arg, args, gets, slotsOf, optI, Z.at, Z.put, Z.wipe, Z.back, Z.freeze, keepF, bor, unbor, bindT, bindT.bindTs, binop, isin, isNon, cmpop, iop, nop, D.cmpo, deq, D.eqv, isInst, isInsts, seqOf, lenop, lstop, intop, absop, bltin1, int2, bltin2, bltin, ixop, fldop, thop, stop, mtop, mtop0, mtop1, extop, popop, D.ok, D.okd], ?_, by simp [e_var, e_int, e_bl, e_non, e_str, e_bin, e_neg, e_not, e_cmp, e_cmp2, e_and, e_or, e_ite, e_tup, e_lst, e_dic0, e_ix, e_sl, e_rev, e_fld, e_there, e_call, e_web, e_blt, e_isi, e_mt, e_md, e_listIt, e_tupIt, e_val, o_nil, o_cons, ef_nil, ef_cons, eo_none, eo_some, ei_seq, ei_rng1, ei_rng2, ei_zip, ei_enum, r_nil, r_cons, x_nil, x_cons, x_set, x_setH, x_par, x_unp, x_setIx, x_ex, x_ite, x_ret, x_pass, x_brk, x_cont, sVar, sOp1, sOp2, plainB, plain1, plainB2, plain2, sNeg, sNot, sCmp2, sAnd, sOr, sIte, sTup, sLst, sItem, sSl, sCall, sBlt, sMt, sMd, sListIt, sTupIt, sIt1, sIt2, itSeq, itEnum, itZip, sRng1, sRng2, sOsNil, sOsCons, sEfNil, sEfCons, sEoNone, sEoSome, setSlot, setAll, xSet, xSetH, xPar, xUnp, setItem, xSetIx, xEx, xIte, xRet, xSeq, opd, Opd.get, Opd.arg, args, gets, slotsOf, optI, Z.at, Z.put, Z.wipe, Z.back, Z.freeze, keepF, bor, unbor, bindT, bindT.bindTs, binop, isin, isNon, cmpop, iop, nop, D.cmpo, deq, D.eqv, isInst, isInsts, seqOf, lenop, lstop, intop, absop, bltin1, int2, bltin2, bltin, ixop, fldop, thop, stop, mtop, mtop0, mtop1, extop, popop, D.ok, D.okd], fun _ => ⟨⟨[u0, some (.frz, .hand), u2, some (.frz, .int (n : Nat)), some (.frz, lsD ls), some (.frz, .web n ls), some (.own, .lst ((List.range n).map fun a => D.lst ((walkF n ls a k).map .int))), some (.frz, .int (k : Nat)), some (.frz, .int (a : Nat)), some (.frz, .int (x : Nat)), some (.frz, .int (y : Nat)), some (.frz, .int (b : Nat)), some (.frz, .int (wk n ls (x + y) a b)), u13, u14, none, some (.frz, tupN p)], some hd.D, []⟩, false, by simp [e_var, e_int, e_bl, e_non, e_str, e_bin, e_neg, e_not, e_cmp, e_cmp2, e_and, e_or, e_ite, e_tup, e_lst, e_dic0, e_ix, e_sl, e_rev, e_fld, e_there, e_call, e_web, e_blt, e_isi, e_mt, e_md, e_listIt, e_tupIt, e_val, o_nil, o_cons, ef_nil, ef_cons, eo_none, eo_some, ei_seq, ei_rng1, ei_rng2, ei_zip, ei_enum, r_nil, r_cons, x_nil, x_cons, x_set, x_setH, x_par, x_unp, x_setIx, x_ex, x_ite, x_ret, x_pass, x_brk, x_cont, sVar, sOp1, sOp2, plainB, plain1, plainB2, plain2, sNeg, sNot, sCmp2, sAnd, sOr, sIte, sTup, sLst, sItem, sSl, sCall, sBlt, sMt, sMd, sListIt, sTupIt, sIt1, sIt2, itSeq, itEnum, itZip, sRng1, sRng2, sOsNil, sOsCons, sEfNil, sEfCons, sEoNone, sEoSome, setSlot, setAll, xSet, xSetH, xPar, xUnp, setItem, xSetIx, xEx, xIte, xRet, xSeq, opd, Opd.get, Opd.arg, args, gets, slotsOf, optI, Z.at, Z.put, Z.wipe, Z.back, Z.freeze, keepF, bor, unbor, bindT, bindT.bindTs, binop, isin, isNon, cmpop, iop, nop, D.cmpo, deq, D.eqv, isInst, isInsts, seqOf, lenop, lstop, intop, absop, bltin1, int2, bltin2, bltin, ixop, fldop, thop, stop, mtop, mtop0, mtop1, extop, popop, D.ok, D.okd], by simp [e_var, e_int, e_bl, e_non, e_str, e_bin, e_neg, e_not, e_cmp, e_cmp2, e_and, e_or, e_ite, e_tup, e_lst, e_dic0, e_ix, e_sl, e_rev, e_fld, e_there, e_call, e_web, e_blt, e_isi, e_mt, e_md, e_listIt, e_tupIt, e_val, o_nil, o_cons, ef_nil, ef_cons, eo_none, eo_some, ei_seq, ei_rng1, ei_rng2, ei_zip, ei_enum, r_nil, r_cons, x_nil, x_cons, x_set, x_setH, x_par, x_unp, x_setIx, x_ex, x_ite, x_ret, x_pass, x_brk, x_cont, sVar, sOp1, sOp2, plainB, plain1, plainB2, plain2, sNeg, sNot, sCmp2, sAnd, sOr, sIte, sTup, sLst, sItem, sSl, sCall, sBlt, sMt, sMd, sListIt, sTupIt, sIt1, sIt2, itSeq, itEnum, itZip, sRng1, sRng2, sOsNil, sOsCons, sEfNil, sEfCons, sEoNone, sEoSome, setSlot, setAll, xSet, xSetH, xPar, xUnp, setItem, xSetIx, xEx, xIte, xRet, xSeq, opd, Opd.get, Opd.arg, args, gets, slotsOf, optI, Z.at, Z.put, Z.wipe, Z.back, Z.freeze, keepF, bor, unbor, bindT, bindT.bindTs, binop, isin, isNon, cmpop, iop, nop, D.cmpo, deq, D.eqv, isInst, isInsts, seqOf, lenop, lstop, intop, absop, bltin1, int2, bltin2, bltin, ixop, fldop, thop, stop, mtop, mtop0, mtop1, extop, popop, D.ok, D.okd]⟩⟩)) ?_
  · have e : ((p.length : Int) == 3) = (p.length == 3) := by
      rw [Bool.eq_iff_iff]
      simp
      omega
    simp [e_var, e_int, e_bl, e_non, e_str, e_bin, e_neg, e_not, e_cmp, e_cmp2, e_and, e_or, e_ite, e_tup, e_lst, e_dic0, e_ix, e_sl, e_rev, e_fld, e_there, e_call, e_web, e_blt, e_isi, e_mt, e_md, e_listIt, e_tupIt, e_val, o_nil, o_cons, ef_nil, ef_cons, eo_none, eo_some, ei_seq, ei_rng1, ei_rng2, ei_zip, ei_enum, r_nil, r_cons, x_nil, x_cons, x_set, x_setH, x_par, x_unp, x_setIx, x_ex, x_ite, x_ret, x_pass, x_brk, x_cont, sVar, sOp1, sOp2, plainB, plain1, plainB2, plain2, sNeg, sNot, sCmp2, sAnd, sOr, sIte, sTup, sLst, sItem, sSl, sCall, sBlt, sMt, sMd, sListIt, sTupIt, sIt1, sIt2, itSeq, itEnum, itZip, sRng1, sRng2, sOsNil, sOsCons, sEfNil, sEfCons, sEoNone, sEoSome, setSlot, setAll, xSet, xSetH, xPar, xUnp, setItem, xSetIx, xEx, xIte, xRet, xSeq, opd, Opd.get, Opd.arg, args, gets, slotsOf, optI, Z.at, Z.put, Z.wipe, Z.back, Z.freeze, keepF, bor, unbor, bindT, bindT.bindTs, binop, isin, isNon, cmpop, iop, nop, D.cmpo, deq, D.eqv, isInst, isInsts, seqOf, lenop, lstop, intop, absop, bltin1, int2, bltin2, bltin, ixop, fldop, thop, stop, mtop, mtop0, mtop1, extop, popop, D.ok, D.okd, tupN, e]
  · have e2 : cnt (sortP f) = T3 n ls := by rw [cnt_perm hs, cnt_perm hf, rings3 hw]
    rw [← e2]
    unfold cnt
    rw [List.countP_eq_length_filter]
    simp [bltin, bltin1, lenop]
theorem w_t12 {m n k : Nat} {ls : List (Nat × Nat)} {hd : Hand} {u0 u2 u13 u14 : Option (Ow × D)} {x y a b : Nat} {X : E} (hm : 16 ≤ m) (hw : WOk n ls) (hx : x < 9) (hy : y < 9) (ha : a < n) (hb : b < n) (hX : ∀ i, X ≠ .var i) (eX : ev (den P m) X ⟨[u0, some (.frz, .hand), u2, some (.frz, .int (n : Nat)), some (.frz, lsD ls), some (.frz, .web n ls), some (.own, .lst ((List.range n).map fun a => D.lst ((walkF n ls a k).map .int))), some (.frz, .int (k : Nat)), some (.frz, .int (a : Nat)), some (.frz, .int (x : Nat)), some (.frz, .int (y : Nat)), some (.frz, .int (b : Nat)), some (.frz, .int (wk n ls (x + y) a b)), u13, u14, none, none], some hd.D, []⟩ = some (⟨[u0, some (.frz, .hand), u2, some (.frz, .int (n : Nat)), some (.frz, lsD ls), some (.frz, .web n ls), some (.own, .lst ((List.range n).map fun a => D.lst ((walkF n ls a k).map .int))), some (.frz, .int (k : Nat)), some (.frz, .int (a : Nat)), some (.frz, .int (x : Nat)), some (.frz, .int (y : Nat)), some (.frz, .int (b : Nat)), some (.frz, .int (wk n ls (x + y) a b)), u13, u14, none, none], some hd.D, []⟩, false, .int (T3 n ls))) (sC : SClosed P 18) : exec (den P m) (.ite (.cmp .ne (.call 18 (.cons (.var 5) (.cons (.int 3) .nil))) (.bin .mul (.int 6) X)) (.cons (.ret (.bl false)) .nil) .nil) ⟨[u0, some (.frz, .hand), u2, some (.frz, .int (n : Nat)), some (.frz, lsD ls), some (.frz, .web n ls), some (.own, .lst ((List.range n).map fun a => D.lst ((walkF n ls a k).map .int))), some (.frz, .int (k : Nat)), some (.frz, .int (a : Nat)), some (.frz, .int (x : Nat)), some (.frz, .int (y : Nat)), some (.frz, .int (b : Nat)), some (.frz, .int (wk n ls (x + y) a b)), u13, u14, none, none], some hd.D, []⟩ = some (.nx ⟨[u0, some (.frz, .hand), u2, some (.frz, .int (n : Nat)), some (.frz, lsD ls), some (.frz, .web n ls), some (.own, .lst ((List.range n).map fun a => D.lst ((walkF n ls a k).map .int))), some (.frz, .int (k : Nat)), some (.frz, .int (a : Nat)), some (.frz, .int (x : Nat)), some (.frz, .int (y : Nat)), some (.frz, .int (b : Nat)), some (.frz, .int (wk n ls (x + y) a b)), u13, u14, none, none], some hd.D, []⟩) := by
  have e1 := sC m (some hd.D) n ls 3 hm hw.n7 (by omega)
  have e2 : ((List.range n).map fun a => (walkF n ls a 3).getD a 0).sum = Su n fun a => wk n ls 3 a a := rfl
  rw [e2, closed3 hw] at e1
  simp at e1
  have ho := opd_of hX
  have s : small 6 = true := by decide
  simp [e_var, e_int, e_bl, e_non, e_str, e_bin, e_neg, e_not, e_cmp, e_cmp2, e_and, e_or, e_ite, e_tup, e_lst, e_dic0, e_ix, e_sl, e_rev, e_fld, e_there, e_call, e_web, e_blt, e_isi, e_mt, e_md, e_listIt, e_tupIt, e_val, o_nil, o_cons, ef_nil, ef_cons, eo_none, eo_some, ei_seq, ei_rng1, ei_rng2, ei_zip, ei_enum, r_nil, r_cons, x_nil, x_cons, x_set, x_setH, x_par, x_unp, x_setIx, x_ex, x_ite, x_ret, x_pass, x_brk, x_cont, sVar, sOp1, sOp2, plainB, plain1, plainB2, plain2, sNeg, sNot, sCmp2, sAnd, sOr, sIte, sTup, sLst, sItem, sSl, sCall, sBlt, sMt, sMd, sListIt, sTupIt, sIt1, sIt2, itSeq, itEnum, itZip, sRng1, sRng2, sOsNil, sOsCons, sEfNil, sEfCons, sEoNone, sEoSome, setSlot, setAll, xSet, xSetH, xPar, xUnp, setItem, xSetIx, xEx, xIte, xRet, xSeq, opd, Opd.get, Opd.arg, args, gets, slotsOf, optI, Z.at, Z.put, Z.wipe, Z.back, Z.freeze, keepF, bor, unbor, bindT, bindT.bindTs, binop, isin, isNon, cmpop, iop, nop, D.cmpo, deq, D.eqv, isInst, isInsts, seqOf, lenop, lstop, intop, absop, bltin1, int2, bltin2, bltin, ixop, fldop, thop, stop, mtop, mtop0, mtop1, extop, popop, D.ok, D.okd, ↓ho, eX, e1, s]
theorem w_t13 {m n k : Nat} {ls : List (Nat × Nat)} {hd : Hand} {u0 u2 u13 u14 : Option (Ow × D)} {x y a b : Nat} (hm : 16 ≤ m) (hw : WOk n ls) (hx : x < 9) (hy : y < 9) (ha : a < n) (hb : b < n) (sC : SClosed P 18) : exec (den P m) (.ite (.or (.cmp .ne (.call 18 (.cons (.var 5) (.cons (.int 0) .nil))) (.var 3)) (.cmp .ne (.call 18 (.cons (.var 5) (.cons (.int 2) .nil))) (.bin .mul (.int 2) (.blt .len (.cons (.var 4) .nil))))) (.cons (.ret (.bl false)) .nil) .nil) ⟨[u0, some (.frz, .hand), u2, some (.frz, .int (n : Nat)), some (.frz, lsD ls), some (.frz, .web n ls), some (.own, .lst ((List.range n).map fun a => D.lst ((walkF n ls a k).map .int))), some (.frz, .int (k : Nat)), some (.frz, .int (a : Nat)), some (.frz, .int (x : Nat)), some (.frz, .int (y : Nat)), some (.frz, .int (b : Nat)), some (.frz, .int (wk n ls (x + y) a b)), u13, u14, none, none], some hd.D, []⟩ = some (.nx ⟨[u0, some (.frz, .hand), u2, some (.frz, .int (n : Nat)), some (.frz, lsD ls), some (.frz, .web n ls), some (.own, .lst ((List.range n).map fun a => D.lst ((walkF n ls a k).map .int))), some (.frz, .int (k : Nat)), some (.frz, .int (a : Nat)), some (.frz, .int (x : Nat)), some (.frz, .int (y : Nat)), some (.frz, .int (b : Nat)), some (.frz, .int (wk n ls (x + y) a b)), u13, u14, none, none], some hd.D, []⟩) := by
  have e1 := sC m (some hd.D) n ls 0 hm hw.n7 (by omega)
  have e2 : ((List.range n).map fun a => (walkF n ls a 0).getD a 0).sum = Su n fun a => wk n ls 0 a a := rfl
  rw [e2, closedSum0] at e1
  have e3 := sC m (some hd.D) n ls 2 hm hw.n7 (by omega)
  have e4 : ((List.range n).map fun a => (walkF n ls a 2).getD a 0).sum = Su n fun a => wk n ls 2 a a := rfl
  rw [e4, closedSum2 hw] at e3
  simp at e1 e3
  have s : small 2 = true := by decide
  simp [e_var, e_int, e_bl, e_non, e_str, e_bin, e_neg, e_not, e_cmp, e_cmp2, e_and, e_or, e_ite, e_tup, e_lst, e_dic0, e_ix, e_sl, e_rev, e_fld, e_there, e_call, e_web, e_blt, e_isi, e_mt, e_md, e_listIt, e_tupIt, e_val, o_nil, o_cons, ef_nil, ef_cons, eo_none, eo_some, ei_seq, ei_rng1, ei_rng2, ei_zip, ei_enum, r_nil, r_cons, x_nil, x_cons, x_set, x_setH, x_par, x_unp, x_setIx, x_ex, x_ite, x_ret, x_pass, x_brk, x_cont, sVar, sOp1, sOp2, plainB, plain1, plainB2, plain2, sNeg, sNot, sCmp2, sAnd, sOr, sIte, sTup, sLst, sItem, sSl, sCall, sBlt, sMt, sMd, sListIt, sTupIt, sIt1, sIt2, itSeq, itEnum, itZip, sRng1, sRng2, sOsNil, sOsCons, sEfNil, sEfCons, sEoNone, sEoSome, setSlot, setAll, xSet, xSetH, xPar, xUnp, setItem, xSetIx, xEx, xIte, xRet, xSeq, opd, Opd.get, Opd.arg, args, gets, slotsOf, optI, Z.at, Z.put, Z.wipe, Z.back, Z.freeze, keepF, bor, unbor, bindT, bindT.bindTs, binop, isin, isNon, cmpop, iop, nop, D.cmpo, deq, D.eqv, isInst, isInsts, seqOf, lenop, lstop, intop, absop, bltin1, int2, bltin2, bltin, ixop, fldop, thop, stop, mtop, mtop0, mtop1, extop, popop, D.ok, D.okd, e1, e3, s]

def wBody : Ss := (.cons (.set 3 false (.bin .add (.int 1) (.call 22 (.cons (.var 1) (.cons (.int 6) .nil))))) (.cons (.set 4 false (.call 25 (.cons (.var 1) (.cons (.var 3) .nil)))) (.cons (.par [(5, false), (6, true)] (.cons (.web (.var 3) (.var 4)) (.cons (.lst .nil) .nil))) (.cons (.set 7 false (.call 23 (.cons (.var 1) (.cons (.lst (.cons (.int 0) (.cons (.int 1) (.cons (.int 2) (.cons (.int 3) (.cons (.int 4) (.cons (.int 7) (.cons (.int 60) (.cons (.call 22 (.cons (.var 1) (.cons (.int 61) .nil))) .nil))))))))) .nil)))) (.cons (.for (.nm 8) (.rng1 (.var 3)) (.cons (.set 13 false (.comp (.blt .int (.cons (.cmp .eq (.var 8) (.var 11)) .nil)) (.nm 11) (.rng1 (.var 3)) (.bl true) [11])) (.cons (.for (.nm 14) (.rng1 (.var 7)) (.cons (.set 13 false (.call 28 (.cons (.var 4) (.cons (.var 13) .nil)))) .nil)) (.cons (.ex (.mt .append 6 (.cons (.var 13) .nil))) (.cons (.for (.nm 11) (.rng1 (.var 3)) (.cons (.ite (.not (.call 24 (.cons (.call 17 (.cons (.var 5) (.cons (.var 8) (.cons (.var 11) (.cons (.var 7) .nil))))) (.cons (.ix (.var 13) (.var 11)) .nil)))) (.cons (.ret (.bl false)) .nil) .nil) (.cons (.ite (.cmp .ne (.call 17 (.cons (.var 5) (.cons (.var 8) (.cons (.var 11) (.cons (.var 7) .nil))))) (.call 17 (.cons (.var 5) (.cons (.var 11) (.cons (.var 8) (.cons (.var 7) .nil)))))) (.cons (.ret (.bl false)) .nil) .nil) .nil))) .nil))))) (.cons (.ite (.not (.call 24 (.cons (.call 18 (.cons (.var 5) (.cons (.var 7) .nil))) (.cons (.blt .sum (.cons (.comp (.ix (.ix (.var 6) (.var 8)) (.var 8)) (.nm 8) (.rng1 (.var 3)) (.bl true) [8]) .nil)) .nil)))) (.cons (.ret (.bl false)) .nil) .nil) (.cons (.par [(9, false), (10, false), (8, false), (11, false)] (.cons (.call 22 (.cons (.var 1) (.cons (.int 9) .nil))) (.cons (.call 22 (.cons (.var 1) (.cons (.int 9) .nil))) (.cons (.call 22 (.cons (.var 1) (.cons (.var 3) .nil))) (.cons (.call 22 (.cons (.var 1) (.cons (.var 3) .nil))) .nil))))) (.cons (.set 12 false (.blt .sum (.cons (.comp (.bin .mul (.call 17 (.cons (.var 5) (.cons (.var 8) (.cons (.var 15) (.cons (.var 9) .nil))))) (.call 17 (.cons (.var 5) (.cons (.var 15) (.cons (.var 11) (.cons (.var 10) .nil)))))) (.nm 15) (.rng1 (.var 3)) (.bl true) [15]) .nil))) (.cons (.ite (.cmp .ne (.call 17 (.cons (.var 5) (.cons (.var 8) (.cons (.var 11) (.cons (.bin .add (.var 9) (.var 10)) .nil))))) (.var 12)) (.cons (.ret (.bl false)) .nil) .nil) (.cons (.ite (.or (.cmp .ne (.call 17 (.cons (.var 5) (.cons (.var 8) (.cons (.var 11) (.cons (.int 1) .nil))))) (.blt .int (.cons (.call 27 (.cons (.var 4) (.cons (.var 8) (.cons (.var 11) .nil)))) .nil))) (.cmp .ne (.call 17 (.cons (.var 5) (.cons (.var 8) (.cons (.var 8) (.cons (.int 2) .nil))))) (.ix (.call 14 (.cons (.var 5) .nil)) (.var 8)))) (.cons (.ret (.bl false)) .nil) .nil) (.cons (.ite (.and (.cmp .ne (.var 8) (.var 11)) (.cmp .ne (.call 17 (.cons (.var 5) (.cons (.var 8) (.cons (.var 11) (.cons (.int 2) .nil))))) (.blt .len (.cons (.comp (.var 15) (.nm 15) (.seq (.call 12 (.cons (.var 5) (.cons (.var 8) .nil)))) (.cmp .isin (.var 15) (.call 12 (.cons (.var 5) (.cons (.var 11) .nil)))) [15]) .nil)))) (.cons (.ret (.bl false)) .nil) .nil) (.cons (.ite (.cmp .ne (.call 18 (.cons (.var 5) (.cons (.int 3) .nil))) (.bin .mul (.int 6) (.blt .len (.cons (.comp (.var 16) (.nm 16) (.seq (.call 20 (.cons (.var 5) .nil))) (.cmp .eq (.blt .len (.cons (.var 16) .nil)) (.int 3)) [16]) .nil)))) (.cons (.ret (.bl false)) .nil) .nil) (.cons (.ite (.or (.cmp .ne (.call 18 (.cons (.var 5) (.cons (.int 0) .nil))) (.var 3)) (.cmp .ne (.call 18 (.cons (.var 5) (.cons (.int 2) .nil))) (.bin .mul (.int 2) (.blt .len (.cons (.var 4) .nil))))) (.cons (.ret (.bl false)) .nil) .nil) .nil)))))))))))))
def bWLaw : Ss := (.cons (.setH 1 (.call 21 (.cons (.var 0) .nil))) (.cons (.for (.nm 2) (.rng1 (.int 3)) wBody) (.cons (.ret (.and (.cmp .eq (.call 17 (.cons (.web (.int 2) (.tup (.cons (.tup (.cons (.int 0) (.cons (.int 1) .nil))) .nil))) (.cons (.int 0) (.cons (.int 1) (.cons (.int 59) .nil))))) (.int 1)) (.cmp .eq (.call 17 (.cons (.web (.int 2) (.tup (.cons (.tup (.cons (.int 0) (.cons (.int 1) .nil))) .nil))) (.cons (.int 0) (.cons (.int 1) (.cons (.int 60) .nil))))) (.int 0)))) .nil)))
theorem w_turn {m : Nat} {hd : Hand} {u0 u2 u3 u4 u5 u6 u7 u8 u9 u10 u11 u12 u13 u14 : Option (Ow × D)} (hm : 16 ≤ m) (h8 : keepF u8 = u8) (h11 : keepF u11 = u11) (sD : SDraw P 22) (sL : SLines P 25) (sS : SSome P 23) (sO : SLOn P 28) (sW : SWalks P 17) (sI : SIsInt P 24) (sC : SClosed P 18) (sH : SLHas P 27) (sG : SDegsT P 14) (sN : SNearT P 12) (sR : SRings P 20) : ∃ (h' : Hand) (v3 v4 v5 v6 v7 v8 v9 v10 v11 v12 v13 v14 : Option (Ow × D)), keepF v8 = v8 ∧ keepF v11 = v11 ∧ execs (den P m) wBody ⟨[u0, some (.frz, .hand), u2, u3, u4, u5, u6, u7, u8, u9, u10, u11, u12, u13, u14, none, none], some hd.D, []⟩ = some (.nx ⟨[u0, some (.frz, .hand), u2, v3, v4, v5, v6, v7, v8, v9, v10, v11, v12, v13, v14, none, none], some h'.D, []⟩) := by
  obtain ⟨ha, n, h1, h6, e1⟩ := w_t1 (P := P) (m := m) (n := 0) (hd := hd) (u0 := u0) (u2 := u2) (u4 := u4) (u5 := u5) (u6 := u6) (u7 := u7) (u8 := u8) (u9 := u9) (u10 := u10) (u11 := u11) (u12 := u12) (u13 := u13) (u14 := u14) (by omega) sD
  obtain ⟨hb, ls, hw, e2⟩ := w_t2 (P := P) (m := m) (n := n) (ls := []) (hd := ha) (u0 := u0) (u2 := u2) (u5 := u5) (u6 := u6) (u7 := u7) (u8 := u8) (u9 := u9) (u10 := u10) (u11 := u11) (u12 := u12) (u13 := u13) (u14 := u14) (by omega) h1 h6 sL
  obtain ⟨hc, k, hk, e4⟩ := w_t4 (P := P) (m := m) (n := n) (k := 0) (ls := ls) (hd := hb) (u0 := u0) (u2 := u2) (u7 := u7) (u8 := u8) (u9 := u9) (u10 := u10) (u11 := u11) (u12 := u12) (u13 := u13) (u14 := u14) (by omega) sD sS
  obtain ⟨v8, v11, v13, v14, hv8, hv11, e5⟩ := w_t5 (P := P) (m := m) (n := n) (k := k) (ls := ls) (hd := hc) (u0 := u0) (u2 := u2) (u8 := u8) (u9 := u9) (u10 := u10) (u11 := u11) (u12 := u12) (u13 := u13) (u14 := u14) hm hw hk h8 h11 sO sW sI
  obtain ⟨h', x, y, a, b, hx, hy, hA, hB, e7⟩ := w_t7 (P := P) (m := m) (n := n) (k := k) (ls := ls) (hd := hc) (u0 := u0) (u2 := u2) (u8 := v8) (u9 := u9) (u10 := u10) (u11 := v11) (u12 := u12) (u13 := v13) (u14 := v14) (by omega) hw sD
  refine ⟨h', _, _, _, _, _, _, _, _, _, _, _, _, ?_, ?_, xs_nx e1 (xs_nx e2 (xs_nx (w_t3 (by omega) hw) (xs_nx e4 (xs_nx e5 (xs_nx (w_t6 hm hw hk (fun _ h => by cases h) (w_s6 hw.n7 hv8) sC sI) (xs_nx e7 (xs_nx (ex_set (w_s8 hm hw hx hy hA hB sW) (by simp)) (xs_nx (w_t9 hm hw hx hy hA hB sW) (xs_nx (w_t10 hm hw hx hy hA hB sW sH sG) (xs_nx (w_t11 hm hw hx hy hA hB (fun _ h => by cases h) (w_s11 hm hw hx hy hA hB sN) sW) (xs_nx (w_t12 hm hw hx hy hA hB (fun _ h => by cases h) (w_s12 hm hw hx hy hA hB sR) sC) (xs_nx (w_t13 hm hw hx hy hA hB sC) x_nil))))))))))))⟩
  · rfl
  · rfl

theorem w_ret {m : Nat} {hd : Hand} {u0 u2 u3 u4 u5 u6 u7 u8 u9 u10 u11 u12 u13 u14 : Option (Ow × D)} (hm : 16 ≤ m) (sW : SWalks P 17) : exec (den P m) (.ret (.and (.cmp .eq (.call 17 (.cons (.web (.int 2) (.tup (.cons (.tup (.cons (.int 0) (.cons (.int 1) .nil))) .nil))) (.cons (.int 0) (.cons (.int 1) (.cons (.int 59) .nil))))) (.int 1)) (.cmp .eq (.call 17 (.cons (.web (.int 2) (.tup (.cons (.tup (.cons (.int 0) (.cons (.int 1) .nil))) .nil))) (.cons (.int 0) (.cons (.int 1) (.cons (.int 60) .nil))))) (.int 0)))) ⟨[u0, some (.frz, .hand), u2, u3, u4, u5, u6, u7, u8, u9, u10, u11, u12, u13, u14, none, none], some hd.D, []⟩ = some (.rt (some hd.D) false (.bl true)) := by
  have g := den_guard (P := P) (m := m) (by omega)
  have w2 : webop (.int 2) (.tup [.tup [.int 0, .int 1]]) = some (.web 2 [(0, 1)]) := by rfl
  have e1 := sW m (some hd.D) 2 [(0, 1)] 0 1 59 hm (by omega) (by omega) (by omega) (by omega)
  have e2 := sW m (some hd.D) 2 [(0, 1)] 0 1 60 hm (by omega) (by omega) (by omega) (by omega)
  have c1 : (walkF 2 [(0, 1)] 0 59).getD 1 0 = 1 := by decide +kernel
  have c2 : (walkF 2 [(0, 1)] 0 60).getD 1 0 = 0 := by decide +kernel
  have l1 : 1 ≤ lim := by unfold lim; omega
  have l2 := lim2
  rw [c1] at e1
  rw [c2] at e2
  simp at e1 e2
  simp [e_var, e_int, e_bl, e_non, e_str, e_bin, e_neg, e_not, e_cmp, e_cmp2, e_and, e_or, e_ite, e_tup, e_lst, e_dic0, e_ix, e_sl, e_rev, e_fld, e_there, e_call, e_web, e_blt, e_isi, e_mt, e_md, e_listIt, e_tupIt, e_val, o_nil, o_cons, ef_nil, ef_cons, eo_none, eo_some, ei_seq, ei_rng1, ei_rng2, ei_zip, ei_enum, r_nil, r_cons, x_nil, x_cons, x_set, x_setH, x_par, x_unp, x_setIx, x_ex, x_ite, x_ret, x_pass, x_brk, x_cont, sVar, sOp1, sOp2, plainB, plain1, plainB2, plain2, sNeg, sNot, sCmp2, sAnd, sOr, sIte, sTup, sLst, sItem, sSl, sCall, sBlt, sMt, sMd, sListIt, sTupIt, sIt1, sIt2, itSeq, itEnum, itZip, sRng1, sRng2, sOsNil, sOsCons, sEfNil, sEfCons, sEoNone, sEoSome, setSlot, setAll, xSet, xSetH, xPar, xUnp, setItem, xSetIx, xEx, xIte, xRet, xSeq, opd, Opd.get, Opd.arg, args, gets, slotsOf, optI, Z.at, Z.put, Z.wipe, Z.back, Z.freeze, keepF, bor, unbor, bindT, bindT.bindTs, binop, isin, isNon, cmpop, iop, nop, D.cmpo, deq, D.eqv, isInst, isInsts, seqOf, lenop, lstop, intop, absop, bltin1, int2, bltin2, bltin, ixop, fldop, thop, stop, mtop, mtop0, mtop1, extop, popop, D.ok, D.okd, sGuard, g, w2, e1, e2, l1, l2]
theorem w_law {i : Nat} (hf : P[i]? = some ⟨1, 17, bWLaw⟩) (hg : i ≠ gIdx) (sA : SHand P 21) (sD : SDraw P 22) (sL : SLines P 25) (sS : SSome P 23) (sO : SLOn P 28) (sW : SWalks P 17) (sI : SIsInt P 24) (sC : SClosed P 18) (sH : SLHas P 27) (sG : SDegsT P 14) (sN : SNearT P 12) (sR : SRings P 20) (ns : List Int) (hl : ns.length ≤ 63) : ∃ h', den P 40 i [(false, .scr ns)] none = some (h', false, .bl true) := by
  obtain ⟨hd, e0⟩ := sA 39 ns (by omega) hl
  obtain ⟨z', e, h', u0, u2, u3, u4, u5, u6, u7, u8, u9, u10, u11, u12, u13, u14, hz, _, _⟩ := ex_forN (F := den P 39) (g := .nm 2) (it := .rng1 (.int 3)) (body := wBody) (z := ⟨[some (.frz, .scr ns), some (.frz, .hand), none, none, none, none, none, none, none, none, none, none, none, none, none, none, none], some hd.D, []⟩) (z1 := ⟨[some (.frz, .scr ns), some (.frz, .hand), none, none, none, none, none, none, none, none, none, none, none, none, none, none, none], some hd.D, []⟩) (bs := [])
    (List.range 3) (fun i => .int (i : Nat)) (fun j z => ∃ (hd : Hand) (u0 u2 u3 u4 u5 u6 u7 u8 u9 u10 u11 u12 u13 u14 : Option (Ow × D)), z = ⟨[u0, some (.frz, .hand), u2, u3, u4, u5, u6, u7, u8, u9, u10, u11, u12, u13, u14, none, none], some hd.D, []⟩ ∧ keepF u8 = u8 ∧ keepF u11 = u11)
    (by have e := rngL_nat 3
        simp at e
        simp [e_var, e_int, e_bl, e_non, e_str, e_bin, e_neg, e_not, e_cmp, e_cmp2, e_and, e_or, e_ite, e_tup, e_lst, e_dic0, e_ix, e_sl, e_rev, e_fld, e_there, e_call, e_web, e_blt, e_isi, e_mt, e_md, e_listIt, e_tupIt, e_val, o_nil, o_cons, ef_nil, ef_cons, eo_none, eo_some, ei_seq, ei_rng1, ei_rng2, ei_zip, ei_enum, r_nil, r_cons, x_nil, x_cons, x_set, x_setH, x_par, x_unp, x_setIx, x_ex, x_ite, x_ret, x_pass, x_brk, x_cont, sVar, sOp1, sOp2, plainB, plain1, plainB2, plain2, sNeg, sNot, sCmp2, sAnd, sOr, sIte, sTup, sLst, sItem, sSl, sCall, sBlt, sMt, sMd, sListIt, sTupIt, sIt1, sIt2, itSeq, itEnum, itZip, sRng1, sRng2, sOsNil, sOsCons, sEfNil, sEfCons, sEoNone, sEoSome, setSlot, setAll, xSet, xSetH, xPar, xUnp, setItem, xSetIx, xEx, xIte, xRet, xSeq, opd, Opd.get, Opd.arg, args, gets, slotsOf, optI, Z.at, Z.put, Z.wipe, Z.back, Z.freeze, keepF, bor, unbor, bindT, bindT.bindTs, binop, isin, isNon, cmpop, iop, nop, D.cmpo, deq, D.eqv, isInst, isInsts, seqOf, lenop, lstop, intop, absop, bltin1, int2, bltin2, bltin, ixop, fldop, thop, stop, mtop, mtop0, mtop1, extop, popop, D.ok, D.okd, e, rngOk, lim]) ⟨hd, some (.frz, .scr ns), none, none, none, none, none, none, none, none, none, none, none, none, none, rfl, rfl, rfl⟩ (by
      rintro j b z hx ⟨hd, u0, u2, u3, u4, u5, u6, u7, u8, u9, u10, u11, u12, u13, u14, rfl, h8, h11⟩
      obtain ⟨h', v3, v4, v5, v6, v7, v8, v9, v10, v11, v12, v13, v14, k8, k11, e⟩ := w_turn (P := P) (m := 39) (hd := hd) (u0 := u0) (u3 := u3) (u4 := u4) (u5 := u5) (u6 := u6) (u7 := u7) (u8 := u8) (u9 := u9) (u10 := u10) (u11 := u11) (u12 := u12) (u13 := u13) (u14 := u14) (u2 := some (.frz, .int (b : Nat))) (by omega) h8 h11 sD sL sS sO sW sI sC sH sG sN sR
      refine ⟨⟨[u0, some (.frz, .hand), some (.frz, .int (b : Nat)), u3, u4, u5, u6, u7, u8, u9, u10, u11, u12, u13, u14, none, none], some hd.D, []⟩, _, by simp [e_var, e_int, e_bl, e_non, e_str, e_bin, e_neg, e_not, e_cmp, e_cmp2, e_and, e_or, e_ite, e_tup, e_lst, e_dic0, e_ix, e_sl, e_rev, e_fld, e_there, e_call, e_web, e_blt, e_isi, e_mt, e_md, e_listIt, e_tupIt, e_val, o_nil, o_cons, ef_nil, ef_cons, eo_none, eo_some, ei_seq, ei_rng1, ei_rng2, ei_zip, ei_enum, r_nil, r_cons, x_nil, x_cons, x_set, x_setH, x_par, x_unp, x_setIx, x_ex, x_ite, x_ret, x_pass, x_brk, x_cont, sVar, sOp1, sOp2, plainB, plain1, plainB2, plain2, sNeg, sNot, sCmp2, sAnd, sOr, sIte, sTup, sLst, sItem, sSl, sCall, sBlt, sMt, sMd, sListIt, sTupIt, sIt1, sIt2, itSeq, itEnum, itZip, sRng1, sRng2, sOsNil, sOsCons, sEfNil, sEfCons, sEoNone, sEoSome, setSlot, setAll, xSet, xSetH, xPar, xUnp, setItem, xSetIx, xEx, xIte, xRet, xSeq, opd, Opd.get, Opd.arg, args, gets, slotsOf, optI, Z.at, Z.put, Z.wipe, Z.back, Z.freeze, keepF, bor, unbor, bindT, bindT.bindTs, binop, isin, isNon, cmpop, iop, nop, D.cmpo, deq, D.eqv, isInst, isInsts, seqOf, lenop, lstop, intop, absop, bltin1, int2, bltin2, bltin, ixop, fldop, thop, stop, mtop, mtop0, mtop1, extop, popop, D.ok, D.okd], e, h', u0, some (.frz, .int (b : Nat)), v3, v4, v5, v6, v7, v8, v9, v10, v11, v12, v13, v14, rfl, k8, k11⟩)
  subst hz
  refine ⟨some h'.D, den_rt ⟨[some (.frz, .scr ns), none, none, none, none, none, none, none, none, none, none, none, none, none, none, none, none], none, []⟩ hf hg (by omega) rfl (by show 1 ≤ 17; omega) rfl ?_⟩
  refine xs_nx (z1 := ⟨[some (.frz, .scr ns), some (.frz, .hand), none, none, none, none, none, none, none, none, none, none, none, none, none, none, none], some hd.D, []⟩) (by simp [e_var, e_int, e_bl, e_non, e_str, e_bin, e_neg, e_not, e_cmp, e_cmp2, e_and, e_or, e_ite, e_tup, e_lst, e_dic0, e_ix, e_sl, e_rev, e_fld, e_there, e_call, e_web, e_blt, e_isi, e_mt, e_md, e_listIt, e_tupIt, e_val, o_nil, o_cons, ef_nil, ef_cons, eo_none, eo_some, ei_seq, ei_rng1, ei_rng2, ei_zip, ei_enum, r_nil, r_cons, x_nil, x_cons, x_set, x_setH, x_par, x_unp, x_setIx, x_ex, x_ite, x_ret, x_pass, x_brk, x_cont, sVar, sOp1, sOp2, plainB, plain1, plainB2, plain2, sNeg, sNot, sCmp2, sAnd, sOr, sIte, sTup, sLst, sItem, sSl, sCall, sBlt, sMt, sMd, sListIt, sTupIt, sIt1, sIt2, itSeq, itEnum, itZip, sRng1, sRng2, sOsNil, sOsCons, sEfNil, sEfCons, sEoNone, sEoSome, setSlot, setAll, xSet, xSetH, xPar, xUnp, setItem, xSetIx, xEx, xIte, xRet, xSeq, opd, Opd.get, Opd.arg, args, gets, slotsOf, optI, Z.at, Z.put, Z.wipe, Z.back, Z.freeze, keepF, bor, unbor, bindT, bindT.bindTs, binop, isin, isNon, cmpop, iop, nop, D.cmpo, deq, D.eqv, isInst, isInsts, seqOf, lenop, lstop, intop, absop, bltin1, int2, bltin2, bltin, ixop, fldop, thop, stop, mtop, mtop0, mtop1, extop, popop, D.ok, D.okd, e0]) (xs_nx e (xs_rt (w_ret (by omega) sW)))

end
end BV

set_option maxHeartbeats 0
namespace BV
open PySem (Str Stmt)
def top (i : Nat) : Stmt := PySem.Challenge.pw_cornerwebs_k50_whole_walks.main.body.getD i (.Pass ⟨0, 0, 0, 0⟩)

/-! ### the small trees, printed by a program of the author -/
def n_is_integer : List Str := ((["thing"] : List Str))
def b_is_integer : Ss := (.cons (.ret (.and (.isi (.var 0) [.int]) (.not (.isi (.var 0) [.bool]))))
  .nil)
def n_is_within : List Str := ((["thing", "low", "high"] : List Str))
def b_is_within : Ss := (.cons (.ret (.and (.call 0 (.cons (.var 0) .nil)) (.cmp2 .le .le (.var 1) (.var 0) (.var 2))))
  .nil)
def n_is_number : List Str := ((["thing"] : List Str))
def b_is_number : Ss := (.cons (.ret (.and (.call 0 (.cons (.var 0) .nil)) (.cmp .ge (.var 0) (.int 0))))
  .nil)
def n_is_tuple : List Str := ((["thing", "least", "most"] : List Str))
def b_is_tuple : Ss := (.cons (.ret (.and (.isi (.var 0) [.tuple]) (.cmp2 .le .le (.var 1) (.blt .len (.cons (.var 0) .nil)) (.var 2))))
  .nil)
def n_is_count : List Str := ((["thing"] : List Str))
def b_is_count : Ss := (.cons (.ret (.call 1 (.cons (.var 0) (.cons (.int 1) (.cons (.int 7) .nil)))))
  .nil)
def n_is_line : List Str := ((["corners", "thing", "one"] : List Str))
def b_is_line : Ss := (.cons (.ite (.or (.not (.call 3 (.cons (.var 1) (.cons (.int 2) (.cons (.int 2) .nil))))) (.not (.blt .all (.cons (.comp (.call 1 (.cons (.var 2) (.cons (.int 0) (.cons (.bin .sub (.var 0) (.int 1)) .nil)))) (.nm 2) (.seq (.var 1)) (.bl true) [2]) .nil)))) (.cons (.ret (.bl false))
  .nil) .nil)
  (.cons (.ret (.cmp .lt (.ix (.var 1) (.int 0)) (.ix (.var 1) (.int 1))))
  .nil))
def n_are_lines : List Str := ((["corners", "thing", "one", "other", "line"] : List Str))
def b_are_lines : Ss := (.cons (.ite (.or (.not (.isi (.var 1) [.tuple])) (.not (.blt .all (.cons (.comp (.call 5 (.cons (.var 0) (.cons (.var 4) .nil))) (.nm 4) (.seq (.var 1)) (.bl true) [4]) .nil)))) (.cons (.ret (.bl false))
  .nil) .nil)
  (.cons (.ret (.blt .all (.cons (.comp (.cmp .lt (.var 2) (.var 3)) (.tp (.cons (.nm 2) (.cons (.nm 3) .nil))) (.zip (.var 1) (.sl (.var 1) (some (.int 1)) none)) (.bl true) [2,3]) .nil)))
  .nil))
def n_has_line : List Str := ((["web", "a", "b"] : List Str))
def b_has_line : Ss := (.cons (.ret (.cmp .isin (.tup (.cons (.blt .min (.cons (.var 1) (.cons (.var 2) .nil))) (.cons (.blt .max (.cons (.var 1) (.cons (.var 2) .nil))) .nil))) (.there (.var 0))))
  .nil)
def n_near_of : List Str := ((["web", "a", "b"] : List Str))
def b_near_of : Ss := (.cons (.ret (.comp (.var 2) (.nm 2) (.rng1 (.fld (.var 0) .corners)) (.call 7 (.cons (.var 0) (.cons (.var 1) (.cons (.var 2) .nil)))) [2]))
  .nil)
def n_is_corner : List Str := ((["web", "thing"] : List Str))
def b_is_corner : Ss := (.cons (.ret (.call 1 (.cons (.var 1) (.cons (.int 0) (.cons (.bin .sub (.fld (.var 0) .corners) (.int 1)) .nil)))))
  .nil)
def n_check_corner : List Str := ((["web", "a"] : List Str))
def b_check_corner : Ss := (.cons (.ite (.not (.call 9 (.cons (.var 0) (.cons (.var 1) .nil)))) (.cons .raise
  .nil) .nil)
  .nil)
def n_check_number : List Str := ((["number", "least", "most"] : List Str))
def b_check_number : Ss := (.cons (.ite (.or (.not (.call 2 (.cons (.var 0) .nil))) (.not (.cmp2 .le .le (.var 1) (.var 0) (.var 2)))) (.cons .raise
  .nil) .nil)
  .nil)
def n_near : List Str := ((["web", "a"] : List Str))
def b_near : Ss := (.cons (.ex (.call 10 (.cons (.var 0) (.cons (.var 1) .nil))))
  (.cons (.ret (.blt .tuple (.cons (.call 8 (.cons (.var 0) (.cons (.var 1) .nil))) .nil)))
  .nil))
def n_degrees_of : List Str := ((["web", "a"] : List Str))
def b_degrees_of : Ss := (.cons (.ret (.comp (.blt .len (.cons (.call 8 (.cons (.var 0) (.cons (.var 1) .nil))) .nil)) (.nm 1) (.rng1 (.fld (.var 0) .corners)) (.bl true) [1]))
  .nil)
def n_degrees : List Str := ((["web"] : List Str))
def b_degrees : Ss := (.cons (.ret (.blt .tuple (.cons (.call 13 (.cons (.var 0) .nil)) .nil)))
  .nil)
def n_steps_by : List Str := ((["web", "counts", "a", "b"] : List Str))
def b_steps_by : Ss := (.cons (.ret (.comp (.blt .sum (.cons (.comp (.ix (.var 1) (.var 3)) (.nm 3) (.seq (.call 8 (.cons (.var 0) (.cons (.var 2) .nil)))) (.bl true) [3]) .nil)) (.nm 2) (.rng1 (.fld (.var 0) .corners)) (.bl true) [2]))
  .nil)
def n_walks_from : List Str := ((["web", "a", "many", "counts", "turn", "b"] : List Str))
def b_walks_from : Ss := (.cons (.set 3 false (.comp (.blt .int (.cons (.cmp .eq (.var 5) (.var 1)) .nil)) (.nm 5) (.rng1 (.fld (.var 0) .corners)) (.bl true) [5]))
  (.cons (.for (.nm 4) (.rng1 (.var 2)) (.cons (.set 3 false (.call 15 (.cons (.var 0) (.cons (.var 3) .nil))))
  .nil))
  (.cons (.ret (.var 3))
  .nil)))
def n_walks : List Str := ((["web", "a", "b", "many"] : List Str))
def b_walks : Ss := (.cons (.ex (.call 10 (.cons (.var 0) (.cons (.var 1) .nil))))
  (.cons (.ex (.call 10 (.cons (.var 0) (.cons (.var 2) .nil))))
  (.cons (.ex (.call 11 (.cons (.var 3) (.cons (.int 0) (.cons (.int 60) .nil)))))
  (.cons (.ret (.ix (.call 16 (.cons (.var 0) (.cons (.var 1) (.cons (.var 3) .nil)))) (.var 2)))
  .nil))))
def n_closed_walks : List Str := ((["web", "many", "a"] : List Str))
def b_closed_walks : Ss := (.cons (.ex (.call 11 (.cons (.var 1) (.cons (.int 0) (.cons (.int 60) .nil)))))
  (.cons (.ret (.blt .sum (.cons (.comp (.ix (.call 16 (.cons (.var 0) (.cons (.var 2) (.cons (.var 1) .nil)))) (.var 2)) (.nm 2) (.rng1 (.fld (.var 0) .corners)) (.bl true) [2]) .nil)))
  .nil))
def n_all_rings : List Str := ((["web", "found", "waiting", "here", "a", "b"] : List Str))
def b_all_rings : Ss := (.cons (.par [(1, true), (2, true)] (.cons (.lst .nil) (.cons (.comp (.tup (.cons (.var 4) .nil)) (.nm 4) (.rng1 (.fld (.var 0) .corners)) (.bl true) [4]) .nil)))
  (.cons (.whl (.cmp .gt (.blt .len (.cons (.var 2) .nil)) (.int 0)) (.cons (.set 3 false (.mt .pop 2 .nil))
  (.cons (.ite (.and (.cmp .gt (.blt .len (.cons (.var 3) .nil)) (.int 2)) (.and (.cmp .lt (.ix (.var 3) (.int 1)) (.ix (.var 3) (.neg (.int 1)))) (.call 7 (.cons (.var 0) (.cons (.ix (.var 3) (.neg (.int 1))) (.cons (.ix (.var 3) (.int 0)) .nil)))))) (.cons (.ex (.mt .append 1 (.cons (.var 3) .nil)))
  .nil) .nil)
  (.cons (.ex (.mt .extend 2 (.cons (.comp (.bin .add (.var 3) (.tup (.cons (.var 5) .nil))) (.nm 5) (.seq (.call 8 (.cons (.var 0) (.cons (.ix (.var 3) (.neg (.int 1))) .nil)))) (.and (.cmp .gt (.var 5) (.ix (.var 3) (.int 0))) (.cmp .notin (.var 5) (.var 3))) [5]) .nil)))
  .nil))))
  (.cons (.ret (.blt .sorted (.cons (.var 1) .nil)))
  .nil)))
def n_rings : List Str := ((["web"] : List Str))
def b_rings : Ss := (.cons (.ret (.blt .tuple (.cons (.call 19 (.cons (.var 0) .nil)) .nil)))
  .nil)
def n__law_hand : List Str := ((["script", "cells", "cell"] : List Str))
def b__law_hand : Ss := (.cons (.set 1 false (.comp (.blt .abs (.cons (.blt .int (.cons (.var 2) .nil)) .nil)) (.nm 2) (.seq (.sl (.var 0) none (some (.int 63)))) (.bl true) [2]))
  (.cons (.ret (.lst (.cons (.var 1) (.cons (.int 0) (.cons (.int 0) (.cons (.bin .add (.int 353) (.bin .mul (.int 73) (.blt .len (.cons (.var 1) .nil)))) (.cons (.int 0) .nil)))))))
  .nil))
def n__law_draw : List Str := ((["hand", "sides", "number", "cell", "digit"] : List Str))
def b__law_draw : Ss := (.cons (.ite (.and (.cmp .eq (.ix (.var 0) (.int 2)) (.int 0)) (.cmp .lt (.ix (.var 0) (.int 1)) (.blt .len (.cons (.ix (.var 0) (.int 0)) .nil)))) (.cons (.set 3 false (.ix (.ix (.var 0) (.int 0)) (.ix (.var 0) (.int 1))))
  (.cons (.setIx 0 (.int 1) (.bin .add (.ix (.var 0) (.int 1)) (.int 1)))
  (.cons (.setIx 0 (.int 3) (.bin .mod (.blt .int (.cons (.bin .add (.bin .add (.bin .mul (.ix (.var 0) (.int 3)) (.int 69621)) (.var 3)) (.int 29)) .nil)) (.int 2147483629)))
  (.cons (.ite (.cmp .ge (.var 3) (.bin .pow (.int 10) (.int 18))) (.cons (.setIx 0 (.int 2) (.var 3))
  .nil) .nil)
  .nil)))) .nil)
  (.cons (.ite (.cmp .gt (.ix (.var 0) (.int 2)) (.int 0)) (.cons (.set 4 false (.bin .mod (.blt .int (.cons (.ix (.var 0) (.int 2)) .nil)) (.var 1)))
  (.cons (.setIx 0 (.int 2) (.bin .fdiv (.ix (.var 0) (.int 2)) (.var 1)))
  (.cons (.ret (.var 4))
  .nil))) .nil)
  (.cons (.setIx 0 (.int 4) (.bin .add (.ix (.var 0) (.int 4)) (.int 1)))
  (.cons (.set 2 false (.bin .mod (.blt .int (.cons (.bin .mul (.blt .int (.cons (.bin .add (.ix (.var 0) (.int 3)) (.bin .mul (.int 7919) (.ix (.var 0) (.int 4)))) .nil)) (.int 48271)) .nil)) (.int 2147483647)))
  (.cons (.set 2 false (.bin .mod (.blt .int (.cons (.bin .mul (.var 2) (.bin .add (.bin .fdiv (.var 2) (.int 1009)) (.int 69621))) .nil)) (.int 2147483647)))
  (.cons (.set 2 false (.bin .mod (.blt .int (.cons (.bin .mul (.var 2) (.bin .add (.bin .fdiv (.var 2) (.int 2003)) (.int 40692))) .nil)) (.int 2147483399)))
  (.cons (.ret (.bin .mod (.blt .int (.cons (.bin .fdiv (.var 2) (.int 16)) .nil)) (.var 1)))
  .nil)))))))
def n__law_some : List Str := ((["hand", "things"] : List Str))
def b__law_some : Ss := (.cons (.ret (.ix (.var 1) (.call 22 (.cons (.var 0) (.cons (.blt .len (.cons (.var 1) .nil)) .nil)))))
  .nil)
def n__law_is : List Str := ((["one", "other", "key", "mine", "yours"] : List Str))
def b__law_is : Ss := (.cons (.ite (.or (.isi (.var 0) [.bool]) (.isi (.var 1) [.bool])) (.cons (.ret (.and (.isi (.var 0) [.bool]) (.and (.isi (.var 1) [.bool]) (.cmp .eq (.var 0) (.var 1)))))
  .nil) .nil)
  (.cons (.ite (.or (.isi (.var 0) [.tuple]) (.isi (.var 0) [.list])) (.cons (.ite (.or (.cmp .ne (.isi (.var 0) [.tuple]) (.isi (.var 1) [.tuple])) (.cmp .ne (.isi (.var 0) [.list]) (.isi (.var 1) [.list]))) (.cons (.ret (.bl false))
  .nil) .nil)
  (.cons (.ret (.and (.cmp .eq (.blt .len (.cons (.var 0) .nil)) (.blt .len (.cons (.var 1) .nil))) (.blt .all (.cons (.comp (.call 24 (.cons (.var 3) (.cons (.var 4) .nil))) (.tp (.cons (.nm 3) (.cons (.nm 4) .nil))) (.zip (.var 0) (.var 1)) (.bl true) [3,4]) .nil))))
  .nil)) .nil)
  (.cons (.ite (.isi (.var 0) [.dict]) (.cons (.ite (.or (.not (.isi (.var 1) [.dict])) (.cmp .ne (.blt .len (.cons (.var 0) .nil)) (.blt .len (.cons (.var 1) .nil)))) (.cons (.ret (.bl false))
  .nil) .nil)
  (.cons (.ret (.blt .all (.cons (.comp (.and (.cmp .isin (.var 2) (.var 1)) (.call 24 (.cons (.ix (.var 0) (.var 2)) (.cons (.ix (.var 1) (.var 2)) .nil)))) (.nm 2) (.seq (.var 0)) (.bl true) [2]) .nil)))
  .nil)) .nil)
  (.cons (.ret (.and (.cmp .eq (.isi (.var 0) [.int]) (.isi (.var 1) [.int])) (.cmp .eq (.var 0) (.var 1))))
  .nil))))
def n__law_lines : List Str := ((["hand", "corners", "often", "found", "a", "b"] : List Str))
def b__law_lines : Ss := (.cons (.par [(2, false), (3, true)] (.cons (.bin .add (.int 1) (.call 22 (.cons (.var 0) (.cons (.int 4) .nil)))) (.cons (.lst .nil) .nil)))
  (.cons (.for (.nm 4) (.rng1 (.var 1)) (.cons (.ex (.mt .extend 3 (.cons (.comp (.tup (.cons (.var 4) (.cons (.var 5) .nil))) (.nm 5) (.rng2 (.bin .add (.var 4) (.int 1)) (.var 1)) (.cmp .lt (.call 22 (.cons (.var 0) (.cons (.int 5) .nil))) (.var 2)) [5]) .nil)))
  .nil))
  (.cons (.ret (.blt .tuple (.cons (.var 3) .nil)))
  .nil)))
def n__law_near : List Str := ((["lines", "a", "x", "y"] : List Str))
def b__law_near : Ss := (.cons (.ret (.blt .sorted (.cons (.comp (.bin .sub (.bin .add (.var 2) (.var 3)) (.var 1)) (.tp (.cons (.nm 2) (.cons (.nm 3) .nil))) (.seq (.var 0)) (.cmp .isin (.var 1) (.tup (.cons (.var 2) (.cons (.var 3) .nil)))) [2,3]) .nil)))
  .nil)
def n__law_has : List Str := ((["lines", "a", "b"] : List Str))
def b__law_has : Ss := (.cons (.ret (.cmp .isin (.tup (.cons (.blt .min (.cons (.var 1) (.cons (.var 2) .nil))) (.cons (.blt .max (.cons (.var 1) (.cons (.var 2) .nil))) .nil))) (.var 0)))
  .nil)
def n__law_on : List Str := ((["lines", "counts", "a", "b"] : List Str))
def b__law_on : Ss := (.cons (.ret (.comp (.blt .sum (.cons (.comp (.ix (.var 1) (.var 3)) (.nm 3) (.seq (.call 26 (.cons (.var 0) (.cons (.var 2) .nil)))) (.bl true) [3]) .nil)) (.nm 2) (.rng1 (.blt .len (.cons (.var 1) .nil))) (.bl true) [2]))
  .nil)
def n_law : List Str := ((["script", "hand", "turn", "corners", "lines", "web", "table", "many", "a", "one", "other", "b", "both", "counts", "again", "c", "ring"] : List Str))
def b_law : Ss := (.cons (.setH 1 (.call 21 (.cons (.var 0) .nil)))
  (.cons (.for (.nm 2) (.rng1 (.int 3)) (.cons (.set 3 false (.bin .add (.int 1) (.call 22 (.cons (.var 1) (.cons (.int 6) .nil)))))
  (.cons (.set 4 false (.call 25 (.cons (.var 1) (.cons (.var 3) .nil))))
  (.cons (.par [(5, false), (6, true)] (.cons (.web (.var 3) (.var 4)) (.cons (.lst .nil) .nil)))
  (.cons (.set 7 false (.call 23 (.cons (.var 1) (.cons (.lst (.cons (.int 0) (.cons (.int 1) (.cons (.int 2) (.cons (.int 3) (.cons (.int 4) (.cons (.int 7) (.cons (.int 60) (.cons (.call 22 (.cons (.var 1) (.cons (.int 61) .nil))) .nil))))))))) .nil))))
  (.cons (.for (.nm 8) (.rng1 (.var 3)) (.cons (.set 13 false (.comp (.blt .int (.cons (.cmp .eq (.var 8) (.var 11)) .nil)) (.nm 11) (.rng1 (.var 3)) (.bl true) [11]))
  (.cons (.for (.nm 14) (.rng1 (.var 7)) (.cons (.set 13 false (.call 28 (.cons (.var 4) (.cons (.var 13) .nil))))
  .nil))
  (.cons (.ex (.mt .append 6 (.cons (.var 13) .nil)))
  (.cons (.for (.nm 11) (.rng1 (.var 3)) (.cons (.ite (.not (.call 24 (.cons (.call 17 (.cons (.var 5) (.cons (.var 8) (.cons (.var 11) (.cons (.var 7) .nil))))) (.cons (.ix (.var 13) (.var 11)) .nil)))) (.cons (.ret (.bl false))
  .nil) .nil)
  (.cons (.ite (.cmp .ne (.call 17 (.cons (.var 5) (.cons (.var 8) (.cons (.var 11) (.cons (.var 7) .nil))))) (.call 17 (.cons (.var 5) (.cons (.var 11) (.cons (.var 8) (.cons (.var 7) .nil)))))) (.cons (.ret (.bl false))
  .nil) .nil)
  .nil)))
  .nil)))))
  (.cons (.ite (.not (.call 24 (.cons (.call 18 (.cons (.var 5) (.cons (.var 7) .nil))) (.cons (.blt .sum (.cons (.comp (.ix (.ix (.var 6) (.var 8)) (.var 8)) (.nm 8) (.rng1 (.var 3)) (.bl true) [8]) .nil)) .nil)))) (.cons (.ret (.bl false))
  .nil) .nil)
  (.cons (.par [(9, false), (10, false), (8, false), (11, false)] (.cons (.call 22 (.cons (.var 1) (.cons (.int 9) .nil))) (.cons (.call 22 (.cons (.var 1) (.cons (.int 9) .nil))) (.cons (.call 22 (.cons (.var 1) (.cons (.var 3) .nil))) (.cons (.call 22 (.cons (.var 1) (.cons (.var 3) .nil))) .nil)))))
  (.cons (.set 12 false (.blt .sum (.cons (.comp (.bin .mul (.call 17 (.cons (.var 5) (.cons (.var 8) (.cons (.var 15) (.cons (.var 9) .nil))))) (.call 17 (.cons (.var 5) (.cons (.var 15) (.cons (.var 11) (.cons (.var 10) .nil)))))) (.nm 15) (.rng1 (.var 3)) (.bl true) [15]) .nil)))
  (.cons (.ite (.cmp .ne (.call 17 (.cons (.var 5) (.cons (.var 8) (.cons (.var 11) (.cons (.bin .add (.var 9) (.var 10)) .nil))))) (.var 12)) (.cons (.ret (.bl false))
  .nil) .nil)
  (.cons (.ite (.or (.cmp .ne (.call 17 (.cons (.var 5) (.cons (.var 8) (.cons (.var 11) (.cons (.int 1) .nil))))) (.blt .int (.cons (.call 27 (.cons (.var 4) (.cons (.var 8) (.cons (.var 11) .nil)))) .nil))) (.cmp .ne (.call 17 (.cons (.var 5) (.cons (.var 8) (.cons (.var 8) (.cons (.int 2) .nil))))) (.ix (.call 14 (.cons (.var 5) .nil)) (.var 8)))) (.cons (.ret (.bl false))
  .nil) .nil)
  (.cons (.ite (.and (.cmp .ne (.var 8) (.var 11)) (.cmp .ne (.call 17 (.cons (.var 5) (.cons (.var 8) (.cons (.var 11) (.cons (.int 2) .nil))))) (.blt .len (.cons (.comp (.var 15) (.nm 15) (.seq (.call 12 (.cons (.var 5) (.cons (.var 8) .nil)))) (.cmp .isin (.var 15) (.call 12 (.cons (.var 5) (.cons (.var 11) .nil)))) [15]) .nil)))) (.cons (.ret (.bl false))
  .nil) .nil)
  (.cons (.ite (.cmp .ne (.call 18 (.cons (.var 5) (.cons (.int 3) .nil))) (.bin .mul (.int 6) (.blt .len (.cons (.comp (.var 16) (.nm 16) (.seq (.call 20 (.cons (.var 5) .nil))) (.cmp .eq (.blt .len (.cons (.var 16) .nil)) (.int 3)) [16]) .nil)))) (.cons (.ret (.bl false))
  .nil) .nil)
  (.cons (.ite (.or (.cmp .ne (.call 18 (.cons (.var 5) (.cons (.int 0) .nil))) (.var 3)) (.cmp .ne (.call 18 (.cons (.var 5) (.cons (.int 2) .nil))) (.bin .mul (.int 2) (.blt .len (.cons (.var 4) .nil))))) (.cons (.ret (.bl false))
  .nil) .nil)
  .nil))))))))))))))
  (.cons (.ret (.and (.cmp .eq (.call 17 (.cons (.web (.int 2) (.tup (.cons (.tup (.cons (.int 0) (.cons (.int 1) .nil))) .nil))) (.cons (.int 0) (.cons (.int 1) (.cons (.int 59) .nil))))) (.int 1)) (.cmp .eq (.call 17 (.cons (.web (.int 2) (.tup (.cons (.tup (.cons (.int 0) (.cons (.int 1) .nil))) .nil))) (.cons (.int 0) (.cons (.int 1) (.cons (.int 60) .nil))))) (.int 0))))
  .nil)))
def gl : List (Str × GK) := (([("is_integer", .fn 0 []), ("is_within", .fn 1 []), ("is_number", .fn 2 []), ("is_tuple", .fn 3 []), ("is_count", .fn 4 []), ("is_line", .fn 5 []), ("are_lines", .fn 6 []), ("has_line", .fn 7 []), ("near_of", .fn 8 []), ("is_corner", .fn 9 []), ("check_corner", .fn 10 []), ("check_number", .fn 11 []), ("near", .fn 12 []), ("degrees_of", .fn 13 []), ("degrees", .fn 14 []), ("steps_by", .fn 15 []), ("walks_from", .fn 16 []), ("walks", .fn 17 []), ("closed_walks", .fn 18 []), ("all_rings", .fn 19 []), ("rings", .fn 20 []), ("_law_hand", .fn 21 []), ("_law_draw", .fn 22 []), ("_law_some", .fn 23 []), ("_law_is", .fn 24 []), ("_law_lines", .fn 25 []), ("_law_near", .fn 26 []), ("_law_has", .fn 27 []), ("_law_on", .fn 28 []), ("law", .fn 29 [])] : List (Str × GK)) ++ ([("MOST_CORNERS", .int 7), ("MOST_LINES", .int 60), ("Web", .web), ("abs", .blt), ("all", .blt), ("any", .blt), ("int", .blt), ("len", .blt), ("max", .blt), ("min", .blt), ("sorted", .blt), ("sum", .blt), ("repr", .blt), ("dict", .blt), ("list", .blt), ("tuple", .blt), ("range", .blt), ("zip", .blt), ("enumerate", .blt), ("set", .blt), ("isinstance", .blt), ("bool", .blt), ("str", .blt)] : List (Str × GK)))
def P : List Def := (([⟨1, 1, b_is_integer⟩, ⟨3, 3, b_is_within⟩, ⟨1, 1, b_is_number⟩, ⟨3, 3, b_is_tuple⟩, ⟨1, 1, b_is_count⟩, ⟨2, 3, b_is_line⟩, ⟨2, 5, b_are_lines⟩, ⟨3, 3, b_has_line⟩, ⟨2, 3, b_near_of⟩, ⟨2, 2, b_is_corner⟩, ⟨2, 2, b_check_corner⟩, ⟨3, 3, b_check_number⟩, ⟨2, 2, b_near⟩, ⟨1, 2, b_degrees_of⟩, ⟨1, 1, b_degrees⟩, ⟨2, 4, b_steps_by⟩, ⟨3, 6, b_walks_from⟩, ⟨4, 4, b_walks⟩, ⟨2, 3, b_closed_walks⟩, ⟨1, 6, b_all_rings⟩, ⟨1, 1, b_rings⟩, ⟨1, 3, b__law_hand⟩, ⟨2, 5, b__law_draw⟩, ⟨2, 2, b__law_some⟩, ⟨2, 5, b__law_is⟩, ⟨2, 6, b__law_lines⟩, ⟨2, 4, b__law_near⟩, ⟨3, 3, b__law_has⟩, ⟨2, 4, b__law_on⟩, ⟨1, 17, b_law⟩] : List Def))

def d_is_integer : FDat := ⟨"is_integer", L2.defArgs (top 1), L2.defBody (top 1), L2.defScope (top 1), ((["thing"] : List Str)), n_is_integer, []⟩
theorem tr_is_integer : trSs (d_is_integer.ctx gl) 60 d_is_integer.body = some b_is_integer := by kernel_rfl
theorem q_is_integer : DefQ gl P 0 d_is_integer := ⟨fun _ _ _ _ _ _ us hl => match us, hl with | [_], _ => rfl, ⟨rfl, rfl, rfl, by decide +kernel, rfl, by decide +kernel, by decide +kernel⟩, ⟨60, b_is_integer, tr_is_integer, rfl⟩, by kernel_rfl⟩
def d_is_within : FDat := ⟨"is_within", L2.defArgs (top 2), L2.defBody (top 2), L2.defScope (top 2), ((["thing", "low", "high"] : List Str)), n_is_within, []⟩
theorem tr_is_within : trSs (d_is_within.ctx gl) 60 d_is_within.body = some b_is_within := by kernel_rfl
theorem q_is_within : DefQ gl P 1 d_is_within := ⟨fun _ _ _ _ _ _ us hl => match us, hl with | [_, _, _], _ => rfl, ⟨rfl, rfl, rfl, by decide +kernel, rfl, by decide +kernel, by decide +kernel⟩, ⟨60, b_is_within, tr_is_within, rfl⟩, by kernel_rfl⟩
def d_is_number : FDat := ⟨"is_number", L2.defArgs (top 3), L2.defBody (top 3), L2.defScope (top 3), ((["thing"] : List Str)), n_is_number, []⟩
theorem tr_is_number : trSs (d_is_number.ctx gl) 60 d_is_number.body = some b_is_number := by kernel_rfl
theorem q_is_number : DefQ gl P 2 d_is_number := ⟨fun _ _ _ _ _ _ us hl => match us, hl with | [_], _ => rfl, ⟨rfl, rfl, rfl, by decide +kernel, rfl, by decide +kernel, by decide +kernel⟩, ⟨60, b_is_number, tr_is_number, rfl⟩, by kernel_rfl⟩
def d_is_tuple : FDat := ⟨"is_tuple", L2.defArgs (top 4), L2.defBody (top 4), L2.defScope (top 4), ((["thing", "least", "most"] : List Str)), n_is_tuple, []⟩
theorem tr_is_tuple : trSs (d_is_tuple.ctx gl) 60 d_is_tuple.body = some b_is_tuple := by kernel_rfl
theorem q_is_tuple : DefQ gl P 3 d_is_tuple := ⟨fun _ _ _ _ _ _ us hl => match us, hl with | [_, _, _], _ => rfl, ⟨rfl, rfl, rfl, by decide +kernel, rfl, by decide +kernel, by decide +kernel⟩, ⟨60, b_is_tuple, tr_is_tuple, rfl⟩, by kernel_rfl⟩
def d_is_count : FDat := ⟨"is_count", L2.defArgs (top 12), L2.defBody (top 12), L2.defScope (top 12), ((["thing"] : List Str)), n_is_count, []⟩
theorem tr_is_count : trSs (d_is_count.ctx gl) 60 d_is_count.body = some b_is_count := by kernel_rfl
theorem q_is_count : DefQ gl P 4 d_is_count := ⟨fun _ _ _ _ _ _ us hl => match us, hl with | [_], _ => rfl, ⟨rfl, rfl, rfl, by decide +kernel, rfl, by decide +kernel, by decide +kernel⟩, ⟨60, b_is_count, tr_is_count, rfl⟩, by kernel_rfl⟩
def d_is_line : FDat := ⟨"is_line", L2.defArgs (top 13), L2.defBody (top 13), L2.defScope (top 13), ((["corners", "thing"] : List Str)), n_is_line, []⟩
theorem tr_is_line : trSs (d_is_line.ctx gl) 60 d_is_line.body = some b_is_line := by kernel_rfl
theorem q_is_line : DefQ gl P 5 d_is_line := ⟨fun _ _ _ _ _ _ us hl => match us, hl with | [_, _], _ => rfl, ⟨rfl, rfl, rfl, by decide +kernel, rfl, by decide +kernel, by decide +kernel⟩, ⟨60, b_is_line, tr_is_line, rfl⟩, by kernel_rfl⟩
def d_are_lines : FDat := ⟨"are_lines", L2.defArgs (top 14), L2.defBody (top 14), L2.defScope (top 14), ((["corners", "thing"] : List Str)), n_are_lines, []⟩
theorem tr_are_lines : trSs (d_are_lines.ctx gl) 60 d_are_lines.body = some b_are_lines := by kernel_rfl
theorem q_are_lines : DefQ gl P 6 d_are_lines := ⟨fun _ _ _ _ _ _ us hl => match us, hl with | [_, _], _ => rfl, ⟨rfl, rfl, rfl, by decide +kernel, rfl, by decide +kernel, by decide +kernel⟩, ⟨60, b_are_lines, tr_are_lines, rfl⟩, by kernel_rfl⟩
def d_has_line : FDat := ⟨"has_line", L2.defArgs (top 16), L2.defBody (top 16), L2.defScope (top 16), ((["web", "a", "b"] : List Str)), n_has_line, []⟩
theorem tr_has_line : trSs (d_has_line.ctx gl) 60 d_has_line.body = some b_has_line := by kernel_rfl
theorem q_has_line : DefQ gl P 7 d_has_line := ⟨fun _ _ _ _ _ _ us hl => match us, hl with | [_, _, _], _ => rfl, ⟨rfl, rfl, rfl, by decide +kernel, rfl, by decide +kernel, by decide +kernel⟩, ⟨60, b_has_line, tr_has_line, rfl⟩, by kernel_rfl⟩
def d_near_of : FDat := ⟨"near_of", L2.defArgs (top 17), L2.defBody (top 17), L2.defScope (top 17), ((["web", "a"] : List Str)), n_near_of, []⟩
theorem tr_near_of : trSs (d_near_of.ctx gl) 60 d_near_of.body = some b_near_of := by kernel_rfl
theorem q_near_of : DefQ gl P 8 d_near_of := ⟨fun _ _ _ _ _ _ us hl => match us, hl with | [_, _], _ => rfl, ⟨rfl, rfl, rfl, by decide +kernel, rfl, by decide +kernel, by decide +kernel⟩, ⟨60, b_near_of, tr_near_of, rfl⟩, by kernel_rfl⟩
def d_is_corner : FDat := ⟨"is_corner", L2.defArgs (top 18), L2.defBody (top 18), L2.defScope (top 18), ((["web", "thing"] : List Str)), n_is_corner, []⟩
theorem tr_is_corner : trSs (d_is_corner.ctx gl) 60 d_is_corner.body = some b_is_corner := by kernel_rfl
theorem q_is_corner : DefQ gl P 9 d_is_corner := ⟨fun _ _ _ _ _ _ us hl => match us, hl with | [_, _], _ => rfl, ⟨rfl, rfl, rfl, by decide +kernel, rfl, by decide +kernel, by decide +kernel⟩, ⟨60, b_is_corner, tr_is_corner, rfl⟩, by kernel_rfl⟩
def d_check_corner : FDat := ⟨"check_corner", L2.defArgs (top 19), L2.defBody (top 19), L2.defScope (top 19), ((["web", "a"] : List Str)), n_check_corner, []⟩
theorem tr_check_corner : trSs (d_check_corner.ctx gl) 60 d_check_corner.body = some b_check_corner := by kernel_rfl
theorem q_check_corner : DefQ gl P 10 d_check_corner := ⟨fun _ _ _ _ _ _ us hl => match us, hl with | [_, _], _ => rfl, ⟨rfl, rfl, rfl, by decide +kernel, rfl, by decide +kernel, by decide +kernel⟩, ⟨60, b_check_corner, tr_check_corner, rfl⟩, by kernel_rfl⟩
def d_check_number : FDat := ⟨"check_number", L2.defArgs (top 20), L2.defBody (top 20), L2.defScope (top 20), ((["number", "least", "most"] : List Str)), n_check_number, []⟩
theorem tr_check_number : trSs (d_check_number.ctx gl) 60 d_check_number.body = some b_check_number := by kernel_rfl
theorem q_check_number : DefQ gl P 11 d_check_number := ⟨fun _ _ _ _ _ _ us hl => match us, hl with | [_, _, _], _ => rfl, ⟨rfl, rfl, rfl, by decide +kernel, rfl, by decide +kernel, by decide +kernel⟩, ⟨60, b_check_number, tr_check_number, rfl⟩, by kernel_rfl⟩
def d_near : FDat := ⟨"near", L2.defArgs (top 21), L2.defBody (top 21), L2.defScope (top 21), ((["web", "a"] : List Str)), n_near, []⟩
theorem tr_near : trSs (d_near.ctx gl) 60 d_near.body = some b_near := by kernel_rfl
theorem q_near : DefQ gl P 12 d_near := ⟨fun _ _ _ _ _ _ us hl => match us, hl with | [_, _], _ => rfl, ⟨rfl, rfl, rfl, by decide +kernel, rfl, by decide +kernel, by decide +kernel⟩, ⟨60, b_near, tr_near, rfl⟩, by kernel_rfl⟩
def d_degrees_of : FDat := ⟨"degrees_of", L2.defArgs (top 22), L2.defBody (top 22), L2.defScope (top 22), ((["web"] : List Str)), n_degrees_of, []⟩
theorem tr_degrees_of : trSs (d_degrees_of.ctx gl) 60 d_degrees_of.body = some b_degrees_of := by kernel_rfl
theorem q_degrees_of : DefQ gl P 13 d_degrees_of := ⟨fun _ _ _ _ _ _ us hl => match us, hl with | [_], _ => rfl, ⟨rfl, rfl, rfl, by decide +kernel, rfl, by decide +kernel, by decide +kernel⟩, ⟨60, b_degrees_of, tr_degrees_of, rfl⟩, by kernel_rfl⟩
def d_degrees : FDat := ⟨"degrees", L2.defArgs (top 23), L2.defBody (top 23), L2.defScope (top 23), ((["web"] : List Str)), n_degrees, []⟩
theorem tr_degrees : trSs (d_degrees.ctx gl) 60 d_degrees.body = some b_degrees := by kernel_rfl
theorem q_degrees : DefQ gl P 14 d_degrees := ⟨fun _ _ _ _ _ _ us hl => match us, hl with | [_], _ => rfl, ⟨rfl, rfl, rfl, by decide +kernel, rfl, by decide +kernel, by decide +kernel⟩, ⟨60, b_degrees, tr_degrees, rfl⟩, by kernel_rfl⟩
def d_steps_by : FDat := ⟨"steps_by", L2.defArgs (top 26), L2.defBody (top 26), L2.defScope (top 26), ((["web", "counts"] : List Str)), n_steps_by, []⟩
theorem tr_steps_by : trSs (d_steps_by.ctx gl) 60 d_steps_by.body = some b_steps_by := by kernel_rfl
theorem q_steps_by : DefQ gl P 15 d_steps_by := ⟨fun _ _ _ _ _ _ us hl => match us, hl with | [_, _], _ => rfl, ⟨rfl, rfl, rfl, by decide +kernel, rfl, by decide +kernel, by decide +kernel⟩, ⟨60, b_steps_by, tr_steps_by, rfl⟩, by kernel_rfl⟩
def d_walks_from : FDat := ⟨"walks_from", L2.defArgs (top 27), L2.defBody (top 27), L2.defScope (top 27), ((["web", "a", "many"] : List Str)), n_walks_from, []⟩
theorem tr_walks_from : trSs (d_walks_from.ctx gl) 60 d_walks_from.body = some b_walks_from := by kernel_rfl
theorem q_walks_from : DefQ gl P 16 d_walks_from := ⟨fun _ _ _ _ _ _ us hl => match us, hl with | [_, _, _], _ => rfl, ⟨rfl, rfl, rfl, by decide +kernel, rfl, by decide +kernel, by decide +kernel⟩, ⟨60, b_walks_from, tr_walks_from, rfl⟩, by kernel_rfl⟩
def d_walks : FDat := ⟨"walks", L2.defArgs (top 28), L2.defBody (top 28), L2.defScope (top 28), ((["web", "a", "b", "many"] : List Str)), n_walks, []⟩
theorem tr_walks : trSs (d_walks.ctx gl) 60 d_walks.body = some b_walks := by kernel_rfl
theorem q_walks : DefQ gl P 17 d_walks := ⟨fun _ _ _ _ _ _ us hl => match us, hl with | [_, _, _, _], _ => rfl, ⟨rfl, rfl, rfl, by decide +kernel, rfl, by decide +kernel, by decide +kernel⟩, ⟨60, b_walks, tr_walks, rfl⟩, by kernel_rfl⟩
def d_closed_walks : FDat := ⟨"closed_walks", L2.defArgs (top 29), L2.defBody (top 29), L2.defScope (top 29), ((["web", "many"] : List Str)), n_closed_walks, []⟩
theorem tr_closed_walks : trSs (d_closed_walks.ctx gl) 60 d_closed_walks.body = some b_closed_walks := by kernel_rfl
theorem q_closed_walks : DefQ gl P 18 d_closed_walks := ⟨fun _ _ _ _ _ _ us hl => match us, hl with | [_, _], _ => rfl, ⟨rfl, rfl, rfl, by decide +kernel, rfl, by decide +kernel, by decide +kernel⟩, ⟨60, b_closed_walks, tr_closed_walks, rfl⟩, by kernel_rfl⟩
def d_all_rings : FDat := ⟨"all_rings", L2.defArgs (top 31), L2.defBody (top 31), L2.defScope (top 31), ((["web"] : List Str)), n_all_rings, [2, 1]⟩
theorem tr_all_rings : trSs (d_all_rings.ctx gl) 60 d_all_rings.body = some b_all_rings := by kernel_rfl
theorem q_all_rings : DefQ gl P 19 d_all_rings := ⟨fun _ _ _ _ _ _ us hl => match us, hl with | [_], _ => rfl, ⟨rfl, rfl, rfl, by decide +kernel, rfl, by decide +kernel, by decide +kernel⟩, ⟨60, b_all_rings, tr_all_rings, rfl⟩, by kernel_rfl⟩
def d_rings : FDat := ⟨"rings", L2.defArgs (top 32), L2.defBody (top 32), L2.defScope (top 32), ((["web"] : List Str)), n_rings, []⟩
theorem tr_rings : trSs (d_rings.ctx gl) 60 d_rings.body = some b_rings := by kernel_rfl
theorem q_rings : DefQ gl P 20 d_rings := ⟨fun _ _ _ _ _ _ us hl => match us, hl with | [_], _ => rfl, ⟨rfl, rfl, rfl, by decide +kernel, rfl, by decide +kernel, by decide +kernel⟩, ⟨60, b_rings, tr_rings, rfl⟩, by kernel_rfl⟩
def d__law_hand : FDat := ⟨"_law_hand", L2.defArgs (top 34), L2.defBody (top 34), L2.defScope (top 34), ((["script"] : List Str)), n__law_hand, []⟩
theorem tr__law_hand : trSs (d__law_hand.ctx gl) 60 d__law_hand.body = some b__law_hand := by kernel_rfl
theorem q__law_hand : DefQ gl P 21 d__law_hand := ⟨fun _ _ _ _ _ _ us hl => match us, hl with | [_], _ => rfl, ⟨rfl, rfl, rfl, by decide +kernel, rfl, by decide +kernel, by decide +kernel⟩, ⟨60, b__law_hand, tr__law_hand, rfl⟩, by kernel_rfl⟩
def d__law_draw : FDat := ⟨"_law_draw", L2.defArgs (top 35), L2.defBody (top 35), L2.defScope (top 35), ((["hand", "sides"] : List Str)), n__law_draw, []⟩
theorem tr__law_draw : trSs (d__law_draw.ctx gl) 60 d__law_draw.body = some b__law_draw := by kernel_rfl
theorem q__law_draw : DefQ gl P 22 d__law_draw := ⟨fun _ _ _ _ _ _ us hl => match us, hl with | [_, _], _ => rfl, ⟨rfl, rfl, rfl, by decide +kernel, rfl, by decide +kernel, by decide +kernel⟩, ⟨60, b__law_draw, tr__law_draw, rfl⟩, by kernel_rfl⟩
def d__law_some : FDat := ⟨"_law_some", L2.defArgs (top 36), L2.defBody (top 36), L2.defScope (top 36), ((["hand", "things"] : List Str)), n__law_some, []⟩
theorem tr__law_some : trSs (d__law_some.ctx gl) 60 d__law_some.body = some b__law_some := by kernel_rfl
theorem q__law_some : DefQ gl P 23 d__law_some := ⟨fun _ _ _ _ _ _ us hl => match us, hl with | [_, _], _ => rfl, ⟨rfl, rfl, rfl, by decide +kernel, rfl, by decide +kernel, by decide +kernel⟩, ⟨60, b__law_some, tr__law_some, rfl⟩, by kernel_rfl⟩
def d__law_is : FDat := ⟨"_law_is", L2.defArgs (top 37), L2.defBody (top 37), L2.defScope (top 37), ((["one", "other"] : List Str)), n__law_is, []⟩
theorem tr__law_is : trSs (d__law_is.ctx gl) 60 d__law_is.body = some b__law_is := by kernel_rfl
theorem q__law_is : DefQ gl P 24 d__law_is := ⟨fun _ _ _ _ _ _ us hl => match us, hl with | [_, _], _ => rfl, ⟨rfl, rfl, rfl, by decide +kernel, rfl, by decide +kernel, by decide +kernel⟩, ⟨60, b__law_is, tr__law_is, rfl⟩, by kernel_rfl⟩
def d__law_lines : FDat := ⟨"_law_lines", L2.defArgs (top 38), L2.defBody (top 38), L2.defScope (top 38), ((["hand", "corners"] : List Str)), n__law_lines, [3]⟩
theorem tr__law_lines : trSs (d__law_lines.ctx gl) 60 d__law_lines.body = some b__law_lines := by kernel_rfl
theorem q__law_lines : DefQ gl P 25 d__law_lines := ⟨fun _ _ _ _ _ _ us hl => match us, hl with | [_, _], _ => rfl, ⟨rfl, rfl, rfl, by decide +kernel, rfl, by decide +kernel, by decide +kernel⟩, ⟨60, b__law_lines, tr__law_lines, rfl⟩, by kernel_rfl⟩
def d__law_near : FDat := ⟨"_law_near", L2.defArgs (top 39), L2.defBody (top 39), L2.defScope (top 39), ((["lines", "a"] : List Str)), n__law_near, []⟩
theorem tr__law_near : trSs (d__law_near.ctx gl) 60 d__law_near.body = some b__law_near := by kernel_rfl
theorem q__law_near : DefQ gl P 26 d__law_near := ⟨fun _ _ _ _ _ _ us hl => match us, hl with | [_, _], _ => rfl, ⟨rfl, rfl, rfl, by decide +kernel, rfl, by decide +kernel, by decide +kernel⟩, ⟨60, b__law_near, tr__law_near, rfl⟩, by kernel_rfl⟩
def d__law_has : FDat := ⟨"_law_has", L2.defArgs (top 40), L2.defBody (top 40), L2.defScope (top 40), ((["lines", "a", "b"] : List Str)), n__law_has, []⟩
theorem tr__law_has : trSs (d__law_has.ctx gl) 60 d__law_has.body = some b__law_has := by kernel_rfl
theorem q__law_has : DefQ gl P 27 d__law_has := ⟨fun _ _ _ _ _ _ us hl => match us, hl with | [_, _, _], _ => rfl, ⟨rfl, rfl, rfl, by decide +kernel, rfl, by decide +kernel, by decide +kernel⟩, ⟨60, b__law_has, tr__law_has, rfl⟩, by kernel_rfl⟩
def d__law_on : FDat := ⟨"_law_on", L2.defArgs (top 41), L2.defBody (top 41), L2.defScope (top 41), ((["lines", "counts"] : List Str)), n__law_on, []⟩
theorem tr__law_on : trSs (d__law_on.ctx gl) 60 d__law_on.body = some b__law_on := by kernel_rfl
theorem q__law_on : DefQ gl P 28 d__law_on := ⟨fun _ _ _ _ _ _ us hl => match us, hl with | [_, _], _ => rfl, ⟨rfl, rfl, rfl, by decide +kernel, rfl, by decide +kernel, by decide +kernel⟩, ⟨60, b__law_on, tr__law_on, rfl⟩, by kernel_rfl⟩
def d_law : FDat := ⟨"law", L2.defArgs (top 42), L2.defBody (top 42), L2.defScope (top 42), ((["script"] : List Str)), n_law, [6]⟩
theorem tr_law : trSs (d_law.ctx gl) 60 d_law.body = some b_law := by kernel_rfl
theorem q_law : DefQ gl P 29 d_law := ⟨fun _ _ _ _ _ _ us hl => match us, hl with | [_], _ => rfl, ⟨rfl, rfl, rfl, by decide +kernel, rfl, by decide +kernel, by decide +kernel⟩, ⟨60, b_law, tr_law, rfl⟩, by kernel_rfl⟩
def fns : List FDat := (([d_is_integer, d_is_within, d_is_number, d_is_tuple, d_is_count, d_is_line, d_are_lines, d_has_line, d_near_of, d_is_corner, d_check_corner, d_check_number, d_near, d_degrees_of, d_degrees, d_steps_by, d_walks_from, d_walks, d_closed_walks, d_all_rings, d_rings, d__law_hand, d__law_draw, d__law_some, d__law_is, d__law_lines, d__law_near, d__law_has, d__law_on, d_law] : List FDat))
theorem q_all : AllI (DefQ gl P) 0 fns := ⟨q_is_integer, q_is_within, q_is_number, q_is_tuple, q_is_count, q_is_line, q_are_lines, q_has_line, q_near_of, q_is_corner, q_check_corner, q_check_number, q_near, q_degrees_of, q_degrees, q_steps_by, q_walks_from, q_walks, q_closed_walks, q_all_rings, q_rings, q__law_hand, q__law_draw, q__law_some, q__law_is, q__law_lines, q__law_near, q__law_has, q__law_on, q_law, trivial⟩
def inWeb (j : Nat) : Stmt := L2.inClass (top 15) j
def mD (j : Nat) (m q : Str) : He.DefD := ⟨("Web", some m), m, q, L2.defArgs (inWeb j), L2.defBody (inWeb j), L2.defScope (inWeb j), [], []⟩
def fn2 : List He.DefD := [mD 0 "__init__" "Web.__init__", mD 2 "there" "Web.there", mD 1 "__eq__" "Web.__eq__"]
theorem gl_ok : (gl.all fun p => match p.2 with
      | .fn f _ => decide ((fns[f]?).map (·.name) = some p.1)
      | .web => decide (p.1 = "Web")
      | _ => true) = true := by kernel_rfl
def iC : Nat := 4
def iL : Nat := 6
def iLaw : Nat := 29
def m1 : E := .not (.call 4 (.cons (.var 1) .nil))
def m2 : E := .not (.call 6 (.cons (.var 1) (.cons (.var 2) .nil)))
theorem tr_init : initTr ⟨N3, L2.defScope (inWeb 0), true, gl, []⟩ (L2.defBody (inWeb 0)) = some (m1, m2) := by kernel_rfl
theorem tr_there : thereTr ⟨NT, L2.defScope (inWeb 2), true, gl, []⟩ (L2.defBody (inWeb 2)) = some lcE := by kernel_rfl
theorem sc_init : L2.FnScope N3 N3 (L2.defScope (inWeb 0)) := ⟨rfl, rfl, rfl, by decide +kernel, rfl, by decide +kernel, by decide +kernel⟩
theorem sc_there : L2.FnScope NT ["self"] (L2.defScope (inWeb 2)) := ⟨rfl, rfl, rfl, by decide +kernel, rfl, by decide +kernel, by decide +kernel⟩
/-- what the tests of __init__ answer -/
def InitSays : Prop := (∀ n ls h, webOk n ls = true → ∃ o, ev (den P 7) m1 (z3 n ls h) = some (z3 n ls h, o, .bl false)) ∧ ∀ n ls h, webOk n ls = true → ∃ o, ev (den P 7) m2 (z3 n ls h) = some (z3 n ls h, o, .bl false)
theorem prog_of (hI : InitSays) {Pr : PySem.Program} {w : PySem.World} {K : PySem.W.Frag} {mg : Str → Option PySem.Value} {base : PySem.Heap} (KB : K.In base) (G : base.Ns PySem.mainGlobals mg)
    (c : obsX (gl.map faOf ++ faX) (fns.map FDat.defD ++ fn2) K = (true, He.valD (fns.map FDat.defD ++ fn2))) : Prog Pr w K mg base (Tof K) gl P fns := by
  have p0 : Prog0 Pr w K mg base (Tof K) gl P fns := prog0_of KB G c q_all (by kernel_rfl) (by decide +kernel) gl_ok
  obtain ⟨_, cs⟩ := says_parts c
  have xf : ∀ {f : He.Fa}, f ∈ faX → f.ok K = true := fun {f} h => fact_mem cs (List.mem_append_right _ h)
  obtain ⟨fd1, F1⟩ := cs.def_ (fns.length + 0) (d := mD 0 "__init__" "Web.__init__") rfl
  obtain ⟨fd2, F2⟩ := cs.def_ (fns.length + 1) (d := mD 2 "there" "Web.there") rfl
  have io : InitOk K (Tof K) gl P (He.ma K (He.ga K "Web") "__init__") fd1 (L2.defArgs (inWeb 0)) (L2.defBody (inWeb 0)) (L2.defScope (inWeb 0)) m1 m2 :=
    ⟨He.mkr_ok (xf (by simp [faX])), F1, fun _ _ _ _ _ _ us hl => match us, hl with | [_, _, _], _ => rfl, sc_init, tr_init, hI.1, hI.2⟩
  have to : ThereOk K (Tof K) gl (He.ma K (He.ga K "Web") "there") fd2 (L2.defArgs (inWeb 2)) (L2.defBody (inWeb 2)) (L2.defScope (inWeb 2)) :=
    ⟨He.meth_ok (xf (by simp [faX])), F2, fun _ _ _ _ _ _ us hl => match us, hl with | [_], _ => rfl, sc_there, tr_there⟩
  exact ⟨p0, fun kj => web_rule p0 io kj, there_rule p0 to⟩
theorem init_says : InitSays := init_tests (P := P) (iI := 0) (iW := 1) (iT := 3) (iC := 4) (iL := 5) (iLs := 6) rfl (by decide) rfl (by decide) rfl (by decide) rfl (by decide) rfl (by decide) rfl (by decide)
end BV

namespace BV
theorem law_says (ns : List Int) (hl : ns.length ≤ 63) (hb : ∀ z ∈ ns, PySem.Builtin.Int.intBits z ≤ 1048576) : ∃ h', den P 40 iLaw [(false, .scr ns)] none = some (h', false, .bl true) := by
  have sInt : SInteger P 0 := s_integer rfl (by decide)
  have sWi : SWithin P 1 := s_within rfl (by decide) sInt
  have sNu : SNumber P 2 := s_number rfl (by decide) sInt
  have sHas : SHas P 7 := s_has rfl (by decide)
  have sNear : SNear P 8 := s_near rfl (by decide) sHas
  have sIC : SIsCorner P 9 := s_isCorner rfl (by decide) sWi
  have sCC : SChkCorner P 10 := s_chkCorner rfl (by decide) sIC
  have sCN : SChkNumber P 11 := s_chkNumber rfl (by decide) sNu
  have sNT : SNearT P 12 := s_nearT rfl (by decide) sCC sNear
  have sDg : SDegs P 13 := s_degs rfl (by decide) sNear
  have sDT : SDegsT P 14 := s_degsT rfl (by decide) sDg
  have sSt : SSteps P 15 := s_steps rfl (by decide) sNear
  have sWF : SWalksFrom P 16 := s_walksFrom rfl (by decide) sSt
  have sW : SWalks P 17 := s_walks rfl (by decide) sCC sCN sWF
  have sCl : SClosed P 18 := s_closed rfl (by decide) sCN sWF
  have sAR : SAllRings P 19 := s_allRings rfl (by decide) sHas sNear
  have sR : SRings P 20 := s_rings rfl (by decide) sAR
  have sA : SHand P 21 := s_hand (a := 353) (b := 73) (by decide) rfl (by decide)
  have sD : SDraw P 22 := s_draw (k := dk (mixA 29)) mixA_ok rfl (by decide)
  have sS : SSome P 23 := s_some rfl (by decide) sD
  have sI : SIsInt P 24 := s_isInt rfl (by decide)
  have sL : SLines P 25 := s_lines1 (j := 4) (k := 5) (by decide) (by decide) rfl (by decide) sD
  have sLN : SLNear P 26 := s_lnear rfl (by decide)
  have sLH : SLHas P 27 := s_lhas rfl (by decide)
  have sO : SLOn P 28 := s_lon rfl (by decide) sLN
  exact w_law (i := 29) rfl (by decide) sA sD sL sS sO sW sI sCl sLH sDT sNT sR ns hl
end BV

namespace BV
open PySem PySem.Spec PyProof.Rows L2
def dn : List He.DefD := fns.map FDat.defD ++ fn2
def fa : List He.Fa := gl.map faOf ++ faX
def loose : List PySem.Str := ((["is_integer", "is_within", "is_number", "is_tuple", "WebError", "BadWeb", "NoCorner", "NoNumber", "MOST_CORNERS", "is_count", "is_line", "are_lines", "Web", "has_line", "near_of", "is_corner", "check_corner", "check_number", "near", "degrees_of", "degrees", "MOST_LINES", "steps_by", "walks_from", "walks", "closed_walks", "all_rings", "rings", "_law_hand", "_law_draw"] : List PySem.Str) ++ (["_law_some", "_law_is", "_law_lines", "_law_near", "_law_has", "_law_on"] : List PySem.Str))
abbrev R : PySem.W.OpenRow := PySem.W.OpenLaw.row PySem.Challenge.rw_cornerwebs_k50_whole_walks
abbrev hk : PySem.W.Hook := hookX 5 fa dn
def ob (s : PySem.W.SharedT) : Bool × He.AlD := obsXG 5 fa dn (HandSHeadRun.getT s)
theorem ob_eq (s : PySem.W.SharedT) : ob s = hk.obs s.abs := obsXG_eq (HandSHeadRun.getT_eq s)
theorem run (w : World) : HandSHeadRun.RunEq R (PySem.W.view R.prog [42]) hk ob 3000 loose w := by
  intro os
  kernel_rfl
end BV
open PySem PySem.W PySem.Calls PyProof.Rows
theorem PySem.Challenge.cw_cornerwebs_k50_whole_walks_holds : PySem.Challenge.rw_cornerwebs_k50_whole_walks.Holds := by
  w_on; o_law
  refine HandSHeadRun.head_any (r := OpenLaw.row PySem.Challenge.rw_cornerwebs_k50_whole_walks) (q := view (OpenLaw.row PySem.Challenge.rw_cornerwebs_k50_whole_walks).prog [42]) (H := BV.hk) (ob := BV.ob) (M := 3000) (loose := BV.loose) (d := HandSHeadRun.topDef (OpenLaw.row PySem.Challenge.rw_cornerwebs_k50_whole_walks).prog 42) (kwd := []) BV.ob_eq
    (by kernel_rfl) (fun s => by kernel_rfl) BV.run (by kernel_rfl) (by kernel_rfl) (by kernel_rfl) (by rfl) (by first | assumption | decide +kernel) (by decide +kernel) ⟨rfl, rfl, rfl, rfl, rfl, by decide +kernel⟩ ?hw ?hc
  case hw => w_witness2
  case hc =>
    refine BV.walk_end (l := PySem.Challenge.rw_cornerwebs_k50_whole_walks) (n := 63) (k := 40 + BV.lev) (x := "script") rfl (by decide) (by kernel_rfl) ⟨rfl, by decide, by decide⟩ ?F
    intro w mg fa h Y G hmg0
    obtain ⟨K, KX, c⟩ := Y
    have hmg : mg ("law" : PySem.Str) = some (.ref fa) := by
      have e : (HandSHeadRun.topDef (OpenLaw.row PySem.Challenge.rw_cornerwebs_k50_whole_walks).prog 42).name = ("law" : PySem.Str) := by kernel_rfl
      rw [← e]
      exact hmg0
    have pr0 := BV.prog_of (Pr := (PySem.Challenge.rw_cornerwebs_k50_whole_walks).prog) (w := w) BV.init_says KX G c
    obtain ⟨f0, fd, FF, hm⟩ := pr0.fact BV.iLaw BV.d_law rfl
    have e := hmg.symm.trans hm
    cases e
    refine ⟨K, fd, BV.spD (BV.Tof K) (BV.den BV.P 40) BV.iLaw, KX, fun s u => FF.bindsA (ps := ["script"]) BV.q_law.bnd s [u] rfl, fun H a ns hl hb hO hS => BV.end_sp hO hS (BV.law_says ns hl hb), fun base KB GB => ?_⟩
    have pr := BV.prog_of (Pr := (PySem.Challenge.rw_cornerwebs_k50_whole_walks).prog) (w := w) BV.init_says KB GB c
    exact BV.kept_all pr 40 40 (Nat.le_refl _) BV.iLaw BV.d_law _ fd rfl FF

