import PyProof.Rows.All
import PySem.Challenge.RW_leftspread_k29_main_two_numbers_are_one
import HandS.ForMost
import HandS.Text
import HandS.Exc
import HandS.Walk
import HandS.TupAny
import HandS.Deep
import HandS.Flow
import HandS.Style
import HandS.Wide
import HandS.List
import HandS.IsInst
import HandS.ExcOwn
import HandS.TryOnly
import HandS.Zip
import HandS.Words
import HandS.Conv
import HandS.Defaults
import HandS.HeadHook2
import HandS.Head0
import HandS.Head1
import HandS.Head2
import HandS.HeadEnd
import HandS.HeadHook1
set_option Elab.async false
set_option linter.all false
set_option maxRecDepth 100000
set_option maxHeartbeats 0
-- PvEval
set_option maxRecDepth 100000
namespace Pv
open PySem L2

abbrev PV := PyData

/-- what a name may hold: a value that never changes; a list of one's own that nothing else holds; a def by its number -/
inductive Ob where
  | v (d : PV) | ml (xs : List PV) | fn (f : Nat)
  deriving Inhabited
def Ob.mut : Ob → Bool
  | .ml _ => true
  | _ => false
/-- what may be read of it -/
def Ob.view : Ob → Option PV
  | .v d => some d
  | .ml xs => some (.list xs)
  | .fn _ => none
def Ob.frozen : Ob → Ob
  | .ml xs => .v (.list xs)
  | o => o

abbrev En := List (Option Ob)

inductive Rs (α : Type) where
  | ok (a : α) (e : En) | ex (c : Nat) (as : List PV) (e : En) | no
def Rs.bind {α β : Type} (r : Rs α) (k : α → En → Rs β) : Rs β := match r with
  | .ok a e => k a e
  | .ex c as e => .ex c as e
  | .no => .no
@[simp] theorem Rs.bind_ok {α β : Type} (a : α) (e : En) (k : α → En → Rs β) : (Rs.ok a e).bind k = k a e := rfl
@[simp] theorem Rs.bind_ex {α β : Type} (c : Nat) (as : List PV) (e : En) (k : α → En → Rs β) : (Rs.ex (α := α) c as e).bind k = .ex c as e := rfl
@[simp] theorem Rs.bind_no {α β : Type} (k : α → En → Rs β) : (Rs.no (α := α)).bind k = .no := rfl
def optR {α : Type} (o : Option α) (e : En) : Rs α := match o with
  | some a => .ok a e
  | none => .no
@[simp] theorem optR_some {α : Type} (a : α) (e : En) : optR (some a) e = .ok a e := rfl
@[simp] theorem optR_none {α : Type} (e : En) : optR (none : Option α) e = .no := rfl

/-- how a call ends: the value and what the changed arguments became; an error -/
inductive CR where
  | ret (o : Ob) (outs : List Ob) | exc (c : Nat) (as : List PV) | no

inductive Op where
  | add | sub | mul | fdiv | mod | pow | shl | neg
  | eq | ne | lt | le | gt | ge | isN | notN | isin | notin
  | idx | slice (lo hi : Bool) | rev
  | len | abs | int | tuple | list | bool
  | isList | isTuple | isSeq | isInt | isBool | isStr | isBoolStr
  | all | any | sum | min1 | max1 | min2 | max2
  | lindex | lcount
  | listR | tupR | str
  deriving DecidableEq

/-- methods that leave all as it is -/
inductive Mt where
  | lindex | split | words | join | scount
  deriving DecidableEq
mutual
inductive IE where
  | c (d : PV) | x (i : Nat) | f (n : Nat)
  | tup (es : IEs) | lst (es : IEs)
  | op (o : Op) (es : IEs)
  | and (a b : IE) | or (a b : IE) | not (a : IE) | ite (c a b : IE)
  | chain (o1 o2 : Op) (a b c : IE)
  | sl2 (a : IEs) (lo hi : IE)
  | meth (m : Mt) (a : IEs) (es : IEs)
  | call (f : Nat) (es : IEs) | callk (f : Nat) (perm : List Nat) (es : IEs)
  | callx (i : Nat) (es : IEs)
  | pop (i : Nat)
  | lc (own : List Nat) (tg : List Nat ⊕ Nat) (it : IT) (cond : IEs) (elt : IE)
inductive IEs where
  | nil | cons (io : Bool) (e : IE) (es : IEs)
inductive IT where
  | seq (e : IE) | enum (e : IE) | zip (a b : IE) | range (es : IEs)
end
def IE.isX : IE → Option Nat
  | .x i => some i
  | _ => none

def lim : Nat := sizeLine

def truth : PV → Option Bool
  | .none => some false
  | .bool b => some b
  | .int i => some (i != 0)
  | .str s => if s.length ≤ lim then some (s.length != 0) else none
  | .list xs => some (!xs.isEmpty)
  | .tuple xs => some (!xs.isEmpty)
  | .dict _ => none

def small (i : Int) : Bool := decide (-(2 ^ 64) < i) && decide (i < 2 ^ 64)
def isD : PV → Bool
  | .dict _ => true
  | _ => false
def eqOk (a b : PV) : Bool := (!isD a && !isD b) && (decide (a.depth ≤ 150) || decide (b.depth ≤ 150))
def bInt : PV → Option Int
  | .int i => some i
  | _ => none
def bBool : PV → Option Bool
  | .bool i => some i
  | _ => none
def bInts : List PV → Option (List Int)
  | [] => some []
  | .int i :: r => (bInts r).map (i :: ·)
  | _ :: _ => none
def bBools : List PV → Option (List Bool)
  | [] => some []
  | .bool i :: r => (bBools r).map (i :: ·)
  | _ :: _ => none
def lastMax : Int → List Int → Int
  | m, [] => m
  | m, i :: r => lastMax (if i > m then i else m) r
def lastMin : Int → List Int → Int
  | m, [] => m
  | m, i :: r => lastMin (if i < m then i else m) r
def firstAt (d : PV) : List PV → Option Nat
  | [] => none
  | z :: r => if PyData.eqv z d then some 0 else (firstAt d r).map (· + 1)
def cutP (xs : List PV) (lo hi : Option Int) : List PV := (xs.drop (HT.sIx xs.length 0 lo)).take (HT.sIx xs.length xs.length hi - HT.sIx xs.length 0 lo)
def vI (i : Int) : Option Ob := some (.v (.int i))
def vB (b : Bool) : Option Ob := some (.v (.bool b))

def isD' : PV → Bool := isD
def eqf (a b : PV) : Option Bool := if eqOk a b then some (PyData.eqv a b) else none
def nef (a b : PV) : Option Bool := if eqOk a b then some (!PyData.eqv a b) else none
def ltf : PV → PV → Option Bool
  | .int i, .int j => some (decide (i < j))
  | _, _ => none
def lef : PV → PV → Option Bool
  | .int i, .int j => some (decide (i ≤ j))
  | _, _ => none
def gtf : PV → PV → Option Bool
  | .int i, .int j => some (decide (j < i))
  | _, _ => none
def gef : PV → PV → Option Bool
  | .int i, .int j => some (decide (j ≤ i))
  | _, _ => none
def isNone : PV → Bool
  | .none => true
  | _ => false
def isNf (a : PV) : PV → Option Bool
  | .none => some (isNone a)
  | _ => none
def notNf (a : PV) : PV → Option Bool
  | .none => some (!isNone a)
  | _ => none
def mem (a : PV) (ds : List PV) : Bool := ds.any fun z => PyData.eqv z a
def inf (a : PV) : PV → Option Bool
  | .list ds => if !isD a && decide (a.depth ≤ 150) then some (mem a ds) else none
  | .tuple ds => if !isD a && decide (a.depth ≤ 150) then some (mem a ds) else none
  | .str b => (match a with
    | .str a => some (!(Builtin.Str.occurrences b a 0 b.length 1).isEmpty)
    | _ => none)
  | _ => none
/-- a two-place comparison of views -/
def cmpf : Op → PV → PV → Option Bool
  | .eq, a, b => eqf a b
  | .ne, a, b => nef a b
  | .lt, a, b => ltf a b
  | .le, a, b => lef a b
  | .gt, a, b => gtf a b
  | .ge, a, b => gef a b
  | .isN, a, b => isNf a b
  | .notN, a, b => notNf a b
  | .isin, a, b => inf a b
  | .notin, a, b => (inf a b).map (!·)
  | _, _, _ => none
def isK : PV → Option Unit
  | .dict _ => none
  | _ => some ()
def isListV : PV → Bool
  | .list _ => true
  | _ => false
def isTupV : PV → Bool
  | .tuple _ => true
  | _ => false
def isSeqV (d : PV) : Bool := isListV d || isTupV d
def isIntV : PV → Bool
  | .int _ => true
  | .bool _ => true
  | _ => false
def isBoolV : PV → Bool
  | .bool _ => true
  | _ => false
def isStrV : PV → Bool
  | .str _ => true
  | _ => false
def kindf (p : PV → Bool) (d : PV) : Option Ob := if isD d then none else vB (p d)
def addf : PV → PV → Option Ob
  | .int i, .int j => vI (i + j)
  | .str i, .str j => if i.length + j.length ≤ lim then some (.v (.str (i ++ j))) else none
  | .list xs, .list ys => if xs.length + ys.length ≤ lim then some (.ml (xs ++ ys)) else none
  | .tuple xs, .tuple ys => if xs.length + ys.length ≤ lim then some (.v (.tuple (xs ++ ys))) else none
  | _, _ => none
def subf : PV → PV → Option Ob
  | .int i, .int j => vI (i - j)
  | _, _ => none
def mulf : PV → PV → Option Ob
  | .int i, .int j => if small i || small j then vI (i * j) else none
  | .list xs, .int k => if (decide (-(2 ^ 63) ≤ k) && decide (k < 2 ^ 63)) && decide (xs.length * k.toNat ≤ lim) then some (.ml (List.replicate k.toNat xs).flatten) else none
  | _, _ => none
def fdivf : PV → PV → Option Ob
  | .int i, .int j => if decide (0 < j) && decide (j.natAbs.log2 < 9000) then vI (i / j) else none
  | _, _ => none
def modf : PV → PV → Option Ob
  | .int i, .int j => if 0 < j then vI (i % j) else none
  | _, _ => none
def powOk (i j : Int) : Bool := (decide (0 ≤ j) && decide (j ≤ 1000000)) && decide (i.natAbs < 2 ^ 64)
def powf : PV → PV → Option Ob
  | .int i, .int j => if powOk i j then vI (i ^ j.toNat) else none
  | _, _ => none
def shlf : PV → PV → Option Ob
  | .int i, .int j => if powOk i j then vI (i * 2 ^ j.toNat) else none
  | _, _ => none
def negf : PV → Option Ob
  | .int i => vI (-i)
  | _ => none
def idxf : PV → PV → Option Ob
  | .list xs, .int i => (atI xs i).map .v
  | .tuple xs, .int i => (atI xs i).map .v
  | .str z, .int i => if z.length ≤ lim then (atI z.cps.toList i).map fun c => .v (.str ⟨#[c]⟩) else none
  | _, _ => none
def slicef (d : PV) (lo hi : Option Int) : Option Ob := match d with
  | .list xs => some (.ml (cutP xs lo hi))
  | .tuple xs => some (.v (.tuple (cutP xs lo hi)))
  | .dict [(.none, .list xs)] => some (.ml (cutP xs lo hi))
  | _ => none
def revf : PV → Option Ob
  | .list xs => some (.ml xs.reverse)
  | .tuple xs => some (.v (.tuple xs.reverse))
  | _ => none
def lenf : PV → Option Ob
  | .list xs => vI xs.length
  | .tuple xs => vI xs.length
  | .str z => if z.length ≤ lim then vI z.length else none
  | _ => none
def absf : PV → Option Ob
  | .int i => vI (if i < 0 then -i else i)
  | _ => none
def intf : PV → Option Ob
  | .int i => vI i
  | .bool b => vI (if b then 1 else 0)
  | _ => none
def boolf : PV → Option Ob
  | .int i => vB (i != 0)
  | .bool b => vB b
  | _ => none
def tuplef : PV → Option Ob
  | .list xs => some (.v (.tuple xs))
  | .tuple xs => some (.v (.tuple xs))
  | _ => none
def listf : PV → Option Ob
  | .list xs => some (.ml xs)
  | .tuple xs => some (.ml xs)
  | _ => none
def allf : PV → Option Ob
  | .list xs => (bBools xs).bind fun bs => vB (bs.all id)
  | _ => none
def anyf : PV → Option Ob
  | .list xs => (bBools xs).bind fun bs => vB (bs.any id)
  | _ => none
def sumf : PV → Option Ob
  | .list xs => (bInts xs).bind fun ns => vI ns.sum
  | _ => none
def max1f : PV → Option Ob
  | .list xs => (match bInts xs with
    | some (n :: ns) => vI (lastMax n ns)
    | _ => none)
  | _ => none
def min1f : PV → Option Ob
  | .list xs => (match bInts xs with
    | some (n :: ns) => vI (lastMin n ns)
    | _ => none)
  | _ => none
def max2f : PV → PV → Option Ob
  | .int i, .int j => vI (if j > i then j else i)
  | _, _ => none
def min2f : PV → PV → Option Ob
  | .int i, .int j => vI (if j < i then j else i)
  | _, _ => none
def lindexf : PV → PV → Option Ob
  | .list xs, d => if !isD d && (decide (d.depth ≤ 60) && decide (PyData.depthAll xs ≤ 60)) then (firstAt d xs).map fun (j : Nat) => Ob.v (.int (j : Int)) else none
  | _, _ => none
def rgOk (a b : Int) : Bool := (decide (-(2 ^ 62) ≤ a) && decide (a < 2 ^ 62)) && ((decide (-(2 ^ 62) ≤ b) && decide (b < 2 ^ 62)) && decide ((b - a).toNat ≤ 2 ^ 24))
def rgP (a b : Int) : List PV := (List.range (b - a).toNat).map fun (i : Nat) => .int (a + (i : Int))
def listRf : PV → PV → Option Ob
  | .int a, .int b => if rgOk a b then some (.ml (rgP a b)) else none
  | _, _ => none
def tupRf : PV → PV → Option Ob
  | .int a, .int b => if rgOk a b then some (.v (.tuple (rgP a b))) else none
  | _, _ => none
def strf : PV → Option Ob
  | .int i => if decide (i.natAbs.log2 < 1920) && PyData.strOk (toString i) then some (.v (.str (toString i))) else none
  | _ => none
def opf1 : Op → PV → Option Ob
  | .neg, d => negf d
  | .slice false false, d => slicef d none none
  | .rev, d => revf d
  | .len, d => lenf d
  | .abs, d => absf d
  | .int, d => intf d
  | .bool, d => boolf d
  | .tuple, d => tuplef d
  | .list, d => listf d
  | .isList, d => kindf isListV d
  | .isTuple, d => kindf isTupV d
  | .isSeq, d => kindf isSeqV d
  | .isInt, d => kindf isIntV d
  | .isBool, d => kindf isBoolV d
  | .isStr, d => kindf isStrV d
  | .isBoolStr, d => kindf (fun d => isBoolV d || isStrV d) d
  | .all, d => allf d
  | .any, d => anyf d
  | .sum, d => sumf d
  | .max1, d => max1f d
  | .min1, d => min1f d
  | .listR, d => listRf (.int 0) d
  | .tupR, d => tupRf (.int 0) d
  | .str, d => strf d
  | _, _ => none
def opf2 : Op → PV → PV → Option Ob
  | .add, a, b => addf a b
  | .sub, a, b => subf a b
  | .mul, a, b => mulf a b
  | .fdiv, a, b => fdivf a b
  | .mod, a, b => modf a b
  | .pow, a, b => powf a b
  | .shl, a, b => shlf a b
  | .idx, a, b => idxf a b
  | .slice true false, d, a => (bInt a).bind fun a => slicef d (some a) none
  | .slice false true, d, b => (bInt b).bind fun b => slicef d none (some b)
  | .max2, a, b => max2f a b
  | .min2, a, b => min2f a b
  | .lindex, a, b => lindexf a b
  | .listR, a, b => listRf a b
  | .tupR, a, b => tupRf a b
  | o, a, b => (cmpf o a b).map fun k => .v (.bool k)
def opf3 : Op → PV → PV → PV → Option Ob
  | .slice true true, d, a, b => (bInt a).bind fun a => (bInt b).bind fun b => slicef d (some a) (some b)
  | _, _, _, _ => none
def strsOf : List PV → Option (List Str)
  | [] => some []
  | .str s :: r => (strsOf r).map (s :: ·)
  | _ :: _ => none
def seqOf : PV → Option (List PV)
  | .list xs => some xs
  | .tuple xs => some xs
  | _ => none
def newStrs (ys : List Str) : Option Ob := if ys.all PyData.strOk then some (.ml (ys.map .str)) else none
def methK : Mt → PV → Bool
  | .lindex, d => isListV d
  | _, d => isStrV d
def splitf : PV → PV → Option Ob
  | .str a, .str b => if !(b.length == 0) && decide (a.length + 2 ≤ lim) then newStrs (Txt.split a b) else none
  | _, _ => none
def wordsf : PV → Option Ob
  | .str a => if a.length + 2 ≤ lim then newStrs (Txt.words a) else none
  | _ => none
def joinf : PV → PV → Option Ob
  | .str a, d => (seqOf d).bind fun xs => (strsOf xs).bind fun ys => if decide ((ys.map (·.length)).sum + ys.length * a.length ≤ 16777216) && PyData.strOk (Txt.join a ys) then some (.v (.str (Txt.join a ys))) else none
  | _, _ => none
def scountf : PV → PV → Option Ob
  | .str a, .str b => vI (Txt.count a b)
  | _, _ => none
def methF (m : Mt) (d : PV) : List PV → Option Ob
  | [] => (match m with
    | .words => wordsf d
    | _ => none)
  | [e] => (match m with
    | .lindex => lindexf d e
    | .split => splitf d e
    | .join => joinf d e
    | .scount => scountf d e
    | .words => none)
  | _ => none
def opf (o : Op) : List PV → Option Ob
  | [a] => opf1 o a
  | [a, b] => opf2 o a b
  | [a, b, c] => opf3 o a b c
  | _ => none

def views : List Ob → Option (List PV)
  | [] => some []
  | o :: r => match o.view, views r with
    | some d, some ds => some (d :: ds)
    | _, _ => none

/-- an argument: a name (looked at when all are known), or what has come -/
abbrev Ag := Nat ⊕ Ob
def resolve (env : En) : List Ag → Option (List Ob)
  | [] => some []
  | .inl i :: r => match env[i]?, resolve env r with
    | some (some o), some os => some (o :: os)
    | _, _ => none
  | .inr o :: r => (resolve env r).map (o :: ·)

/-- outs of a call go back to the names -/
def putBack (env : En) : List (Bool × Ag) → List Ob → Option En
  | [], [] => some env
  | (false, _) :: r, outs => putBack env r outs
  | (true, .inl i) :: r, o :: outs => putBack (env.set i (some o)) r outs
  | (true, .inr _) :: r, _ :: outs => putBack env r outs
  | _, _ => none
/-- no name twice among the changed -/
def ioNames : List (Bool × Ag) → List Nat
  | [] => []
  | (true, .inl i) :: r => i :: ioNames r
  | _ :: r => ioNames r
/-- what is handed in: changed arguments are lists of one's own, the others never change -/
def handsOk : List (Bool × Ag) → List Ob → Bool
  | [], [] => true
  | (io, _) :: r, o :: os => (if io then o.mut else !o.mut) && handsOk r os
  | _, _ => false

def pickD (ds : List PV) : List Nat → Option (List PV)
  | [] => some []
  | i :: r => match ds[i]?, pickD ds r with
    | some d, some l => some (d :: l)
    | _, _ => none
def wipeE (env : En) (own : List Nat) : En := own.foldl (fun e i => e.set i none) env
/-- names of a block as they were ahead of it, where they hold what never changes -/
def restore (env0 env : En) : List Nat → En
  | [] => env
  | i :: r => restore env0 (match env0[i]? with
    | some (some (.v d)) => env.set i (some (.v d))
    | _ => env.set i none) r

def setTgs (env : En) : List Nat → List PV → Option En
  | [], [] => some env
  | i :: is, d :: ds => setTgs (env.set i (some (.v d))) is ds
  | _, _ => none
def setTg (env : En) (tg : List Nat ⊕ Nat) (d : PV) : Option En := match tg, d with
  | .inr i, d => some (env.set i (some (.v d)))
  | .inl is, .tuple ds => setTgs env is ds
  | _, _ => none

def rangeL (lo : Int) (n : Nat) (st : Int) : List PV := (List.range n).map fun (k : Nat) => .int (lo + (k : Int) * st)
def rangeV : List PV → Option (List PV)
  | [.int b] => if decide (-(2 ^ 62) ≤ b) && decide (b < 2 ^ 62) then some (rangeL 0 b.toNat 1) else none
  | [.int a, .int b] => if decide (-(2 ^ 62) ≤ a) && decide (a < 2 ^ 62) && decide (-(2 ^ 62) ≤ b) && decide (b < 2 ^ 62) then some (rangeL a (b - a).toNat 1) else none
  | [.int a, .int b, .int (-1)] => if decide (-(2 ^ 62) ≤ a) && decide (a < 2 ^ 62) && decide (-(2 ^ 62) ≤ b) && decide (b < 2 ^ 62) then some (rangeL a (a - b).toNat (-1)) else none
  | _ => none
def enumL : Nat → List PV → List PV
  | _, [] => []
  | k, d :: r => .tuple [.int k, d] :: enumL (k + 1) r
def zipL : List PV → List PV → List PV
  | a :: as, b :: bs => .tuple [a, b] :: zipL as bs
  | _, _ => []

/-- a list that is only looked at (the script) -/
def ro (xs : List PV) : PV := .dict [(.none, .list xs)]
def itemsOf : PV → Option (List PV)
  | .list xs => some xs
  | .tuple xs => some xs
  | .str s => some (s.cps.toList.map fun c => .str ⟨#[c]⟩)
  | _ => none
def listOf : PV → Option (List PV)
  | .list xs => some xs
  | _ => none
def zipOf : PV → PV → Option (List PV)
  | .list xs, .list ys => some (zipL xs ys)
  | .tuple xs, .tuple ys => some (zipL xs ys)
  | _, _ => none
def wipeL (env : En) (l : List Nat) : En := l.foldl (fun e i => e.set i none) env
/-- a comprehension's turns -/
def loopL (turn : PV → List PV → En → Rs (List PV)) : List PV → List PV → En → Rs (List PV)
  | [], acc, env => .ok acc env
  | d :: r, acc, env => match turn d acc env with
    | .ok acc env => loopL turn r acc env
    | _ => .no
def fzR (o : Ob) (env : En) : Rs PV := match o.frozen with
  | .v (.dict _) => .no
  | .v d => .ok d env
  | _ => .no
def truR (o : Ob) (env : En) : Rs Bool := optR (o.view.bind truth) env

def methL (m : Mt) (env : En) (l : List (Bool × Ag)) : Bool := match (resolve env (l.map (·.2))).bind views with
  | some [d] => methK m d
  | _ => false
def methG (m : Mt) (ds : List PV) : List PV → Option Ob
  | [d] => methF m d ds
  | _ => none
section
variable (cf : Nat → List Ob → CR) (lk : List Nat)

def readX (env : En) (i : Nat) : Rs Ob := match env[i]? with
  | some (some o) => .ok o.frozen (if o.mut then env.set i (some o.frozen) else env)
  | _ => .no
def endCall (as : List (Bool × Ag)) (env : En) : CR → Rs Ob
  | .ret o outs => (match putBack env as outs with
    | some env' => .ok o env'
    | none => .no)
  | .exc c xs => .ex c xs (wipeL env (ioNames as))
  | .no => .no
def doCall (f : Nat) (as : List (Bool × Ag)) (env : En) : Rs Ob :=
  match resolve env (as.map (·.2)) with
  | some os => if handsOk as os && decide (ioNames as).Nodup then endCall as env (cf f os) else .no
  | none => .no
def doCallK (f : Nat) (perm : List Nat) (ds : List PV) (env : En) : Rs Ob :=
  match pickD ds perm with
  | some args => if ds.length == perm.length then endCall [] env (cf f (args.map .v)) else .no
  | none => .no
def turnL (own : List Nat) (tg : List Nat ⊕ Nat) (cnd : En → Rs Bool) (elt : En → Rs Ob) (d : PV) (acc : List PV) (env : En) : Rs (List PV) :=
  match setTg (wipeL env own) tg d with
  | some env1 => (cnd env1).bind fun k env2 => if k then (elt env2).bind fun o env3 => (fzR o env3).bind fun y env3 =>
      if acc.length < lim then .ok (acc ++ [y]) env3 else .no
    else .ok acc env2
  | none => .no

mutual
def evE : IE → En → Rs Ob
  | .c d, env => .ok (.v d) env
  | .f n, env => .ok (.fn n) env
  | .x i, env => readX env i
  | .tup es, env => (evF es env).bind fun ds env => if ds.length ≤ lim then .ok (.v (.tuple ds)) env else .no
  | .lst es, env => (evF es env).bind fun ds env => if ds.length ≤ lim then .ok (.ml ds) env else .no
  | .op o es, env => (evA es env).bind fun as env => optR (((resolve env (as.map (·.2))).bind views).bind (opf o)) env
  | .and a b, env => (evE a env).bind fun o env => (truR o env).bind fun k env => if k then evE b env else .ok o env
  | .or a b, env => (evE a env).bind fun o env => (truR o env).bind fun k env => if k then .ok o env else evE b env
  | .not a, env => (evE a env).bind fun o env => (truR o env).bind fun k env => .ok (.v (.bool (!k))) env
  | .ite c a b, env => (evE c env).bind fun o env => (truR o env).bind fun k env => if k then evE a env else evE b env
  | .chain o1 o2 a b c, env => (evE a env).bind fun oa env => (evE b env).bind fun ob env =>
      match oa.view, ob.view with
      | some da, some db => (match cmpf o1 da db with
        | some true => (evE c env).bind fun oc env => optR ((oc.view.bind fun dc => cmpf o2 db dc).map fun k => .v (.bool k)) env
        | some false => .ok (.v (.bool false)) env
        | none => .no)
      | _, _ => .no
  | .sl2 a lo hi, env => (evA a env).bind fun as env => (evE lo env).bind fun ol env => match ol with
      | .v (.int i) => (evE hi env).bind fun oh env => (match oh with
        | .v (.int j) => optR (((resolve env (as.map (·.2))).bind views).bind fun ds => match ds with
          | [d] => slicef d (some i) (some j)
          | _ => none) env
        | _ => .no)
      | _ => .no
  | .meth m a es, env => (evA a env).bind fun l env => if methL m env l then (evF es env).bind fun ds env => optR (((resolve env (l.map (·.2))).bind views).bind (methG m ds)) env else .no
  | .call f es, env => (evC es env).bind fun as env => doCall cf f as env
  | .callk f perm es, env => (evF es env).bind fun ds env => doCallK cf f perm ds env
  | .callx i es, env => (evC es env).bind fun as env => match env[i]? with
    | some (some (.fn f)) => doCall cf f as env
    | _ => .no
  | .pop i, env => match env[i]? with
    | some (some (.ml xs)) => (match xs.getLast? with
      | some d => .ok (.v d) (env.set i (some (.ml xs.dropLast)))
      | none => .no)
    | _ => .no
  | .lc own tg it cond elt, env => if own.any (fun i => lk.contains i) then .no else (evIt it env).bind fun ds env0 =>
      (loopL (turnL own tg (fun env => evK cond env) (fun env => evE elt env)) ds [] (wipeL env0 own)).bind fun acc env1 => .ok (.ml acc) (restore env0 env1 own)
def evK : IEs → En → Rs Bool
  | .nil, env => .ok true env
  | .cons _ e _, env => (evE e env).bind truR
def evF : IEs → En → Rs (List PV)
  | .nil, env => .ok [] env
  | .cons _ e es, env => (evE e env).bind fun o env => (fzR o env).bind fun d env => (evF es env).bind fun ds env => .ok (d :: ds) env
def evA : IEs → En → Rs (List (Bool × Ag))
  | .nil, env => .ok [] env
  | .cons io e es, env => match e.isX with
    | some i => (match env[i]? with
      | some (some _) => (evA es env).bind fun as env => .ok ((io, .inl i) :: as) env
      | _ => .no)
    | none => (evE e env).bind fun o env => (evA es env).bind fun as env => .ok ((io, .inr o) :: as) env
def evC : IEs → En → Rs (List (Bool × Ag))
  | .nil, env => .ok [] env
  | .cons io e es, env => (if io then (match e.isX with
    | some i => (match env[i]? with
      | some (some _) => .ok (.inl i) env
      | _ => .no)
    | none => (evE e env).bind fun o env => .ok (.inr o) env)
    else (evE e env).bind fun o env => .ok (.inr o.frozen) env).bind fun ag env => (evC es env).bind fun as env => .ok ((io, ag) :: as) env
def evIt : IT → En → Rs (List PV)
  | .seq e, env => (evE e env).bind fun o env => (fzR o env).bind fun d env => optR (itemsOf d) env
  | .enum e, env => (evE e env).bind fun o env => (fzR o env).bind fun d env => optR ((listOf d).map (enumL 0)) env
  | .zip a b, env => (evE a env).bind fun oa env => (fzR oa env).bind fun da env => (evE b env).bind fun ob env => (fzR ob env).bind fun db env => optR (zipOf da db) env
  | .range es, env => (evF es env).bind fun ds env => optR (rangeV ds) env
end
def evT (e : IE) (env : En) : Rs Bool := (evE cf lk e env).bind truR
end

inductive Fl where
  | nx | rt (o : Ob) | bk | ct
mutual
inductive IS where
  | asg (z : Bool) (i : Nat) (e : IE)
  | par (is : List Nat) (es : IEs)
  | unp (is : List Nat) (e : IE)
  | sub (i : Nat) (ix e : IE)
  | swp (i : Nat) (x1 x2 e1 e2 : IE)
  | ap (i : Nat) (e : IE) | ext (i : Nat) (e : IE)
  | ex (e : IE)
  | ret (e : IE) | retn
  | ite (c : IE) (a b : ISs)
  | whl (c : IE) (b : ISs)
  | for_ (tg : List Nat ⊕ Nat) (it : IT) (b : ISs)
  | raise (c : Nat) (es : IEs)
  | brk | cnt | pass | never
inductive ISs where
  | nil | cons (s : IS) (r : ISs)
end
def wfuel : Nat := 2 ^ 62
def whileN (c : En → Rs Bool) (b : En → Rs Fl) : Nat → En → Rs Fl
  | 0, _ => .no
  | n + 1, env => (c env).bind fun k env => if k then (b env).bind fun fl env => (match fl with
      | .nx => whileN c b n env
      | .ct => whileN c b n env
      | .bk => .ok .nx env
      | .rt o => .ok (.rt o) env) else .ok .nx env
def forL (turn : PV → En → Rs Fl) : List PV → En → Rs Fl
  | [], env => .ok .nx env
  | d :: r, env => (turn d env).bind fun fl env => match fl with
    | .nx => forL turn r env
    | .ct => forL turn r env
    | .bk => .ok .nx env
    | .rt o => .ok (.rt o) env
/-- the values of several expressions, each for a name: lists of one's own stay so -/
def setObs (env : En) : List Nat → List Ob → Option En
  | [], [] => some env
  | i :: is, o :: os => setObs (env.set i (some o)) is os
  | _, _ => none
section
variable (cf : Nat → List Ob → CR) (lk : List Nat)
def free (i : Nat) : Bool := !lk.contains i
def isMl (env : En) (i : Nat) : Bool := match env[i]? with
  | some (some (.ml _)) => true
  | _ => false
def freeTg : List Nat ⊕ Nat → Bool
  | .inr i => free lk i
  | .inl is => is.all (free lk)
/-- x[ix] = d, a list of one's own -/
def stI (i : Nat) (ix : IE) (d : PV) (env : En) : Rs Unit := if isMl env i then (evE cf lk ix env).bind fun oi env => (match env[i]?, oi with
      | some (some (.ml xs)), .v (.int k) => (match ixN xs.length k with
        | some j => .ok () (env.set i (some (.ml (xs.set j d))))
        | none => .no)
      | _, _ => .no) else .no
/-- given away, if one says so -/
def fzIf (z : Bool) (o : Ob) : Ob := if z then o.frozen else o
/-- values of a row of expressions, kept apart -/
def evO : IEs → En → Rs (List Ob)
  | .nil, env => .ok [] env
  | .cons z e es, env => (evE cf lk e env).bind fun o env => (evO es env).bind fun os env => .ok (fzIf z o :: os) env
def retO (e : IE) (env : En) : Rs Ob := match e.isX with
  | some i => (match env[i]? with
    | some (some o) => if free lk i && o.mut then .ok o (env.set i none) else readX env i
    | _ => .no)
  | none => evE cf lk e env
mutual
def evS : IS → En → Rs Fl
  | .asg z i e, env => if free lk i then (evE cf lk e env).bind fun o env => .ok .nx (env.set i (some (fzIf z o))) else .no
  | .par is es, env => if is.all (free lk) && decide is.Nodup then (evO cf lk es env).bind fun os env => optR (setObs env is os) env |>.bind fun env' _ => .ok .nx env' else .no
  | .unp is e, env => if is.all (free lk) then (evE cf lk e env).bind fun o env => (match o with
      | .v (.tuple ds) => optR (setTgs env is ds) env |>.bind fun env' _ => .ok .nx env'
      | _ => .no) else .no
  | .sub i ix e, env => (evE cf lk e env).bind fun o env => (fzR o env).bind fun d env => if isMl env i then (evE cf lk ix env).bind fun oi env => (match env[i]?, oi with
      | some (some (.ml xs)), .v (.int k) => (match ixN xs.length k with
        | some j => .ok .nx (env.set i (some (.ml (xs.set j d))))
        | none => .no)
      | _, _ => .no) else .no
  | .swp i x1 x2 e1 e2, env => (evF cf lk (.cons false e1 (.cons false e2 .nil)) env).bind fun ds env => (match ds with
      | [d1, d2] => ((stI cf lk i x1 d1 env).bind fun _ env => stI cf lk i x2 d2 env).bind fun _ env => .ok .nx env
      | _ => .no)
  | .ap i e, env => if isMl env i then (evE cf lk e env).bind fun o env => (fzR o env).bind fun d env => match env[i]? with
      | some (some (.ml xs)) => if xs.length < lim then .ok .nx (env.set i (some (.ml (xs ++ [d])))) else .no
      | _ => .no else .no
  | .ext i e, env => if isMl env i then (evE cf lk e env).bind fun o env => match env[i]?, o.view with
      | some (some (.ml xs)), some (.list ys) => if xs.length + ys.length ≤ lim then .ok .nx (env.set i (some (.ml (xs ++ ys)))) else .no
      | _, _ => .no else .no
  | .ex e, env => (evE cf lk e env).bind fun _ env => .ok .nx env
  | .ret e, env => (retO cf lk e env).bind fun o env => .ok (.rt o) env
  | .retn, env => .ok (.rt (.v .none)) env
  | .ite c a b, env => (evT cf lk c env).bind fun k env => if k then evSs a env else evSs b env
  | .whl c b, env => whileN (fun env => evT cf lk c env) (fun env => evSs b env) wfuel env
  | .for_ tg it b, env => if freeTg lk tg then (evIt cf lk it env).bind fun ds env => forL (fun d env => match setTg env tg d with
      | some env => evSs b env
      | none => .no) ds env else .no
  | .raise c es, env => (evF cf lk es env).bind fun ds env => .ex c ds env
  | .brk, env => .ok .bk env
  | .cnt, env => .ok .ct env
  | .pass, env => .ok .nx env
  | .never, _ => .no
def evSs : ISs → En → Rs Fl
  | .nil, env => .ok .nx env
  | .cons s r, env => (evS s env).bind fun fl env => match fl with
    | .nx => evSs r env
    | fl => .ok fl env
end
end

structure FD where
  np : Nat
  ns : Nat
  io : List Nat
  body : ISs
def outsOf (env : En) : List Nat → Option (List Ob)
  | [] => some []
  | i :: r => match env[i]?, outsOf env r with
    | some (some o), some os => some (o :: os)
    | _, _ => none
def ioOk (io : List Nat) : Nat → List Ob → Bool
  | _, [] => true
  | i, o :: r => (o.mut == io.contains i) && ioOk io (i + 1) r
def runF (T : Nat → Option FD) : Nat → Nat → List Ob → CR
  | 0, _, _ => .no
  | k + 1, f, args => match T f with
    | none => .no
    | some d => if args.length == d.np && ioOk d.io 0 args then (match evSs (runF T k) d.io d.body (args.map some ++ List.replicate (d.ns - d.np) none) with
      | .ok fl env => (match outsOf env d.io, fl with
        | some outs, .nx => if outs.all Ob.mut then .ret (.v .none) outs else .no
        | some outs, .rt o => if outs.all Ob.mut then .ret o outs else .no
        | _, _ => .no)
      | .ex c as _ => .exc c as
      | .no => .no) else .no
end Pv
-- PvRep
set_option maxRecDepth 100000
namespace Pv
open PySem L2

/-- the ground: what of the heap is known for ever (tuples, lists that nobody changes any more) -/
abbrev Gr := Hp

mutual
inductive RF (K : PySem.W.Frag) (Fz : Hp) : V → PV → Prop
  | non : RF K Fz .non .none
  | bl (b : Bool) : RF K Fz (.bl b) (.bool b)
  | int (i : Int) : RF K Fz (.int i) (.int i)
  | str {x : Str} : PyData.strOk x = true → RF K Fz (.str x) (.str x)
  | lst {a : Addr} {vs : List V} {xs : List PV} : Fz a = some (.lst vs) → RFs K Fz vs xs → RF K Fz (.ref a) (.list xs)
  | tup {a : Addr} {vs : List V} {xs : List PV} : SqT K Fz a vs → RFs K Fz vs xs → RF K Fz (.ref a) (.tuple xs)
inductive RFs (K : PySem.W.Frag) (Fz : Hp) : List V → List PV → Prop
  | nil : RFs K Fz [] []
  | cons {v : V} {vs : List V} {d : PV} {ds : List PV} : RF K Fz v d → RFs K Fz vs ds → RFs K Fz (v :: vs) (d :: ds)
end

theorem SqT.mono {K : PySem.W.Frag} {H H' : Hp} (h : Same H H') {a : Addr} {xs : List V} (q : SqT K H a xs) : SqT K H' a xs := by
  rcases q with (q | ⟨o, q⟩) | q
  · exact .inl (.inl (h _ _ q))
  · exact .inl (.inr ⟨o, h _ _ q⟩)
  · exact .inr q

mutual
theorem RF.mono {K : PySem.W.Frag} {H H' : Hp} (h : Same H H') : ∀ {d : PV} {v : V}, RF K H v d → RF K H' v d
  | .none, _, r => by cases r; exact .non
  | .bool _, _, r => by cases r; exact .bl _
  | .int _, _, r => by cases r; exact .int _
  | .str _, _, r => by cases r with | str e => exact .str e
  | .list xs, _, r => by
    cases r with
    | lst e q => exact .lst (h _ _ e) (RFs.mono h q)
  | .tuple xs, _, r => by
    cases r with
    | tup e q => exact .tup (SqT.mono h e) (RFs.mono h q)
  | .dict _, _, r => by cases r
theorem RFs.mono {K : PySem.W.Frag} {H H' : Hp} (h : Same H H') : ∀ {ds : List PV} {vs : List V}, RFs K H vs ds → RFs K H' vs ds
  | [], _, r => by cases r; exact .nil
  | d :: ds, _, r => by
    cases r with
    | cons a b => exact .cons (RF.mono h a) (RFs.mono h b)
end
mutual
theorem RF.dp {K : PySem.W.Frag} {H : Hp} : ∀ {d : PV} {v : V}, RF K H v d → Dp K H v d
  | .none, _, r => by cases r; exact .non
  | .bool _, _, r => by cases r; exact .bl _
  | .int _, _, r => by cases r; exact .int _
  | .str _, _, r => by cases r with | str e => exact .str _
  | .list xs, _, r => by
    cases r with
    | lst e q => exact .lst (SqL.of e) (RFs.dp q)
  | .tuple xs, _, r => by
    cases r with
    | tup e q => exact .tup e (RFs.dp q)
  | .dict _, _, r => by cases r
theorem RFs.dp {K : PySem.W.Frag} {H : Hp} : ∀ {ds : List PV} {vs : List V}, RFs K H vs ds → DpAll K H vs ds
  | [], _, r => by cases r; exact .nil
  | d :: ds, _, r => by
    cases r with
    | cons a b => exact .cons (RF.dp a) (RFs.dp b)
end
mutual
theorem RF.lay {K : PySem.W.Frag} {H : Hp} : ∀ {d : PV} {v : V}, RF K H v d → d.canLay0 = true
  | .none, _, r => rfl
  | .bool _, _, r => rfl
  | .int _, _, r => rfl
  | .str _, _, r => by cases r with | str e => rw [PyData.canLay0]; exact e
  | .list xs, _, r => by
    cases r with
    | lst e q => rw [PyData.canLay0]; exact RFs.lay q
  | .tuple xs, _, r => by
    cases r with
    | tup e q => rw [PyData.canLay0]; exact RFs.lay q
  | .dict _, _, r => by cases r
theorem RFs.lay {K : PySem.W.Frag} {H : Hp} : ∀ {ds : List PV} {vs : List V}, RFs K H vs ds → PyData.canLayAll0 ds = true
  | [], _, r => rfl
  | d :: ds, _, r => by
    cases r with
    | cons a b => rw [PyData.canLayAll0, RF.lay a, RFs.lay b]; rfl
end

section
variable {K : PySem.W.Frag} {Fz H : Hp}
theorem RFs.length : ∀ {ds : List PV} {vs : List V}, RFs K H vs ds → vs.length = ds.length
  | [], _, r => by cases r; rfl
  | d :: ds, _, r => by
    cases r with
    | cons a b => simp [RFs.length b]
theorem RFs.append : ∀ {ds es : List PV} {vs ws : List V}, RFs K H vs ds → RFs K H ws es → RFs K H (vs ++ ws) (ds ++ es)
  | [], _, _, _, r, q => by cases r; exact q
  | d :: ds, _, _, _, r, q => by
    cases r with
    | cons a b => exact .cons a (RFs.append b q)
theorem RFs.take : ∀ {ds : List PV} {vs : List V} (n : Nat), RFs K H vs ds → RFs K H (vs.take n) (ds.take n)
  | _, _, 0, _ => .nil
  | [], _, n + 1, r => by cases r; exact .nil
  | d :: ds, _, n + 1, r => by
    cases r with
    | cons a b => exact .cons a (RFs.take n b)
theorem RFs.drop : ∀ {ds : List PV} {vs : List V} (n : Nat), RFs K H vs ds → RFs K H (vs.drop n) (ds.drop n)
  | _, _, 0, r => r
  | [], _, n + 1, r => by cases r; exact .nil
  | d :: ds, _, n + 1, r => by
    cases r with
    | cons a b => exact RFs.drop n b
theorem RFs.get : ∀ {ds : List PV} {vs : List V} {i : Nat} {d : PV}, RFs K H vs ds → ds[i]? = some d → ∃ v, vs[i]? = some v ∧ RF K H v d
  | [], _, _, _, _, e => by simp at e
  | _ :: _, _, 0, _, .cons a b, e => by simp at e; subst e; exact ⟨_, rfl, a⟩
  | _ :: ds, _, i + 1, _, .cons a b, e => by
    obtain ⟨v, h1, h2⟩ := RFs.get (i := i) b (by simpa using e)
    exact ⟨v, by simpa using h1, h2⟩
theorem RFs.set {v : V} {d : PV} (h : RF K H v d) : ∀ {ds : List PV} {vs : List V} (i : Nat), RFs K H vs ds → RFs K H (vs.set i v) (ds.set i d)
  | _, _, _, .nil => .nil
  | _, _, 0, .cons a b => .cons h b
  | _, _, i + 1, .cons a b => .cons a (RFs.set h i b)
theorem RFs.rev : ∀ {ds : List PV} {vs : List V}, RFs K H vs ds → RFs K H vs.reverse ds.reverse
  | _, _, .nil => .nil
  | _, _, .cons a b => by
    rw [List.reverse_cons, List.reverse_cons]
    exact (RFs.rev b).append (.cons a .nil)
theorem RFs.dropLast {ds : List PV} {vs : List V} (h : RFs K H vs ds) : RFs K H vs.dropLast ds.dropLast := by
  rw [List.dropLast_eq_take, List.dropLast_eq_take, h.length]
  exact h.take _
theorem RFs.rep {ds : List PV} {vs : List V} (h : RFs K H vs ds) : ∀ k : Nat, RFs K H (List.replicate k vs).flatten (List.replicate k ds).flatten
  | 0 => .nil
  | k + 1 => by
    rw [List.replicate_succ, List.replicate_succ, List.flatten_cons, List.flatten_cons]
    exact h.append (RFs.rep h k)
theorem RFs.cut {ds : List PV} {vs : List V} (h : RFs K H vs ds) (lo hi : Option Int) : RFs K H (cutV vs lo hi) (cutP ds lo hi) := by
  unfold cutV cutP
  rw [h.length]
  exact (h.drop _).take _
theorem RFs.one {d : PV} {v : V} (h : RF K H v d) : RFs K H [v] [d] := .cons h .nil
theorem RFs.ints : ∀ {ns : List Int} {vs : List V}, RFs K H vs (ns.map PyData.int) → vs = ns.map V.int
  | [], _, r => by cases r; rfl
  | n :: ns, _, r => by
    cases r with
    | cons a b => cases a; rw [RFs.ints b]; rfl
theorem RFs.of_ints : ∀ (ns : List Int), RFs K H (ns.map V.int) (ns.map PyData.int)
  | [] => .nil
  | n :: ns => .cons (.int n) (RFs.of_ints ns)
end
theorem bInts_some : ∀ {xs : List PV} {ns : List Int}, bInts xs = some ns → xs = ns.map PyData.int
  | [], ns, h => by simp [bInts] at h; subst h; rfl
  | .int i :: r, ns, h => by
    rw [bInts, Option.map_eq_some_iff] at h
    obtain ⟨ms, h1, rfl⟩ := h
    rw [bInts_some h1]; rfl
  | .none :: _, _, h => by simp [bInts] at h
  | .bool _ :: _, _, h => by simp [bInts] at h
  | .str _ :: _, _, h => by simp [bInts] at h
  | .list _ :: _, _, h => by simp [bInts] at h
  | .tuple _ :: _, _, h => by simp [bInts] at h
  | .dict _ :: _, _, h => by simp [bInts] at h
theorem bInts_map : ∀ (ns : List Int), bInts (ns.map PyData.int) = some ns
  | [] => rfl
  | n :: ns => by simp [bInts, bInts_map ns]
theorem bBools_some : ∀ {xs : List PV} {ns : List Bool}, bBools xs = some ns → xs = ns.map PyData.bool
  | [], ns, h => by simp [bBools] at h; subst h; rfl
  | .bool i :: r, ns, h => by
    rw [bBools, Option.map_eq_some_iff] at h
    obtain ⟨ms, h1, rfl⟩ := h
    rw [bBools_some h1]; rfl
  | .none :: _, _, h => by simp [bBools] at h
  | .int _ :: _, _, h => by simp [bBools] at h
  | .str _ :: _, _, h => by simp [bBools] at h
  | .list _ :: _, _, h => by simp [bBools] at h
  | .tuple _ :: _, _, h => by simp [bBools] at h
  | .dict _ :: _, _, h => by simp [bBools] at h
theorem RFs.bls {K : PySem.W.Frag} {H : Hp} : ∀ {ns : List Bool} {vs : List V}, RFs K H vs (ns.map PyData.bool) → vs = ns.map V.bl
  | [], _, r => by cases r; rfl
  | n :: ns, _, r => by
    cases r with
    | cons a b => cases a; rw [RFs.bls b]; rfl

/-- the ground of a law -/
structure Gx where
  K : PySem.W.Frag
  mg : Str → Option Value
  nm : Nat → Str

/-- a value that may be looked at: of the ground, a list of one's own, the script -/
inductive VW (K : PySem.W.Frag) (Fz H : Hp) : V → PV → Prop
  | fz {v : V} {d : PV} : RF K Fz v d → VW K Fz H v d
  | own {a : Addr} {vs : List V} {xs : List PV} : H a = some (.lst vs) → RFs K Fz vs xs → VW K Fz H (.ref a) (.list xs)
  | ro {a : Addr} {vs : List V} {xs : List PV} : SqL K Fz a vs → RFs K Fz vs xs → VW K Fz H (.ref a) (ro xs)

/-- an object of the machine and its value -/
inductive RO (G : Gx) (Fz H : Hp) : Ob → V → Prop
  | v {v : V} {d : PV} : RF G.K Fz v d → RO G Fz H (.v d) v
  | ro {a : Addr} {vs : List V} {xs : List PV} : SqL G.K Fz a vs → RFs G.K Fz vs xs → RO G Fz H (.v (Pv.ro xs)) (.ref a)
  | ml {a : Addr} {vs : List V} {xs : List PV} : H a = some (.lst vs) → RFs G.K Fz vs xs → Fz a = none → RO G Fz H (.ml xs) (.ref a)
  | fn {a : Addr} {f : Nat} : G.mg (G.nm f) = some (.ref a) → RO G Fz H (.fn f) (.ref a)

theorem RO.view {G : Gx} {Fz H : Hp} {o : Ob} {v : V} {d : PV} (r : RO G Fz H o v) (e : o.view = some d) : VW G.K Fz H v d := by
  cases r with
  | v r => cases e; exact .fz r
  | ro a b => cases e; exact .ro a b
  | ml a b c => cases e; exact .own a b
  | fn _ => cases e

section
variable {K : PySem.W.Frag} {Fz H : Hp} {v : V}
theorem VW.list {xs : List PV} (h : VW K Fz H v (.list xs)) (sub : Same Fz H) : ∃ a vs, v = .ref a ∧ H a = some (.lst vs) ∧ RFs K Fz vs xs := by
  cases h with
  | fz r => cases r with | lst e q => exact ⟨_, _, rfl, sub _ _ e, q⟩
  | own e q => exact ⟨_, _, rfl, e, q⟩
theorem VW.tuple {xs : List PV} (h : VW K Fz H v (.tuple xs)) (sub : Same Fz H) : ∃ a vs, v = .ref a ∧ SqT K H a vs ∧ RFs K Fz vs xs ∧ SqT K Fz a vs := by
  cases h with
  | fz r => cases r with | tup e q => exact ⟨_, _, rfl, SqT.mono sub e, q, e⟩
theorem VW.int {i : Int} (h : VW K Fz H v (.int i)) : v = .int i := by
  cases h with | fz r => cases r; rfl
theorem VW.bl {i : Bool} (h : VW K Fz H v (.bool i)) : v = .bl i := by
  cases h with | fz r => cases r; rfl
theorem VW.str {i : Str} (h : VW K Fz H v (.str i)) : v = .str i ∧ PyData.strOk i = true := by
  cases h with | fz r => cases r with | str e => exact ⟨rfl, e⟩
theorem VW.non (h : VW K Fz H v .none) : v = .non := by
  cases h with | fz r => cases r; rfl
theorem VW.dp {d : PV} (h : VW K Fz H v d) (sub : Same Fz H) (nd : isD d = false) : Dp K H v d := by
  cases h with
  | fz r => exact (r.mono sub).dp
  | own e q => exact .lst (SqL.of e) (q.mono sub).dp
  | ro _ _ => cases nd
theorem VW.lay {d : PV} (h : VW K Fz H v d) (nd : isD d = false) : d.canLay0 = true := by
  cases h with
  | fz r => exact r.lay
  | own e q => rw [PyData.canLay0]; exact q.lay
  | ro _ _ => cases nd
end

/-- nothing but new objects -/
structure Ext (Fz H Fz' H' : Hp) : Prop where
  hh : Same H H'
  ff : Same Fz Fz'
  sub : Same Fz' H'
  nw : ∀ a, H a ≠ none → Fz a = none → Fz' a = none
theorem Ext.refl {Fz H : Hp} (sub : Same Fz H) : Ext Fz H Fz H := ⟨Same.refl _, Same.refl _, sub, fun _ _ h => h⟩
theorem ne_of_some {H : Hp} {a : Addr} {o : HO} (h : H a = some o) : H a ≠ none := by rw [h]; simp
theorem Same.upd {H : Hp} {p : Addr} {o : HO} (hp : H p = none) : Same H (upd H p o) := fun b u h => by
  rw [upd_ne (ne_of_none h hp)]; exact h
theorem Ext.newL {Fz H : Hp} (sub : Same Fz H) {p : Addr} {o : HO} (hp : H p = none) : Ext Fz H Fz (upd H p o) :=
  ⟨Same.upd hp, Same.refl _, fun b u h => Same.upd hp b u (sub b u h), fun _ _ h => h⟩
theorem fz_none {Fz H : Hp} (sub : Same Fz H) {p : Addr} (hp : H p = none) : Fz p = none := by
  cases e : Fz p with
  | none => rfl
  | some o => rw [sub p o e] at hp; cases hp
theorem Ext.newT {Fz H : Hp} (sub : Same Fz H) {p : Addr} {o : HO} (hp : H p = none) : Ext Fz H (upd Fz p o) (upd H p o) := by
  refine ⟨Same.upd hp, Same.upd (fz_none sub hp), fun b u h => ?_, fun a ha hf => ?_⟩
  · by_cases e : b = p
    · subst e; rw [upd_same] at h ⊢; exact h
    · rw [upd_ne e] at h ⊢; exact sub b u h
  · have e : a ≠ p := fun e => ha (e ▸ hp)
    rw [upd_ne e]; exact hf
/-- the end of an operation: ob has come, whatever stands for it -/
def Res (G : Gx) (Fz H : Hp) (ob : Ob) (Q : VK) : Prop :=
  ∀ v Fz' H', Ext Fz H Fz' H' → RO G Fz' H' ob v → (ob.mut = true → ∃ a, v = .ref a ∧ H a = none) → Q v H'
section
variable {G : Gx} {Fz H : Hp} {Q : VK}
theorem Res.sc {d : PV} {v : V} (sub : Same Fz H) (q : Res G Fz H (.v d) Q) (r : RF G.K Fz v d) : Q v H := q v Fz H (Ext.refl sub) (.v r) (fun h => by cases h)
theorem Res.lst {xs : List PV} {vs : List V} (sub : Same Fz H) (q : Res G Fz H (.ml xs) Q) (r : RFs G.K Fz vs xs) : ∀ p, H p = none → Q (.ref p) (upd H p (.lst vs)) := fun p hp =>
  q _ Fz _ (Ext.newL sub hp) (.ml upd_same r (fz_none sub hp)) fun _ => ⟨p, rfl, hp⟩
theorem Res.tup {xs : List PV} {vs : List V} (sub : Same Fz H) (q : Res G Fz H (.v (.tuple xs)) Q) (r : RFs G.K Fz vs xs) : ∀ p, H p = none → Q (.ref p) (upd H p (.tup vs)) := fun p hp =>
  q _ (upd Fz p (.tup vs)) _ (Ext.newT sub hp) (.v (.tup (SqT.of upd_same) (r.mono (Same.upd (fz_none sub hp))))) fun h => by cases h
end
end Pv
-- PvOps
set_option maxRecDepth 100000
namespace Pv
open PySem L2

def r1 (G : Gx) (f : PV → Option Ob) : V → Hp → VK → Prop := fun x H Q => ∃ Fz d ob, Same Fz H ∧ VW G.K Fz H x d ∧ f d = some ob ∧ Res G Fz H ob Q
def r2 (G : Gx) (f : PV → PV → Option Ob) : R2 := fun x y H Q => ∃ Fz d e ob, Same Fz H ∧ VW G.K Fz H x d ∧ VW G.K Fz H y e ∧ f d e = some ob ∧ Res G Fz H ob Q
def r1L (G : Gx) (f : PV → Option Ob) : List V → Hp → VK → Prop := fun xs H Q => ∃ x, xs = [x] ∧ r1 G f x H Q
def r2L (G : Gx) (f : PV → PV → Option Ob) : List V → Hp → VK → Prop := fun xs H Q => ∃ x y, xs = [x, y] ∧ r2 G f x y H Q
def cmpO (f : PV → PV → Option Bool) (a b : PV) : Option Ob := (f a b).map fun k => .v (.bool k)

theorem vI_eq {i : Int} {ob : Ob} (h : vI i = some ob) : ob = .v (.int i) := by cases h; rfl
theorem vB_eq {i : Bool} {ob : Ob} (h : vB i = some ob) : ob = .v (.bool i) := by cases h; rfl
theorem cmpO_eq {f : PV → PV → Option Bool} {a b : PV} {ob : Ob} (h : cmpO f a b = some ob) : ∃ k, f a b = some k ∧ ob = .v (.bool k) := by
  unfold cmpO at h
  cases e : f a b with
  | none => rw [e] at h; cases h
  | some k => rw [e] at h; cases h; exact ⟨k, rfl, rfl⟩
theorem strOk_add {i j : Str} (hi : PyData.strOk i = true) (hj : PyData.strOk j = true) : PyData.strOk (i ++ j) = true := by
  unfold PyData.strOk at *
  have e : (i ++ j).cps = i.cps ++ j.cps := rfl
  rw [e]
  simp only [Array.all_append, hi, hj, Bool.and_self]
theorem lim_eq : lim = sizeLine := rfl
theorem small_ok {i : Int} (h : small i = true) : -(2 ^ 64) < i ∧ i < 2 ^ 64 := by
  unfold small at h
  simp only [Bool.and_eq_true, decide_eq_true_eq] at h
  exact h
theorem b2 {a b : Bool} (h : (a && b) = true) : a = true ∧ b = true := by simpa using h
theorem ite_some {c : Prop} [Decidable c] {α : Type} {a b : α} (h : (if c then some a else none) = some b) : c ∧ a = b := by
  by_cases e : c
  · rw [if_pos e] at h; exact ⟨e, Option.some.inj h⟩
  · rw [if_neg e] at h; cases h
theorem ite_sm {c : Prop} [Decidable c] {α : Type} {a : Option α} {b : α} (h : (if c then a else none) = some b) : c ∧ a = some b := by
  by_cases e : c
  · rw [if_pos e] at h; exact ⟨e, h⟩
  · rw [if_neg e] at h; cases h

section
variable {X : Cx} {G : Gx} (hK : X.K = G.K)
include hK

theorem op_addA : OpR X (binaryOp .Add) (r2 G addf) := by
  intro pins s σ H x y v u Q I rx ry h
  obtain ⟨Fz, d, e, ob, sub, hx, hy, ho, q⟩ := h
  unfold addf at ho
  split at ho
  · cases vI_eq ho
    cases hx.int; cases hy.int
    exact op_add pins s σ H _ _ v u Q I rx ry ⟨_, _, rfl, rfl, q.sc sub (.int _)⟩
  · obtain ⟨hl, rfl⟩ := ite_some ho
    obtain ⟨rfl, s1⟩ := hx.str; obtain ⟨rfl, s2⟩ := hy.str
    exact op_add_str pins s σ H _ _ v u Q I rx ry ⟨_, _, rfl, rfl, hl, q.sc sub (.str (strOk_add s1 s2))⟩
  · obtain ⟨hl, rfl⟩ := ite_some ho
    obtain ⟨a, vs, rfl, ha, ra⟩ := hx.list sub; obtain ⟨b, ws, rfl, hb, rb⟩ := hy.list sub
    exact op_cat pins s σ H _ _ v u Q I rx ry ⟨_, _, _, _, rfl, rfl, ha, hb, by rw [ra.length, rb.length]; exact hl, q.lst sub (ra.append rb)⟩
  · obtain ⟨hl, rfl⟩ := ite_some ho
    obtain ⟨a, vs, rfl, ha, ra, ga⟩ := hx.tuple sub; obtain ⟨b, ws, rfl, hb, rb, gb⟩ := hy.tuple sub
    refine op_catA pins s σ H _ _ v u Q I rx ry ⟨_, _, _, _, rfl, rfl, hK ▸ ha, hK ▸ hb, by rw [ra.length, rb.length]; exact hl, fun e => ?_, fun _ e => ?_, fun _ _ => q.tup sub (ra.append rb)⟩
    · subst e; cases ra; exact q.sc sub (.tup gb rb)
    · subst e; cases rb; rw [List.append_nil] at q; exact q.sc sub (.tup ga ra)
  · cases ho
theorem op_subA : OpR X (binaryOp .Sub) (r2 G subf) := by
  intro pins s σ H x y v u Q I rx ry h
  obtain ⟨Fz, d, e, ob, sub, hx, hy, ho, q⟩ := h
  unfold subf at ho
  split at ho
  · cases vI_eq ho
    cases hx.int; cases hy.int
    exact op_sub pins s σ H _ _ v u Q I rx ry ⟨_, _, rfl, rfl, q.sc sub (.int _)⟩
  · cases ho
theorem op_mulA : OpR X (binaryOp .Mult) (r2 G mulf) := by
  intro pins s σ H x y v u Q I rx ry h
  obtain ⟨Fz, d, e, ob, sub, hx, hy, ho, q⟩ := h
  unfold mulf at ho
  split at ho
  · obtain ⟨hl, ho⟩ := ite_sm ho
    cases vI_eq ho
    cases hx.int; cases hy.int
    refine op_mul pins s σ H _ _ v u Q I rx ry ⟨_, _, rfl, rfl, ?_, q.sc sub (.int _)⟩
    rw [Bool.or_eq_true] at hl
    rcases hl with hl | hl
    · exact .inl (small_ok hl)
    · exact .inr (small_ok hl)
  · obtain ⟨hl, rfl⟩ := ite_some ho
    obtain ⟨h12, h3⟩ := b2 hl
    obtain ⟨h1, h2⟩ := b2 h12
    obtain ⟨a, vs, rfl, ha, ra⟩ := hx.list sub
    cases hy.int
    exact op_rep pins s σ H _ _ v u Q I rx ry ⟨_, _, _, rfl, rfl, ha, of_decide_eq_true h1, of_decide_eq_true h2, by rw [ra.length]; exact of_decide_eq_true h3, q.lst sub (ra.rep _)⟩
  · cases ho
theorem op_fdivA : OpR X (binaryOp .FloorDiv) (r2 G fdivf) := by
  intro pins s σ H x y v u Q I rx ry h
  obtain ⟨Fz, d, e, ob, sub, hx, hy, ho, q⟩ := h
  unfold fdivf at ho
  split at ho
  · obtain ⟨hl, ho⟩ := ite_sm ho
    obtain ⟨h1, h2⟩ := b2 hl
    cases vI_eq ho
    cases hx.int; cases hy.int
    exact op_fdivW pins s σ H _ _ v u Q I rx ry ⟨_, _, rfl, rfl, ⟨of_decide_eq_true h1, of_decide_eq_true h2⟩, q.sc sub (.int _)⟩
  · cases ho
theorem op_modA : OpR X (binaryOp .Mod) (r2 G modf) := by
  intro pins s σ H x y v u Q I rx ry h
  obtain ⟨Fz, d, e, ob, sub, hx, hy, ho, q⟩ := h
  unfold modf at ho
  split at ho
  · obtain ⟨hl, ho⟩ := ite_sm ho
    cases vI_eq ho
    cases hx.int; cases hy.int
    exact op_mod pins s σ H _ _ v u Q I rx ry ⟨_, _, rfl, rfl, hl, q.sc sub (.int _)⟩
  · cases ho
theorem powOk_ok {i j : Int} (h : powOk i j = true) : CPow i j := by
  unfold powOk at h
  obtain ⟨h12, h3⟩ := b2 h
  obtain ⟨h1, h2⟩ := b2 h12
  exact ⟨of_decide_eq_true h1, of_decide_eq_true h2, of_decide_eq_true h3⟩
theorem op_powA : OpR X (binaryOp .Pow) (r2 G powf) := by
  intro pins s σ H x y v u Q I rx ry h
  obtain ⟨Fz, d, e, ob, sub, hx, hy, ho, q⟩ := h
  unfold powf at ho
  split at ho
  · obtain ⟨hl, ho⟩ := ite_sm ho
    cases vI_eq ho
    cases hx.int; cases hy.int
    exact op_pow pins s σ H _ _ v u Q I rx ry ⟨_, _, rfl, rfl, powOk_ok hK hl, q.sc sub (.int _)⟩
  · cases ho
theorem op_shlA : OpR X (binaryOp .LShift) (r2 G shlf) := by
  intro pins s σ H x y v u Q I rx ry h
  obtain ⟨Fz, d, e, ob, sub, hx, hy, ho, q⟩ := h
  unfold shlf at ho
  split at ho
  · obtain ⟨hl, ho⟩ := ite_sm ho
    cases vI_eq ho
    cases hx.int; cases hy.int
    exact op_shl pins s σ H _ _ v u Q I rx ry ⟨_, _, rfl, rfl, powOk_ok hK hl, q.sc sub (.int _)⟩
  · cases ho
theorem un_negA : UnR X (unaryOp .USub) (r1 G negf) := by
  intro pins s σ H x v Q I rx h
  obtain ⟨Fz, d, ob, sub, hx, ho, q⟩ := h
  unfold negf at ho
  split at ho
  · cases vI_eq ho
    cases hx.int
    exact un_neg pins s σ H _ v Q I rx ⟨_, rfl, q.sc sub (.int _)⟩
  · cases ho

theorem eqOk_ok {a b : PV} (h : eqOk a b = true) : isD a = false ∧ isD b = false ∧ min a.depth b.depth ≤ 150 := by
  unfold eqOk at h
  obtain ⟨h12, h3⟩ := b2 h
  obtain ⟨h1, h2⟩ := b2 h12
  refine ⟨by simpa using h1, by simpa using h2, ?_⟩
  rw [Bool.or_eq_true] at h3
  rcases h3 with h3 | h3
  · have := of_decide_eq_true h3; omega
  · have := of_decide_eq_true h3; omega
theorem op_eqA (hu : X.A.units + 150 < cLine) : OpR X (compareOp .Eq) (r2 G (cmpO eqf)) := by
  intro pins s σ H x y v u Q I rx ry h
  obtain ⟨Fz, d, e, ob, sub, hx, hy, ho, q⟩ := h
  obtain ⟨k, hk, rfl⟩ := cmpO_eq ho
  unfold eqf at hk
  obtain ⟨hl, rfl⟩ := ite_some hk
  obtain ⟨n1, n2, hm⟩ := eqOk_ok hK hl
  obtain ⟨as, p1⟩ := Dp.reads I d x v (hK ▸ hx.dp sub n1) rx
  obtain ⟨bs, p2⟩ := Dp.reads I e y u (hK ▸ hy.dp sub n2) ry
  exact SeqAt.compareEq_reads p1 p2 (hx.lay n1) (hy.lay n2) (by omega) ⟨.bl _, H, I, rfl, q.sc sub (.bl _)⟩
theorem op_neA (hu : X.A.units + 150 < cLine) : OpR X (compareOp .NotEq) (r2 G (cmpO nef)) := by
  intro pins s σ H x y v u Q I rx ry h
  obtain ⟨Fz, d, e, ob, sub, hx, hy, ho, q⟩ := h
  obtain ⟨k, hk, rfl⟩ := cmpO_eq ho
  unfold nef at hk
  obtain ⟨hl, rfl⟩ := ite_some hk
  obtain ⟨n1, n2, hm⟩ := eqOk_ok hK hl
  obtain ⟨as, p1⟩ := Dp.reads I d x v (hK ▸ hx.dp sub n1) rx
  obtain ⟨bs, p2⟩ := Dp.reads I e y u (hK ▸ hy.dp sub n2) ry
  exact SeqAt.compareNe_reads p1 p2 (hx.lay n1) (hy.lay n2) (by omega) ⟨.bl _, H, I, rfl, q.sc sub (.bl _)⟩
theorem op_ltA : OpR X (compareOp .Lt) (r2 G (cmpO ltf)) := by
  intro pins s σ H x y v u Q I rx ry h
  obtain ⟨Fz, d, e, ob, sub, hx, hy, ho, q⟩ := h
  obtain ⟨k, hk, rfl⟩ := cmpO_eq ho
  unfold ltf at hk
  split at hk
  · cases hk; cases hx.int; cases hy.int
    exact op_lt pins s σ H _ _ v u Q I rx ry ⟨_, _, rfl, rfl, q.sc sub (.bl _)⟩
  · cases hk
theorem op_leA : OpR X (compareOp .LtE) (r2 G (cmpO lef)) := by
  intro pins s σ H x y v u Q I rx ry h
  obtain ⟨Fz, d, e, ob, sub, hx, hy, ho, q⟩ := h
  obtain ⟨k, hk, rfl⟩ := cmpO_eq ho
  unfold lef at hk
  split at hk
  · cases hk; cases hx.int; cases hy.int
    exact op_le pins s σ H _ _ v u Q I rx ry ⟨_, _, rfl, rfl, q.sc sub (.bl _)⟩
  · cases hk
theorem op_gtA : OpR X (compareOp .Gt) (r2 G (cmpO gtf)) := by
  intro pins s σ H x y v u Q I rx ry h
  obtain ⟨Fz, d, e, ob, sub, hx, hy, ho, q⟩ := h
  obtain ⟨k, hk, rfl⟩ := cmpO_eq ho
  unfold gtf at hk
  split at hk
  · cases hk; cases hx.int; cases hy.int
    exact op_gt pins s σ H _ _ v u Q I rx ry ⟨_, _, rfl, rfl, q.sc sub (.bl _)⟩
  · cases hk
theorem op_geA : OpR X (compareOp .GtE) (r2 G (cmpO gef)) := by
  intro pins s σ H x y v u Q I rx ry h
  obtain ⟨Fz, d, e, ob, sub, hx, hy, ho, q⟩ := h
  obtain ⟨k, hk, rfl⟩ := cmpO_eq ho
  unfold gef at hk
  split at hk
  · cases hk; cases hx.int; cases hy.int
    exact op_ge pins s σ H _ _ v u Q I rx ry ⟨_, _, rfl, rfl, q.sc sub (.bl _)⟩
  · cases hk
theorem VW.isNone {Fz H : Hp} {x : V} {d : PV} (h : VW G.K Fz H x d) : decide (x = V.non) = Pv.isNone d := by
  cases h with
  | fz r => cases r <;> first | rfl | (simp [Pv.isNone])
  | own _ _ => simp [Pv.isNone]
  | ro _ _ => simp [Pv.isNone, Pv.ro]
theorem op_isNA : OpR X (compareOp .Is) (r2 G (cmpO isNf)) := by
  intro pins s σ H x y v u Q I rx ry h
  obtain ⟨Fz, d, e, ob, sub, hx, hy, ho, q⟩ := h
  obtain ⟨k, hk, rfl⟩ := cmpO_eq ho
  unfold isNf at hk
  split at hk
  · cases hk; cases hy.non
    exact op_isN pins s σ H _ _ v u Q I rx ry ⟨rfl, by rw [VW.isNone hK hx]; exact q.sc sub (.bl _)⟩
  · cases hk
theorem op_notNA : OpR X (compareOp .IsNot) (r2 G (cmpO notNf)) := by
  intro pins s σ H x y v u Q I rx ry h
  obtain ⟨Fz, d, e, ob, sub, hx, hy, ho, q⟩ := h
  obtain ⟨k, hk, rfl⟩ := cmpO_eq ho
  unfold notNf at hk
  split at hk
  · cases hk; cases hy.non
    exact op_notN pins s σ H _ _ v u Q I rx ry ⟨rfl, by rw [VW.isNone hK hx]; exact q.sc sub (.bl _)⟩
  · cases hk
end
end Pv
-- PvRev
set_option maxRecDepth 100000
namespace Pv
open PySem PySem.Spec PyProof.Rows L2
section
variable {prog : Program} {w : World} {A : Around} {E : Value → Shared → Prop} {s : Shared}
theorem adj_back (n : Nat) : Builtin.Slice.sliceAdjust none none (-1) (n : Int) = ((n : Int) - 1, -1) := by
  unfold Builtin.Slice.sliceAdjust
  simp
theorem places_back (n : Nat) : Builtin.Slice.slicePlaces ((n : Int) - 1) (-1) (-1) = n := by
  unfold Builtin.Slice.slicePlaces
  simp
  omega
theorem applied_back {sl : Addr} {v1 v2 v3 : Value} {n : Nat} {Q : Int × Int × Nat → Shared → Prop} (hs : s.heap.IsSliceOf sl v1 v2 v3) (p1 : IsPart v1 none) (p2 : IsPart v2 none) (p3 : IsPart v3 (some (-1))) (h : Q ((n : Int) - 1, -1, n) s) :
    wpAny (model prog w) A (Builtin.Slice.sliceApplied (.ref sl) (pure (n : Int))) Q E s := by
  obtain ⟨ob, o1, o2, o3⟩ := id hs
  unfold Builtin.Slice.sliceApplied Builtin.Slice.sliceFields
  refine wpAny_bind (wpAny_bind (wpAny_field o1 o3 (x := v1) rfl (wpAny_bind (wpAny_field o1 o3 (x := v2) rfl (wpAny_bind (wpAny_field o1 o3 (x := v3) rfl (wpAny_pure ?_)))))))
  refine wpAny_bind (HT.slicePart_ p3 ?_)
  show wpAny _ _ (if ((-1 : Int) == 0) = true then _ else _) _ _ s
  rw [if_neg (by decide)]
  refine wpAny_bind (HT.slicePart_ p1 (wpAny_bind (HT.slicePart_ p2 (wpAny_bind (wpAny_pure ?_)))))
  show wpAny _ _ (match Builtin.Slice.sliceAdjust none none (-1) (n : Int) with | (lo, hi) => pure (lo, (-1 : Int), Builtin.Slice.slicePlaces lo hi (-1))) _ _ s
  rw [adj_back]
  show wpAny _ _ (pure ((n : Int) - 1, (-1 : Int), Builtin.Slice.slicePlaces ((n : Int) - 1) (-1) (-1))) _ _ s
  rw [places_back]
  exact wpAny_pure h
theorem pick_back (xs : Array Value) : ((List.range xs.size).filterMap fun (m : Nat) => xs[(((xs.size : Int) - 1) + (m : Int) * -1).toNat]?).toArray = xs.toList.reverse.toArray := by
  congr 1
  have e : ∀ l : List Nat, (∀ m ∈ l, m < xs.size) → (l.filterMap fun (m : Nat) => xs[(((xs.size : Int) - 1) + (m : Int) * -1).toNat]?) = l.map fun m => xs.toList.reverse.getD m .none := fun l => by
    induction l with
    | nil => intro _; rfl
    | cons m l ih =>
      intro h
      have hm := h m List.mem_cons_self
      have e1 : (((xs.size : Int) - 1) + (m : Int) * -1).toNat = xs.size - 1 - m := by omega
      have e2 : xs[(((xs.size : Int) - 1) + (m : Int) * -1).toNat]? = some (xs.toList.reverse.getD m .none) := by
        rw [e1, List.getD_eq_getElem?_getD, List.getElem?_reverse (by rw [Array.length_toList]; exact hm), Array.length_toList, Array.getElem?_toList, Array.getElem?_eq_getElem (by omega)]
        rfl
      rw [List.filterMap_cons, e2, List.map_cons, ih fun k hk => h k (List.mem_cons_of_mem _ hk)]
  rw [e _ fun m hm => List.mem_range.mp hm]
  refine List.ext_getElem? fun i => ?_
  by_cases hi : i < xs.size
  · rw [List.getElem?_map, List.getElem?_range hi]
    simp only [Option.map_some]
    rw [List.getD_eq_getElem?_getD, List.getElem?_eq_getElem (by rw [List.length_reverse, Array.length_toList]; exact hi)]
    rfl
  · rw [List.getElem?_eq_none (by simp; omega), List.getElem?_eq_none (by simp; omega)]
theorem getitem_back {t sl : Addr} {items : Array Value} {v1 v2 v3 : Value} {Q : Value → Shared → Prop} (ht : IsTup s.heap t items) (hs : s.heap.IsSliceOf sl v1 v2 v3) (p1 : IsPart v1 none) (p2 : IsPart v2 none) (p3 : IsPart v3 (some (-1)))
    (h : Q (.ref s.heap.objs.size) { s with heap := s.heap.push { cls := .type "tuple", data := .seq items.toList.reverse.toArray } }) (hz : items.size ≤ sizeLine) : wpAny (model prog w) A (getItem (.ref t) (.ref sl)) Q E s := by
  have hok : sizeOk (.seq items.toList.reverse.toArray) := by
    show items.toList.reverse.toArray.size ≤ sizeLine
    rw [List.size_toArray, List.length_reverse, Array.length_toList]
    exact hz
  obtain ⟨ob, o1, o2, o3⟩ := id hs
  have hT : s.TypeIs (.ref sl) "slice" := ⟨ob, o1, o2⟩
  unfold getItem
  try with_reducible refine wpAny_holding ?_
  first | refine wpAny_bind (wpAny_pure ?_) | skip
  refine wpAny_bind (wpAny_sequenceKey ht.typeIs (by decide) ?_)
  refine wpAny_bind (wpAny_callSpecial?_slot (name := Str.ofString "__getitem__") ht.typeIs PyProof.Rows.slot_tuple_getitem
      (wpAny_call_entry PyProof.Rows.slot_tuple_getitem ht.typeIs entry_tuple_getitem (?g) (args_tuple_getitem _ _)))
  case g =>
    show wpAny _ _ (Builtin.Tuple.tupleItemsOf (.ref t) >>= _) _ _ s
    refine wpAny_bind (tupleItemsOf_ ht ?_)
    refine wpAny_bind (wpAny_typeOf hT ?_)
    rw [if_pos (by decide)]
    refine wpAny_bind (applied_back hs p1 p2 p3 ?_)
    have hno : ¬ ((((items.size : Int) - 1) == 0 && (-1 : Int) == 1 && items.size == items.size) = true) := by simp
    show wpAny _ _ (if (((items.size : Int) - 1) == 0 && (-1 : Int) == 1 && items.size == items.size) = true then _ else _) _ _ s
    rw [if_neg hno, pick_back]
    first
      | exact wpAny_bind (m := Builtin.Tuple.tupleExact _) (wpAny_newObj_type (wpAny_pure ⟨_, rfl, wpAny_pure h⟩) hok)
      | exact wpAny_bind (m := Builtin.Tuple.tupleExact _) (wpAny_newObj_type (wpAny_bind (wpAny_pure (wpAny_pure ⟨_, rfl, wpAny_pure h⟩))) hok)
      | exact wpAny_bind (wpAny_bind (m := Builtin.Tuple.tupleExact _) (wpAny_newObj_type (wpAny_pure (wpAny_pure ⟨_, rfl, wpAny_pure h⟩)) hok))
      | exact wpAny_bind (wpAny_bind (m := Builtin.Tuple.tupleExact _) (wpAny_newObj_type (wpAny_pure ⟨_, rfl, wpAny_pure h⟩) hok))
end
section
variable {X : Cx}
/-- the list or tuple back to front -/
def tRevB (K : PySem.W.Frag) (te : TE) : TE := fun σ H Q => te σ H fun x H1 =>
  (∃ a xs, x = .ref a ∧ SqL K H1 a xs ∧ ∀ p, H1 p = none → Q (.ref p) (upd H1 p (.lst xs.reverse))) ∨
  (∃ a xs, x = .ref a ∧ SqT K H1 a xs ∧ ∀ p, H1 p = none → Q (.ref p) (upd H1 p (.tup xs.reverse)))
theorem pe_revB {e : Expr} {te : TE} {k : Nat} {p1 p2 p3 pos : Pos} (he : PE X e te) : PE X (.Subscript e (.Slice none none (some (.UnaryOp .USub (.Constant (.int 1) k p1) p2)) p3) pos) (tRevB X.K te) := by
  refine ⟨fun pins s σ H Q I h => Subscript_ (thn (he.run pins s σ H _ I h) fun v s1 ⟨x, H1, I1, rx, qx⟩ => ?_)⟩
  have minus : PO X (some (.UnaryOp .USub (.Constant (.int 1) k p1) p2)) (tPart (tUn (rU fun i => .int (-i)) (tC (.int 1)))) := po_some (pe_un un_neg pe_int)
  refine wpAny_Slice (thn (po_none.run pins s1 σ H1 (fun o H2 => o = none ∧ H2 = H1) I1 ⟨rfl, rfl⟩) fun ua s2 ⟨l, H2, I2, pa, ea, g2⟩ => ?_)
  subst ea g2
  refine thn (po_none.run pins s2 σ H2 (fun o H3 => o = none ∧ H3 = H2) I2 ⟨rfl, rfl⟩) fun ub s3 ⟨u, H3, I3, pb, eb, g3⟩ => ?_
  subst eb g3
  refine thn (minus.run pins s3 σ H3 (fun o H4 => o = some (-1) ∧ H4 = H3) I3 ⟨1, rfl, -1, rfl, rfl, rfl⟩) fun uc s4 ⟨o, H4, I4, pc, eo, g4⟩ => ?_
  subst eo g4
  have I5 : Inv X pins σ H4 { s4 with heap := s4.heap.push { cls := .type "slice", data := .fields #[ua, ub, uc] } } := I4.kept (t' := s4.toks) fun b ob q => Heap.get?_push_of_some _ q
  rcases qx with ⟨a, xs, rfl, hx, q⟩ | ⟨a, xs, rfl, hx, q⟩
  · cases rx
    obtain ⟨its, r, ht, hz⟩ := I5.list hx
    have hl := r.length
    show wpAny (model X.prog X.w) X.A (subscriptTail e (.Slice none none (some (.UnaryOp .USub (.Constant (.int 1) k p1) p2)) p3) (.ref a) (.ref s4.heap.objs.size)) (EP X pins σ Q) X.xe { s4 with heap := s4.heap.push { cls := .type "slice", data := .fields #[ua, ub, uc] } }
    refine tail_any (ops := [.ref a, .ref s4.heap.objs.size]) ht.isList.typeIs (PySem.slot_list_getitem.lookup) (wpAny_getItem_list_slice ht.isList (Heap.IsSliceOf.new _ ua ub uc) pa pb pc (by decide) ?_ (by rw [List.size_toArray]; omega)) (by with_unfolding_all rfl)
    rw [PySem.W.krv_pick]
    exact ⟨.ref _, _, I5.laid (t' := s4.toks) (o := .lst xs.reverse) (fun b ob q => Heap.get?_push_of_some _ q) (Nat.le_refl _) ⟨by rw [List.length_reverse]; exact hz, _, 0, r.reverse, Heap.get?_push_size _ rfl⟩, rfl, q _ (I5.hok.fresh (Nat.le_refl _))⟩
  · cases rx
    obtain ⟨its, r, ht, hz⟩ := I5.tuple hx
    have hl : its.toArray.size = xs.length := by rw [List.size_toArray]; exact r.length.symm
    show wpAny (model X.prog X.w) X.A (subscriptTail e (.Slice none none (some (.UnaryOp .USub (.Constant (.int 1) k p1) p2)) p3) (.ref a) (.ref s4.heap.objs.size)) (EP X pins σ Q) X.xe { s4 with heap := s4.heap.push { cls := .type "slice", data := .fields #[ua, ub, uc] } }
    refine tail_any (ops := [.ref a, .ref s4.heap.objs.size]) ht.typeIs (PyProof.Rows.slot_tuple_getitem.lookup) (getitem_back ht (Heap.IsSliceOf.new _ ua ub uc) pa pb pc ?_ (by rw [hl]; exact hz)) (by with_unfolding_all rfl)
    exact ⟨.ref _, _, I5.laid (t' := s4.toks) (o := .tup xs.reverse) (fun b ob q => Heap.get?_push_of_some _ q) (Nat.le_refl _) ⟨by rw [List.length_reverse]; exact hz, _, r.reverse, IsTup.new _ _⟩, rfl, q _ (I5.hok.fresh (Nat.le_refl _))⟩
end
end Pv
-- PvOps2
set_option maxRecDepth 100000
namespace Pv
open PySem L2

section
variable {X : Cx} {G : Gx} (hK : X.K = G.K)
include hK

theorem op_inA (hu : X.A.units + 160 < cLine) : OpR X (compareOp .In) (r2 G (cmpO inf)) := by
  intro pins s σ H x y v u Q I rx ry h
  obtain ⟨Fz, d, e, ob, sub, hx, hy, ho, q⟩ := h
  obtain ⟨k, hk, rfl⟩ := cmpO_eq ho
  unfold inf at hk
  split at hk
  · obtain ⟨hl, rfl⟩ := ite_some hk
    obtain ⟨h1, h2⟩ := b2 hl
    have n1 : isD d = false := by simpa using h1
    have h3 := of_decide_eq_true h2
    obtain ⟨as, p1⟩ := Dp.reads I d x v (hK ▸ hx.dp sub n1) rx
    obtain ⟨bs, p2⟩ := Dp.reads I _ y u (hK ▸ hy.dp sub rfl) ry
    have hlay := hy.lay rfl
    rw [PyData.canLay0] at hlay
    exact SeqAt.in_list_reads p2 p1 hlay (hx.lay n1) (by omega) ⟨.bl _, H, I, rfl, q.sc sub (.bl _)⟩
  · obtain ⟨hl, rfl⟩ := ite_some hk
    obtain ⟨h1, h2⟩ := b2 hl
    have n1 : isD d = false := by simpa using h1
    have h3 := of_decide_eq_true h2
    obtain ⟨as, p1⟩ := Dp.reads I d x v (hK ▸ hx.dp sub n1) rx
    obtain ⟨bs, p2⟩ := Dp.reads I _ y u (hK ▸ hy.dp sub rfl) ry
    have hlay := hy.lay rfl
    rw [PyData.canLay0] at hlay
    exact SeqAt.in_tuple_reads p2 p1 hlay (hx.lay n1) (by omega) ⟨.bl _, H, I, rfl, q.sc sub (.bl _)⟩
  · split at hk
    · cases hk
      obtain ⟨rfl, _⟩ := hx.str; obtain ⟨rfl, _⟩ := hy.str
      exact op_in_str pins s σ H _ _ v u Q I rx ry ⟨_, _, rfl, rfl, q.sc sub (.bl _)⟩
    · cases hk
  · cases hk
theorem op_notinA (hu : X.A.units + 160 < cLine) : OpR X (compareOp .NotIn) (r2 G (cmpO fun a b => (inf a b).map (!·))) := by
  intro pins s σ H x y v u Q I rx ry h
  obtain ⟨Fz, d, e, ob, sub, hx, hy, ho, q⟩ := h
  obtain ⟨k, hk, rfl⟩ := cmpO_eq ho
  rw [Option.map_eq_some_iff] at hk
  obtain ⟨k, hk, rfl⟩ := hk
  unfold inf at hk
  split at hk
  · obtain ⟨hl, rfl⟩ := ite_some hk
    obtain ⟨h1, h2⟩ := b2 hl
    have n1 : isD d = false := by simpa using h1
    have h3 := of_decide_eq_true h2
    obtain ⟨as, p1⟩ := Dp.reads I d x v (hK ▸ hx.dp sub n1) rx
    obtain ⟨bs, p2⟩ := Dp.reads I _ y u (hK ▸ hy.dp sub rfl) ry
    have hlay := hy.lay rfl
    rw [PyData.canLay0] at hlay
    exact SeqAt.notIn_list_reads p2 p1 hlay (hx.lay n1) (by omega) ⟨.bl _, H, I, rfl, q.sc sub (.bl _)⟩
  · obtain ⟨hl, rfl⟩ := ite_some hk
    obtain ⟨h1, h2⟩ := b2 hl
    have n1 : isD d = false := by simpa using h1
    have h3 := of_decide_eq_true h2
    obtain ⟨as, p1⟩ := Dp.reads I d x v (hK ▸ hx.dp sub n1) rx
    obtain ⟨bs, p2⟩ := Dp.reads I _ y u (hK ▸ hy.dp sub rfl) ry
    have hlay := hy.lay rfl
    rw [PyData.canLay0] at hlay
    exact SeqAt.notIn_tuple_reads p2 p1 hlay (hx.lay n1) (by omega) ⟨.bl _, H, I, rfl, q.sc sub (.bl _)⟩
  · split at hk
    · cases hk
      obtain ⟨rfl, _⟩ := hx.str; obtain ⟨rfl, _⟩ := hy.str
      exact op_notin_str pins s σ H _ _ v u Q I rx ry ⟨_, _, rfl, rfl, q.sc sub (.bl _)⟩
    · cases hk
  · cases hk

theorem atI_rf {Fz : Hp} {vs : List V} {xs : List PV} {i : Int} {d : PV} (r : RFs G.K Fz vs xs) (h : atI xs i = some d) : ∃ v, atI vs i = some v ∧ RF G.K Fz v d := by
  unfold atI at h ⊢
  rw [r.length]
  cases e : ixN xs.length i with
  | none => rw [e] at h; cases h
  | some j =>
    rw [e] at h
    exact r.get h
theorem strOk_one {z : Str} (h : PyData.strOk z = true) {c : Nat} (hc : c ∈ z.cps.toList) : PyData.strOk ⟨#[c]⟩ = true := by
  unfold PyData.strOk at h ⊢
  rw [← Array.all_toList, List.all_eq_true] at h
  have := h c hc
  simpa using this
theorem ix_A : IxR X (r2 G idxf) := by
  intro e1 e2 pins s σ H x y v u Q I rx ry h hsb
  obtain ⟨Fz, d, e, ob, sub, hx, hy, ho, q⟩ := h
  unfold idxf at ho
  split at ho
  · rw [Option.map_eq_some_iff] at ho
    obtain ⟨d, hd, rfl⟩ := ho
    obtain ⟨a, vs, rfl, ha, ra⟩ := hx.list sub
    cases hy.int
    obtain ⟨w, hw, rw'⟩ := atI_rf hK ra hd
    exact ix_list e1 e2 pins s σ H _ _ v u Q I rx ry ⟨_, _, _, _, rfl, rfl, SqL.of ha, hw, q.sc sub rw'⟩ hsb
  · rw [Option.map_eq_some_iff] at ho
    obtain ⟨d, hd, rfl⟩ := ho
    obtain ⟨a, vs, rfl, ha, ra, _⟩ := hx.tuple sub
    cases hy.int
    obtain ⟨w, hw, rw'⟩ := atI_rf hK ra hd
    exact ix_tup e1 e2 pins s σ H _ _ v u Q I rx ry ⟨_, _, _, _, rfl, rfl, hK ▸ ha, hw, q.sc sub rw'⟩ hsb
  · obtain ⟨hl, ho⟩ := ite_sm ho
    rw [Option.map_eq_some_iff] at ho
    obtain ⟨c, hc, rfl⟩ := ho
    obtain ⟨rfl, so⟩ := hx.str
    cases hy.int
    obtain ⟨j, _, hj, _⟩ := atI_get hc
    exact ix_str e1 e2 pins s σ H _ _ v u Q I rx ry ⟨_, _, _, rfl, rfl, hl, hc, q.sc sub (.str (strOk_one hK so (List.mem_of_getElem? hj)))⟩ hsb
  · cases ho
def rS (G : Gx) : V → Option Int → Option Int → Hp → VK → Prop := fun x lo hi H Q => ∃ Fz d ob, Same Fz H ∧ VW G.K Fz H x d ∧ slicef d lo hi = some ob ∧ Res G Fz H ob Q
omit hK in
theorem SqL.mono {K : PySem.W.Frag} {H H' : Hp} (h : Same H H') {a : Addr} {xs : List V} (q : SqL K H a xs) : SqL K H' a xs := by
  rcases q with (q | ⟨o, q⟩) | q
  · exact .inl (.inl (h _ _ q))
  · exact .inl (.inr ⟨o, h _ _ q⟩)
  · exact .inr q
theorem sl_A : SlR X (rS G) := by
  intro pins s σ H x v vl vu lo hi sl Q I rx hs pl pu h
  obtain ⟨Fz, d, ob, sub, hx, ho, q⟩ := h
  unfold slicef at ho
  split at ho
  · cases ho
    obtain ⟨a, vs, rfl, ha, ra⟩ := hx.list sub
    exact sl_list pins s σ H _ v vl vu lo hi sl Q I rx hs pl pu ⟨_, _, rfl, SqL.of ha, q.lst sub (ra.cut lo hi)⟩
  · cases ho
    obtain ⟨a, vs, rfl, ha, ra, ga⟩ := hx.tuple sub
    refine sl_tupA pins s σ H _ v vl vu lo hi sl Q I rx hs pl pu ⟨_, _, rfl, hK ▸ ha, fun e => ?_, fun _ => q.tup sub (ra.cut lo hi)⟩
    have e2 := ra.cut lo hi
    have e3 : cutV vs lo hi = vs := by
      unfold cutV
      rw [e.1, e.2, List.drop_zero, Nat.sub_zero, List.take_length]
    rw [e3] at e2
    exact q.sc sub (.tup ga e2)
  · cases ho
    cases hx with
    | fz r => cases r
    | ro ha ra =>
      exact sl_list pins s σ H _ v vl vu lo hi sl Q I rx hs pl pu ⟨_, _, rfl, hK ▸ SqL.mono sub ha, q.lst sub (ra.cut lo hi)⟩
  · cases ho
theorem pe_revA {e : Expr} {te : TE} {k : Nat} {p1 p2 p3 pos : Pos} (he : PE X e te)
    (mono : ∀ σ H Q Q', (∀ x H1, Q x H1 → Q' x H1) → te σ H Q → te σ H Q') :
    PE X (.Subscript e (.Slice none none (some (.UnaryOp .USub (.Constant (.int 1) k p1) p2)) p3) pos) (fun σ H Q => te σ H fun x H1 => r1 G revf x H1 Q) := by
  refine ⟨fun pins s σ H Q I h => (pe_revB he).run pins s σ H Q I (mono σ H _ _ (fun x H1 hr => ?_) h)⟩
  obtain ⟨Fz, d, ob, sub, hx, ho, q⟩ := hr
  unfold revf at ho
  split at ho
  · cases ho
    obtain ⟨a, vs, rfl, ha, ra⟩ := hx.list sub
    exact .inl ⟨_, _, rfl, SqL.of ha, q.lst sub ra.rev⟩
  · cases ho
    obtain ⟨a, vs, rfl, ha, ra, _⟩ := hx.tuple sub
    exact .inr ⟨_, _, rfl, hK ▸ ha, q.tup sub ra.rev⟩
  · cases ho

theorem call_lenA : CallR X (.builtin "len") (r1L G lenf) := by
  intro pins s σ H xs us Q I rx h
  obtain ⟨x, rfl, Fz, d, ob, sub, hx, ho, q⟩ := h
  unfold lenf at ho
  split at ho
  · cases vI_eq ho
    obtain ⟨a, vs, rfl, ha, ra⟩ := hx.list sub
    exact call_len_seq pins s σ H _ us Q I rx ⟨_, _, rfl, .inl (SqL.of ha), by rw [ra.length]; exact q.sc sub (.int _)⟩
  · cases vI_eq ho
    obtain ⟨a, vs, rfl, ha, ra, _⟩ := hx.tuple sub
    exact call_len_seq pins s σ H _ us Q I rx ⟨_, _, rfl, .inr (hK ▸ ha), by rw [ra.length]; exact q.sc sub (.int _)⟩
  · obtain ⟨hl, ho⟩ := ite_sm ho
    cases vI_eq ho
    obtain ⟨rfl, so⟩ := hx.str
    exact call_len_str pins s σ H _ us Q I rx ⟨_, rfl, hl, q.sc sub (.int _)⟩
  · cases ho
theorem call_absA : CallR X (.builtin "abs") (r1L G absf) := by
  intro pins s σ H xs us Q I rx h
  obtain ⟨x, rfl, Fz, d, ob, sub, hx, ho, q⟩ := h
  unfold absf at ho
  split at ho
  · cases vI_eq ho
    cases hx.int
    exact call_abs pins s σ H _ us Q I rx ⟨_, rfl, q.sc sub (.int _)⟩
  · cases ho
theorem call_intA : CallR X (.type "int") (r1L G intf) := by
  intro pins s σ H xs us Q I rx h
  obtain ⟨x, rfl, Fz, d, ob, sub, hx, ho, q⟩ := h
  unfold intf at ho
  split at ho
  · cases vI_eq ho
    cases hx.int
    exact call_int1 pins s σ H _ us Q I rx (.inl ⟨_, rfl, q.sc sub (.int _)⟩)
  · cases vI_eq ho
    cases hx.bl
    exact call_int1 pins s σ H _ us Q I rx (.inr ⟨_, rfl, q.sc sub (.int _)⟩)
  · cases ho
theorem call_strA : CallR X (.type "str") (r1L G strf) := by
  intro pins s σ H xs us Q I rx h
  obtain ⟨x, rfl, Fz, d, ob, sub, hx, ho, q⟩ := h
  unfold strf at ho
  split at ho
  · split at ho
    · rename_i hc
      rw [Bool.and_eq_true] at hc
      obtain ⟨h1, h2⟩ := hc
      cases ho
      cases hx.int
      exact call_str_int pins s σ H _ us Q I rx ⟨_, rfl, of_decide_eq_true h1, q.sc sub (.str h2)⟩
    · cases ho
  · cases ho
theorem call_boolA : CallR X (.type "bool") (r1L G boolf) := by
  intro pins s σ H xs us Q I rx h
  obtain ⟨x, rfl, Fz, d, ob, sub, hx, ho, q⟩ := h
  unfold boolf at ho
  split at ho
  · cases vB_eq ho
    cases hx.int
    exact call_bool1 pins s σ H _ us Q I rx (.inl ⟨_, rfl, q.sc sub (.bl _)⟩)
  · cases vB_eq ho
    cases hx.bl
    exact call_bool1 pins s σ H _ us Q I rx (.inr ⟨_, rfl, q.sc sub (.bl _)⟩)
  · cases ho
theorem call_tupleA : CallR X (.type "tuple") (r1L G tuplef) := by
  intro pins s σ H xs us Q I rx h
  obtain ⟨x, rfl, Fz, d, ob, sub, hx, ho, q⟩ := h
  unfold tuplef at ho
  split at ho
  · cases ho
    obtain ⟨a, vs, rfl, ha, ra⟩ := hx.list sub
    exact call_tuple_of pins s σ H _ us Q I rx ⟨_, _, rfl, .inl ⟨SqL.of ha, q.tup sub ra⟩⟩
  · cases ho
    obtain ⟨a, vs, rfl, ha, ra, ga⟩ := hx.tuple sub
    exact call_tuple_of pins s σ H _ us Q I rx ⟨_, _, rfl, .inr ⟨hK ▸ ha, q.sc sub (.tup ga ra)⟩⟩
  · cases ho
theorem call_listA : CallR X (.type "list") (r1L G listf) := by
  intro pins s σ H xs us Q I rx h
  obtain ⟨x, rfl, Fz, d, ob, sub, hx, ho, q⟩ := h
  unfold listf at ho
  split at ho
  · cases ho
    obtain ⟨a, vs, rfl, ha, ra⟩ := hx.list sub
    exact call_list_of pins s σ H _ us Q I rx ⟨_, _, rfl, .inl (SqL.of ha), q.lst sub ra⟩
  · cases ho
    obtain ⟨a, vs, rfl, ha, ra, ga⟩ := hx.tuple sub
    exact call_list_of pins s σ H _ us Q I rx ⟨_, _, rfl, .inr (hK ▸ ha), q.lst sub ra⟩
  · cases ho
theorem call_allA (hc : X.calm = true) : CallR X (.builtin "all") (r1L G allf) := by
  intro pins s σ H xs us Q I rx h
  obtain ⟨x, rfl, Fz, d, ob, sub, hx, ho, q⟩ := h
  unfold allf at ho
  split at ho
  · rw [Option.bind_eq_some_iff] at ho
    obtain ⟨bs, hb, ho⟩ := ho
    cases vB_eq ho
    obtain ⟨a, vs, rfl, ha, ra⟩ := hx.list sub
    rw [bBools_some hb] at ra
    rw [ra.bls] at ha
    exact cr_all hc pins s σ H _ us Q I rx ⟨_, bs, rfl, SqL.of ha, q.sc sub (.bl _)⟩
  · cases ho
theorem call_anyA (hc : X.calm = true) : CallR X (.builtin "any") (r1L G anyf) := by
  intro pins s σ H xs us Q I rx h
  obtain ⟨x, rfl, Fz, d, ob, sub, hx, ho, q⟩ := h
  unfold anyf at ho
  split at ho
  · rw [Option.bind_eq_some_iff] at ho
    obtain ⟨bs, hb, ho⟩ := ho
    cases vB_eq ho
    obtain ⟨a, vs, rfl, ha, ra⟩ := hx.list sub
    rw [bBools_some hb] at ra
    rw [ra.bls] at ha
    exact cr_any hc pins s σ H _ us Q I rx ⟨_, bs, rfl, SqL.of ha, q.sc sub (.bl _)⟩
  · cases ho
theorem call_sumA (hc : X.calm = true) : CallR X (.builtin "sum") (r1L G sumf) := by
  intro pins s σ H xs us Q I rx h
  obtain ⟨x, rfl, Fz, d, ob, sub, hx, ho, q⟩ := h
  unfold sumf at ho
  split at ho
  · rw [Option.bind_eq_some_iff] at ho
    obtain ⟨bs, hb, ho⟩ := ho
    cases vI_eq ho
    obtain ⟨a, vs, rfl, ha, ra⟩ := hx.list sub
    rw [bInts_some hb] at ra
    rw [ra.ints] at ha
    exact cr_sum hc pins s σ H _ us Q I rx ⟨_, bs, rfl, SqL.of ha, q.sc sub (.int _)⟩
  · cases ho
omit hK in
theorem lastMax_le : ∀ (ns : List Int) (m : Int), m ≤ lastMax m ns
  | [], m => Int.le_refl _
  | i :: r, m => by
    unfold lastMax
    have := lastMax_le r (if i > m then i else m)
    split at this <;> rename_i h <;> first | (rw [if_pos h]; omega) | (rw [if_neg h]; omega)
omit hK in
theorem lastMax_uniq : ∀ (ns : List Int) (m k : Int), k ∈ m :: ns → (∀ y, y ∈ m :: ns → y ≤ k) → lastMax m ns = k
  | [], m, k, h, _ => by simp at h; rw [h]; rfl
  | i :: r, m, k, h, hle => by
    unfold lastMax
    have h1 := hle m (by simp)
    have h2 := hle i (by simp)
    have h3 : ∀ y, y ∈ r → y ≤ k := fun y hy => hle y (by simp [hy])
    by_cases c : i > m
    · rw [if_pos c]
      refine lastMax_uniq r i k ?_ fun y hy => ?_
      · simp only [List.mem_cons] at h ⊢
        rcases h with h | h | h
        · left; omega
        · exact .inl h
        · exact .inr h
      · simp only [List.mem_cons] at hy
        rcases hy with h | h
        · omega
        · exact h3 y h
    · rw [if_neg c]
      refine lastMax_uniq r m k ?_ fun y hy => ?_
      · simp only [List.mem_cons] at h ⊢
        rcases h with h | h | h
        · exact .inl h
        · left; omega
        · exact .inr h
      · simp only [List.mem_cons] at hy
        rcases hy with h | h
        · omega
        · exact h3 y h
omit hK in
theorem lastMin_uniq : ∀ (ns : List Int) (m k : Int), k ∈ m :: ns → (∀ y, y ∈ m :: ns → k ≤ y) → lastMin m ns = k
  | [], m, k, h, _ => by simp at h; rw [h]; rfl
  | i :: r, m, k, h, hle => by
    unfold lastMin
    have h1 := hle m (by simp)
    have h2 := hle i (by simp)
    have h3 : ∀ y, y ∈ r → k ≤ y := fun y hy => hle y (by simp [hy])
    by_cases c : i < m
    · rw [if_pos c]
      refine lastMin_uniq r i k ?_ fun y hy => ?_
      · simp only [List.mem_cons] at h ⊢
        rcases h with h | h | h
        · left; omega
        · exact .inl h
        · exact .inr h
      · simp only [List.mem_cons] at hy
        rcases hy with h | h
        · omega
        · exact h3 y h
    · rw [if_neg c]
      refine lastMin_uniq r m k ?_ fun y hy => ?_
      · simp only [List.mem_cons] at h ⊢
        rcases h with h | h | h
        · exact .inl h
        · left; omega
        · exact .inr h
      · simp only [List.mem_cons] at hy
        rcases hy with h | h
        · omega
        · exact h3 y h
theorem call_max1A (hc : X.calm = true) : CallR X (.builtin "max") (r1L G max1f) := by
  intro pins s σ H xs us Q I rx h
  obtain ⟨x, rfl, Fz, d, ob, sub, hx, ho, q⟩ := h
  unfold max1f at ho
  split at ho
  · split at ho
    · rename_i n ns hb
      cases vI_eq ho
      obtain ⟨a, vs, rfl, ha, ra⟩ := hx.list sub
      rw [bInts_some hb] at ra
      rw [ra.ints] at ha
      exact cr_max hc pins s σ H _ us Q I rx ⟨_, n :: ns, rfl, SqL.of ha, by simp, fun m hm hle => by rw [← lastMax_uniq ns n m hm hle]; exact q.sc sub (.int _)⟩
    · cases ho
  · cases ho
theorem call_min1A (hc : X.calm = true) : CallR X (.builtin "min") (r1L G min1f) := by
  intro pins s σ H xs us Q I rx h
  obtain ⟨x, rfl, Fz, d, ob, sub, hx, ho, q⟩ := h
  unfold min1f at ho
  split at ho
  · split at ho
    · rename_i n ns hb
      cases vI_eq ho
      obtain ⟨a, vs, rfl, ha, ra⟩ := hx.list sub
      rw [bInts_some hb] at ra
      rw [ra.ints] at ha
      exact cr_min hc pins s σ H _ us Q I rx ⟨_, n :: ns, rfl, SqL.of ha, by simp, fun m hm hle => by rw [← lastMin_uniq ns n m hm hle]; exact q.sc sub (.int _)⟩
    · cases ho
  · cases ho
theorem call_max2A (hc : X.calm = true) : CallR X (.builtin "max") (r2L G max2f) := by
  intro pins s σ H xs us Q I rx h
  obtain ⟨x, y, rfl, Fz, d, e, ob, sub, hx, hy, ho, q⟩ := h
  unfold max2f at ho
  split at ho
  · cases vI_eq ho
    cases hx.int; cases hy.int
    exact call_max2 hc pins s σ H _ us Q I rx ⟨_, _, rfl, q.sc sub (.int _)⟩
  · cases ho
theorem call_min2A (hc : X.calm = true) : CallR X (.builtin "min") (r2L G min2f) := by
  intro pins s σ H xs us Q I rx h
  obtain ⟨x, y, rfl, Fz, d, e, ob, sub, hx, hy, ho, q⟩ := h
  unfold min2f at ho
  split at ho
  · cases vI_eq ho
    cases hx.int; cases hy.int
    exact call_min2 hc pins s σ H _ us Q I rx ⟨_, _, rfl, q.sc sub (.int _)⟩
  · cases ho

/-- the type of a view -/
def tyOf : PV → String
  | .none => "NoneType" | .bool _ => "bool" | .int _ => "int" | .str _ => "str" | .list _ => "list" | .tuple _ => "tuple" | .dict _ => "dict"
theorem VW.ty {Fz H : Hp} {x : V} {d : PV} (h : VW G.K Fz H x d) (sub : Same Fz H) (nd : isD d = false) : TyX X.K H x (.type (tyOf d)) := by
  rw [hK]
  cases d with
  | none => cases h.non; exact .base .non
  | bool b => cases h.bl; exact .base (.bl _)
  | int b => cases h.int; exact .base (.int _)
  | str b => obtain ⟨rfl, _⟩ := h.str; exact .base (.str _)
  | list xs => obtain ⟨a, vs, rfl, ha, _⟩ := h.list sub; exact .base (.lst ha)
  | tuple xs =>
    obtain ⟨a, vs, rfl, ha, _⟩ := h.tuple sub
    rcases ha with (ha | ⟨o, ha⟩) | ⟨o, its, n, hk, hc, _⟩
    · exact .base (.tup ha)
    · exact .fTuple ha
    · exact .kTuple hk hc
  | dict _ => cases nd
/-- isinstance(x, T), T a built-in type -/
theorem call_isA {n : String} {p : PV → Bool} (hp : ∀ d, isD d = false → kitB (tyOf d) n = some (p d)) :
    CallR X (.builtin "isinstance") (fun xs H Q => ∃ x, xs = [x, .ty n] ∧ r1 G (kindf p) x H Q) := by
  intro pins s σ H xs us Q I rx h
  obtain ⟨x, rfl, Fz, d, ob, sub, hx, ho, q⟩ := h
  unfold kindf at ho
  by_cases nd : isD d = true
  · rw [if_pos nd] at ho; cases ho
  · rw [if_neg nd] at ho
    cases vB_eq ho
    have nd : isD d = false := by simpa using nd
    exact call_isi pins s σ H _ us Q I rx ⟨x, _, _, _, _, rfl, .ty n, VW.ty hK hx sub nd, kit_ty (hp d nd), q.sc sub (.bl _)⟩
end
end Pv
-- PvCtx
set_option maxRecDepth 100000
namespace Pv
open PySem L2

structure StOk (G : Gx) (env : En) (σ : St) (Fz H : Hp) : Prop where
  len : env.length = σ.length
  sub : Same Fz H
  rep : ∀ (i : Nat) (ob : Ob), env[i]? = some (some ob) → ∃ v, σ[i]? = some (some v) ∧ RO G Fz H ob v
  sep : ∀ (i j : Nat) (a : Addr) (oi oj : Ob), i ≠ j → env[i]? = some (some oi) → env[j]? = some (some oj) → oi.mut = true → oj.mut = true → σ[i]? = some (some (.ref a)) → σ[j]? = some (some (.ref a)) → False
/-- the lists of one's own -/
def Own (env : En) (σ : St) (a : Addr) : Prop := ∃ (i : Nat) (o : Ob), env[i]? = some (some o) ∧ o.mut = true ∧ σ[i]? = some (some (.ref a))
/-- what is kept between two states -/
structure FrO (O O' : Addr → Prop) (Fz H Fz' H' : Hp) : Prop where
  hh : ∀ a o, H a = some o → ¬ O a → H' a = some o
  dm : ∀ a, H a ≠ none → H' a ≠ none
  ff : Same Fz Fz'
  nw : ∀ a, H a ≠ none → ¬ O a → Fz a = none → Fz' a = none
  ow : ∀ a, O' a → O a ∨ H a = none
theorem FrO.refl {O : Addr → Prop} {Fz H : Hp} : FrO O O Fz H Fz H := ⟨fun _ _ h _ => h, fun _ h => h, Same.refl _, fun _ _ _ h => h, fun _ h => .inl h⟩
theorem FrO.trans {O O1 O2 : Addr → Prop} {Fz H Fz1 H1 Fz2 H2 : Hp} (a : FrO O O1 Fz H Fz1 H1) (b : FrO O1 O2 Fz1 H1 Fz2 H2) : FrO O O2 Fz H Fz2 H2 where
  hh := fun c o h n => b.hh c o (a.hh c o h n) fun q => (a.ow c q).elim n fun z => by rw [h] at z; cases z
  dm := fun c h => b.dm c (a.dm c h)
  ff := a.ff.trans b.ff
  nw := fun c h n z => b.nw c (a.dm c h) (fun q => (a.ow c q).elim n h) (a.nw c h n z)
  ow := fun c q => (b.ow c q).elim (a.ow c) fun z => by
    by_cases h : H c = none
    · exact .inr h
    · exact absurd z (a.dm c h)
theorem FrO.of_ext {O : Addr → Prop} {Fz H Fz' H' : Hp} (e : Ext Fz H Fz' H') : FrO O O Fz H Fz' H' :=
  ⟨fun a o h _ => e.hh a o h, fun a h => by
    cases q : H a with
    | none => exact absurd q h
    | some o => rw [e.hh a o q]; simp, e.ff, fun a h _ z => e.nw a h z, fun _ h => .inl h⟩
theorem FrO.same {O O' : Addr → Prop} {Fz H : Hp} (h : ∀ a, O' a → O a) : FrO O O' Fz H Fz H := ⟨fun _ _ h _ => h, fun _ h => h, Same.refl _, fun _ _ _ h => h, fun a q => .inl (h a q)⟩

/-- a value that has come by itself: nobody else holds it -/
def Fsh (ob : Ob) (v : V) (env : En) (σ : St) (H : Hp) : Prop := ob.mut = true → ∃ a, v = .ref a ∧ H a = none ∧ ¬ Own env σ a

section
variable {G : Gx}
theorem RO.step {O O' : Addr → Prop} {Fz H Fz' H' : Hp} (f : FrO O O' Fz H Fz' H') {ob : Ob} {v : V} (r : RO G Fz H ob v) (n : ob.mut = true → ∃ a, v = .ref a ∧ ¬ O a) : RO G Fz' H' ob v := by
  cases r with
  | v r => exact .v (r.mono f.ff)
  | ro a b => exact .ro (SqL.mono f.ff a) (b.mono f.ff)
  | ml a b c =>
    obtain ⟨x, e, nx⟩ := n rfl
    cases e
    exact .ml (f.hh _ _ a nx) (b.mono f.ff) (f.nw _ (ne_of_some a) nx c)
  | fn a => exact .fn a
theorem StOk.ext {env : En} {σ : St} {Fz H Fz' H' : Hp} (s : StOk G env σ Fz H) (e : Ext Fz H Fz' H') : StOk G env σ Fz' H' := by
  refine ⟨s.len, e.sub, fun i ob h => ?_, s.sep⟩
  obtain ⟨v, h1, h2⟩ := s.rep i ob h
  refine ⟨v, h1, ?_⟩
  cases h2 with
  | v r => exact .v (r.mono e.ff)
  | ro a b => exact .ro (SqL.mono e.ff a) (b.mono e.ff)
  | ml a b c => exact .ml (e.hh _ _ a) (b.mono e.ff) (e.nw _ (ne_of_some a) c)
  | fn a => exact .fn a

/-- how an exception lies -/
def ExR (G : Gx) (cn : Nat → Str) (c : Nat) (as : List PV) (cls : Value) (d : Option Addr) (H : Hp) : Prop :=
  ∃ C, cls = .ref C ∧ G.mg (cn c) = some (.ref C) ∧ as = [] ∧ d = none

/-- what an evaluation from (env, σ, Fz, H) says -/
def PostE {α : Type} (G : Gx) (cn : Nat → Str) (W : WX) (env : En) (σ : St) (Fz H : Hp) (r : Rs α) (K : α → En → Hp → Hp → Prop) : Prop := match r with
  | .ok a env' => ∀ Fz' H', StOk G env' σ Fz' H' → FrO (Own env σ) (Own env' σ) Fz H Fz' H' → K a env' Fz' H'
  | .ex c as env' => ∀ cls d Fz' H', StOk G env' σ Fz' H' → FrO (Own env σ) (Own env' σ) Fz H Fz' H' → ExR G cn c as cls d H' → W cls d σ H'
  | .no => False

section
variable {cn : Nat → Str} {W : WX} {env : En} {σ : St} {Fz H : Hp} {α β : Type}
theorem PostE.split {r : Rs α} {k : α → En → Rs β} {K : β → En → Hp → Hp → Prop} (p : PostE G cn W env σ Fz H (r.bind k) K) :
    PostE G cn W env σ Fz H r (fun a env1 Fz1 H1 => PostE G cn W env1 σ Fz1 H1 (k a env1) K) := by
  cases r with
  | ok a env1 =>
    intro Fz1 H1 s1 f1
    have p : PostE G cn W env σ Fz H (k a env1) K := p
    show PostE G cn W env1 σ Fz1 H1 (k a env1) K
    cases q : k a env1 with
    | ok b env2 =>
      rw [q] at p
      exact fun Fz2 H2 s2 f2 => p Fz2 H2 s2 (f1.trans f2)
    | ex c as env2 =>
      rw [q] at p
      exact fun cls d Fz2 H2 s2 f2 e => p cls d Fz2 H2 s2 (f1.trans f2) e
    | no => rw [q] at p; exact p
  | ex c as env1 => exact p
  | no => exact p
theorem PostE.mono {r : Rs α} {K K' : α → En → Hp → Hp → Prop} (p : PostE G cn W env σ Fz H r K)
    (h : ∀ a env' Fz' H', StOk G env' σ Fz' H' → FrO (Own env σ) (Own env' σ) Fz H Fz' H' → K a env' Fz' H' → K' a env' Fz' H') : PostE G cn W env σ Fz H r K' := by
  cases r with
  | ok a env1 => exact fun Fz1 H1 s1 f1 => h _ _ _ _ s1 f1 (p Fz1 H1 s1 f1)
  | ex c as env1 => exact p
  | no => exact p
theorem PostE.ok {a : α} {K : α → En → Hp → Hp → Prop} (s : StOk G env σ Fz H) (p : PostE G cn W env σ Fz H (.ok a env) K) : K a env Fz H := p Fz H s FrO.refl
end
end

section
variable (G : Gx) (cf : Nat → List Ob → CR) (lk : List Nat) (cn : Nat → Str) (W : WX)
def KV' (Q : VK) (env0 : En) (σ : St) (H : Hp) : Ob → En → Hp → Hp → Prop := fun ob env' Fz' H' => ∀ v, RO G Fz' H' ob v → Fsh ob v env' σ H → Q v H'
def tE (ir : IE) : TE := fun σ H Q => ∃ env Fz, StOk G env σ Fz H ∧ PostE G cn W env σ Fz H (evE cf lk ir env) (KV' G Q env σ H)
def tT (ir : IE) : TT := fun σ H Q => ∃ env Fz, StOk G env σ Fz H ∧ PostE G cn W env σ Fz H (evT cf lk ir env) fun b env' Fz' H' => Q b H'
/-- an argument: a name or what has come -/
def evA1 (e : IE) (env : En) : Rs Ag := match e.isX with
  | some i => (match env[i]? with
    | some (some _) => .ok (.inl i) env
    | _ => .no)
  | none => (evE cf lk e env).bind fun o env => .ok (.inr o) env
def AgR (ag : Ag) (x : V) (env : En) (σ : St) (Fz H H0 : Hp) : Prop := match ag with
  | .inl i => σ[i]? = some (some x)
  | .inr o => RO G Fz H o x ∧ Fsh o x env σ H0
def tArg (ir : IE) : TE := fun σ H Q => ∃ env Fz, StOk G env σ Fz H ∧ PostE G cn W env σ Fz H (evA1 cf lk ir env) fun ag env' Fz' H' => ∀ x, AgR G ag x env' σ Fz' H' H → Q x H'
end
theorem evA_cons (cf : Nat → List Ob → CR) (lk : List Nat) (io : Bool) (e : IE) (es : IEs) (env : En) :
    evA cf lk (.cons io e es) env = (evA1 cf lk e env).bind fun ag env => (evA cf lk es env).bind fun as env => .ok ((io, ag) :: as) env := by
  rw [evA, evA1]
  cases h : e.isX with
  | none =>
    simp only
    cases evE cf lk e env <;> rfl
  | some i =>
    simp only
    cases h2 : env[i]? with
    | none => rfl
    | some o => cases o <;> rfl
theorem AgR.step {G : Gx} {ag : Ag} {x : V} {env env' : En} {σ : St} {Fz H Fz' H' H0 : Hp} (r : AgR G ag x env σ Fz H H0) (f : FrO (Own env σ) (Own env' σ) Fz H Fz' H') : AgR G ag x env' σ Fz' H' H0 := by
  cases ag with
  | inl i => exact r
  | inr o =>
    obtain ⟨r, fr⟩ := r
    refine ⟨r.step f fun m => ?_, fun m => ?_⟩
    · obtain ⟨a, e, _, n⟩ := fr m
      exact ⟨a, e, n⟩
    · obtain ⟨a, e, h0, n⟩ := fr m
      refine ⟨a, e, h0, fun q => (f.ow a q).elim n fun z => ?_⟩
      subst e
      cases r with
      | ml ha _ _ => rw [ha] at z; cases z
      | v _ => cases m
      | ro _ _ => cases m
      | fn _ => cases m
/-- what is looked at is there -/
theorem AgR.res {G : Gx} {env : En} {σ : St} {Fz H H0 : Hp} (s : StOk G env σ Fz H) {ag : Ag} {x : V} {o : Ob} {os : List Ob} {ags : List Ag} (r : AgR G ag x env σ Fz H H0)
    (h : resolve env (ag :: ags) = some (o :: os)) : RO G Fz H o x ∧ resolve env ags = some os := by
  cases ag with
  | inl i =>
    rw [resolve] at h
    split at h
    · rename_i o' os' h1 h2
      cases h
      obtain ⟨v, e1, e2⟩ := s.rep i o h1
      have r : σ[i]? = some (some x) := r
      rw [r] at e1
      cases e1
      exact ⟨e2, h2⟩
    · cases h
  | inr o' =>
    rw [resolve, Option.map_eq_some_iff] at h
    obtain ⟨os', h1, h2⟩ := h
    cases h2
    exact ⟨r.1, h1⟩
theorem resolve_cons {env : En} {ag : Ag} {ags : List Ag} {l : List Ob} (h : resolve env (ag :: ags) = some l) : ∃ o os, l = o :: os := by
  cases ag with
  | inl i =>
    rw [resolve] at h
    split at h
    · cases h; exact ⟨_, _, rfl⟩
    · cases h
  | inr o =>
    rw [resolve, Option.map_eq_some_iff] at h
    obtain ⟨os', h1, h2⟩ := h
    exact ⟨_, _, h2.symm⟩
theorem views_cons {o : Ob} {os : List Ob} {ds : List PV} (h : views (o :: os) = some ds) : ∃ d es, o.view = some d ∧ views os = some es ∧ ds = d :: es := by
  rw [views] at h
  split at h
  · cases h; exact ⟨_, _, by assumption, by assumption, rfl⟩
  · cases h
end Pv
-- PvExpr
set_option maxRecDepth 100000
namespace Pv
open PySem L2

theorem PE.imp {X : Cx} {e : Expr} {t t' : TE} (h : PE X e t) (i : ∀ σ H Q, t' σ H Q → t σ H Q) : PE X e t' := ⟨fun pins s σ H Q I q => h.run pins s σ H Q I (i σ H Q q)⟩
theorem PT.imp {X : Cx} {e : Expr} {t t' : TT} (h : PT X e t) (i : ∀ σ H Q, t' σ H Q → t σ H Q) : PT X e t' := ⟨fun pins s σ H Q I q => h.run pins s σ H Q I (i σ H Q q)⟩
theorem PW.imp {X : Cx} {e : Expr} {t t' : TT} (h : PW X e t) (i : ∀ σ H Q, t' σ H Q → t σ H Q) : PW X e t' := ⟨fun wh pins s σ H Q I q => h.run wh pins s σ H Q I (i σ H Q q)⟩
theorem PA.imp {X : Cx} {e : List Expr} {t t' : TA} (h : PA X e t) (i : ∀ σ H Q, t' σ H Q → t σ H Q) : PA X e t' := ⟨fun pos pins s σ H Q I q => h.run pos pins s σ H Q I (i σ H Q q)⟩

section
variable {G : Gx} {cn : Nat → Str} {W : WX} {σ : St} {α β : Type}
theorem PostE.split0 {env : En} {Fz H : Hp} {r : Rs α} {k : α → En → Rs β} {K : β → En → Hp → Hp → Prop} (p : PostE G cn W env σ Fz H (r.bind k) K) :
    PostE G cn W env σ Fz H r (fun a env1 _ _ => PostE G cn W env σ Fz H (k a env1) K) := by
  cases r with
  | ok a env1 => exact fun _ _ _ _ => p
  | ex c as env1 => exact p
  | no => exact p
theorem PostE.shift {env env1 : En} {Fz H Fz1 H1 : Hp} (f : FrO (Own env σ) (Own env1 σ) Fz H Fz1 H1) {r : Rs α} {K : α → En → Hp → Hp → Prop} (p : PostE G cn W env σ Fz H r K) : PostE G cn W env1 σ Fz1 H1 r K := by
  cases r with
  | ok a env2 => exact fun Fz2 H2 s2 f2 => p Fz2 H2 s2 (f.trans f2)
  | ex c as env2 => exact fun cls d Fz2 H2 s2 f2 => p cls d Fz2 H2 s2 (f.trans f2)
  | no => exact p

/-- the arguments' values, in a row -/
inductive AgRs (G : Gx) (env : En) (σ : St) (Fz H H0 : Hp) : List Ag → List V → Prop
  | nil : AgRs G env σ Fz H H0 [] []
  | cons {ag : Ag} {x : V} {ags : List Ag} {xs : List V} : AgR G ag x env σ Fz H H0 → AgRs G env σ Fz H H0 ags xs → AgRs G env σ Fz H H0 (ag :: ags) (x :: xs)
theorem AgRs.res {env : En} {Fz H H0 : Hp} (s : StOk G env σ Fz H) : ∀ {ags : List Ag} {xs : List V} {os : List Ob}, AgRs G env σ Fz H H0 ags xs → resolve env ags = some os → Paired (fun (x : V) (o : Ob) => RO G Fz H o x) xs os
  | _, _, _, .nil, h => by rw [resolve] at h; cases h; exact .nil
  | _, _, _, .cons r t, h => by
    obtain ⟨o, os, rfl⟩ := resolve_cons h
    obtain ⟨h1, h2⟩ := r.res s h
    exact .cons h1 (AgRs.res s t h2)
theorem AgRs.step {env env' : En} {Fz H Fz' H' H0 : Hp} (f : FrO (Own env σ) (Own env' σ) Fz H Fz' H') : ∀ {ags : List Ag} {xs : List V}, AgRs G env σ Fz H H0 ags xs → AgRs G env' σ Fz' H' H0 ags xs
  | _, _, .nil => .nil
  | _, _, .cons r t => .cons (r.step f) (AgRs.step f t)
theorem Fsh.older {env0 env1 : En} {Fz H Fz1 H1 : Hp} (f : FrO (Own env0 σ) (Own env1 σ) Fz H Fz1 H1) {ob : Ob} {v : V} {env : En} (x : Fsh ob v env σ H1) : Fsh ob v env σ H := fun m => by
  obtain ⟨a, e, h, n⟩ := x m
  refine ⟨a, e, ?_, n⟩
  cases q : H a with
  | none => rfl
  | some o => exact absurd h (f.dm a (by rw [q]; simp))
theorem AgR.older {env0 env1 : En} {Fz H Fz1 H1 : Hp} (f : FrO (Own env0 σ) (Own env1 σ) Fz H Fz1 H1) {ag : Ag} {x : V} {env : En} {Fz2 H2 : Hp} (r : AgR G ag x env σ Fz2 H2 H1) : AgR G ag x env σ Fz2 H2 H := by
  cases ag with
  | inl i => exact r
  | inr o => exact ⟨r.1, r.2.older f⟩
theorem AgRs.older {env0 env1 : En} {Fz H Fz1 H1 : Hp} (f : FrO (Own env0 σ) (Own env1 σ) Fz H Fz1 H1) {env : En} {Fz2 H2 : Hp} : ∀ {ags : List Ag} {xs : List V}, AgRs G env σ Fz2 H2 H1 ags xs → AgRs G env σ Fz2 H2 H ags xs
  | _, _, .nil => .nil
  | _, _, .cons r t => .cons (r.older f) (AgRs.older f t)

/-- an operation's end -/
theorem opEnd {env : En} {Fz H : Hp} {env0 : En} {Fz0 H0 : Hp} (s : StOk G env σ Fz H) (f : FrO (Own env0 σ) (Own env σ) Fz0 H0 Fz H) {ob : Ob} {Q : VK}
    (p : PostE G cn W env0 σ Fz0 H0 (.ok ob env) (KV' G Q env0 σ H0)) : Res G Fz H ob Q := fun v Fz' H' e r fr => by
  refine p Fz' H' (s.ext e) (f.trans (.of_ext e)) v r fun m => ?_
  obtain ⟨a, h1, h2⟩ := fr m
  refine ⟨a, h1, ?_, ?_⟩
  · cases q : H0 a with
    | none => rfl
    | some o => exact absurd h2 (f.dm a (by rw [q]; simp))
  · rintro ⟨i, o, e1, e2, e3⟩
    obtain ⟨w, e4, e5⟩ := s.rep i o e1
    rw [e3] at e4
    cases e4
    cases e5 with
    | ml ha _ _ => rw [ha] at h2; cases h2
    | v _ => cases e2
    | ro _ _ => cases e2
    | fn _ => cases e2
end

section
variable {X : Cx} {G : Gx} {cf : Nat → List Ob → CR} {lk : List Nat} {cn : Nat → Str} {W : WX} {e : Expr}

theorem tArg_mono {ir : IE} : ∀ σ H Q Q', (∀ x H1, Q x H1 → Q' x H1) → tArg G cf lk cn W ir σ H Q → tArg G cf lk cn W ir σ H Q' := fun σ H Q Q' i ⟨env, Fz, s, p⟩ =>
  ⟨env, Fz, s, p.mono fun _ _ _ _ _ _ h x r => i _ _ (h x r)⟩

/-- what is no name is an argument as it comes -/
theorem arg_of (h : PE X e (tE G cf lk cn W ir)) (hx : ir.isX = none) : PE X e (tArg G cf lk cn W ir) := by
  refine PE.imp h fun σ H Q ⟨env, Fz, s, p⟩ => ⟨env, Fz, s, ?_⟩
  rw [evA1, hx] at p
  have p := p.split0
  exact p.mono fun ob env1 Fz1 H1 s1 f1 q v r fr => q Fz1 H1 s1 f1 v ⟨r, fr⟩
/-- a name as an argument: it is looked at -/
theorem arg_x {i : Nat} (h : PE X e (tVar i)) : PE X e (tArg G cf lk cn W (.x i)) := by
  refine PE.imp h fun σ H Q ⟨env, Fz, s, p⟩ => ?_
  rw [evA1] at p
  simp only [IE.isX] at p
  split at p
  · rename_i o ho
    obtain ⟨v, h1, _⟩ := s.rep i o ho
    exact ⟨v, h1, p.ok s v h1⟩
  · exact p.elim
/-- a name as a value: a list of one's own is given away -/
theorem freezeSt {env : En} {σ : St} {Fz H : Hp} (s : StOk G env σ Fz H) {i : Nat} {xs : List PV} (hi : env[i]? = some (some (.ml xs))) :
    ∃ a vs, σ[i]? = some (some (.ref a)) ∧ H a = some (.lst vs) ∧ RFs G.K Fz vs xs ∧ StOk G (env.set i (some (.v (.list xs)))) σ (upd Fz a (.lst vs)) H ∧
      FrO (Own env σ) (Own (env.set i (some (.v (.list xs)))) σ) Fz H (upd Fz a (.lst vs)) H ∧ RF G.K (upd Fz a (.lst vs)) (.ref a) (.list xs) := by
  obtain ⟨v, h1, h2⟩ := s.rep i _ hi
  cases h2 with
  | @ml a vs _ ha hr hf =>
    have hilt : i < env.length := (List.getElem?_eq_some_iff.mp hi).1
    have ff : Same Fz (upd Fz a (.lst vs)) := Same.upd hf
    have rr : RF G.K (upd Fz a (.lst vs)) (.ref a) (.list xs) := .lst upd_same (hr.mono ff)
    have sub : Same (upd Fz a (.lst vs)) H := fun b u h => by
      by_cases e : b = a
      · subst e; rw [upd_same] at h; cases h; exact ha
      · rw [upd_ne e] at h; exact s.sub b u h
    have own : ∀ b, Own (env.set i (some (.v (.list xs)))) σ b → Own env σ b ∧ b ≠ a := fun b ⟨j, o, e1, e2, e3⟩ => by
      by_cases hj : i = j
      · subst hj
        rw [List.getElem?_set_self hilt] at e1
        cases e1
        cases e2
      · rw [List.getElem?_set_ne hj] at e1
        refine ⟨⟨j, o, e1, e2, e3⟩, fun e => ?_⟩
        subst e
        exact s.sep i j b _ _ hj hi e1 rfl e2 h1 e3
    refine ⟨a, vs, h1, ha, hr, ⟨by rw [List.length_set]; exact s.len, sub, fun j ob hj => ?_, fun j l b oj ol hne ej el mj ml_ sj sl => ?_⟩, ⟨fun _ _ h _ => h, fun _ h => h, ff, fun b hb nb hz => ?_, fun b hb => .inl (own b hb).1⟩, rr⟩
    · by_cases hji : i = j
      · subst hji
        rw [List.getElem?_set_self hilt] at hj
        cases hj
        exact ⟨_, h1, .v rr⟩
      · rw [List.getElem?_set_ne hji] at hj
        obtain ⟨w, w1, w2⟩ := s.rep j ob hj
        refine ⟨w, w1, ?_⟩
        cases w2 with
        | v r => exact .v (r.mono ff)
        | ro p q => exact .ro (SqL.mono ff p) (q.mono ff)
        | @ml b ws _ p q z =>
          refine .ml p (q.mono ff) ?_
          have : b ≠ a := fun e => by subst e; exact s.sep i j b _ _ hji hi hj rfl rfl h1 w1
          rw [upd_ne this]; exact z
        | fn p => exact .fn p
    · have g : ∀ (k : Nat) (ok : Ob), (env.set i (some (.v (.list xs))))[k]? = some (some ok) → ok.mut = true → env[k]? = some (some ok) := fun k ok hk hm => by
        by_cases hki : i = k
        · subst hki
          rw [List.getElem?_set_self hilt] at hk
          cases hk
          cases hm
        · rw [List.getElem?_set_ne hki] at hk; exact hk
      exact s.sep j l b oj ol hne (g j oj ej mj) (g l ol el ml_) mj ml_ sj sl
    · have : b ≠ a := fun e => nb ⟨i, _, hi, rfl, e ▸ h1⟩
      rw [upd_ne this]; exact hz
theorem nmut_fsh {ob : Ob} {v : V} {env : En} {σ : St} {H : Hp} (h : ob.mut = false) : Fsh ob v env σ H := fun m => by rw [h] at m; cases m
theorem tE_x {i : Nat} (h : PE X e (tVar i)) : PE X e (tE G cf lk cn W (.x i)) := by
  refine PE.imp h fun σ H Q ⟨env, Fz, s, p⟩ => ?_
  rw [evE, readX] at p
  split at p
  · rename_i o ho
    cases o with
    | v d =>
      obtain ⟨v, h1, h2⟩ := s.rep i _ ho
      exact ⟨v, h1, p.ok s v h2 (nmut_fsh rfl)⟩
    | fn f =>
      obtain ⟨v, h1, h2⟩ := s.rep i _ ho
      exact ⟨v, h1, p.ok s v h2 (nmut_fsh rfl)⟩
    | ml xs =>
      obtain ⟨a, vs, h1, ha, hr, s', f', rr⟩ := freezeSt s ho
      exact ⟨_, h1, p _ _ s' f' _ (.v rr) (nmut_fsh rfl)⟩
  · exact p.elim
theorem tE_c {d : PV} {v : V} (h : PE X e (tC v)) (hr : ∀ Fz, RF G.K Fz v d) : PE X e (tE G cf lk cn W (.c d)) := by
  refine PE.imp h fun σ H Q ⟨env, Fz, s, p⟩ => ?_
  rw [evE] at p
  exact p.ok s v (.v (hr Fz)) (nmut_fsh rfl)
theorem tE_f {f : Nat} {a : Addr} (h : PE X e (tC (.ref a))) (hm : G.mg (G.nm f) = some (.ref a)) : PE X e (tE G cf lk cn W (.f f)) := by
  refine PE.imp h fun σ H Q ⟨env, Fz, s, p⟩ => ?_
  rw [evE] at p
  exact p.ok s _ (.fn hm) (nmut_fsh rfl)

/-- one argument -/
theorem op1_tE {o : Op} {ia : IE} {io : Bool} {σ : St} {H : Hp} {Q : VK} (h : tE G cf lk cn W (.op o (.cons io ia .nil)) σ H Q) :
    tArg G cf lk cn W ia σ H fun x H1 => r1 G (opf1 o) x H1 Q := by
  obtain ⟨env, Fz, s, p⟩ := h
  rw [evE, evA_cons] at p
  have p := p.split0.split0
  refine ⟨env, Fz, s, p.mono fun ag env1 Fz1 H1 s1 f1 q x r => ?_⟩
  rw [evA] at q
  have q := q Fz1 H1 s1 f1
  simp only [List.map_cons, List.map_nil] at q
  cases e1 : resolve env1 [ag] with
  | none => rw [e1] at q; exact q.elim
  | some os =>
    rw [e1] at q
    obtain ⟨o1, os', rfl⟩ := resolve_cons e1
    obtain ⟨ro1, e2⟩ := r.res s1 e1
    rw [resolve] at e2; cases e2
    cases e3 : views [o1] with
    | none => simp only [Option.bind_some, e3, Option.bind_none] at q; exact q.elim
    | some ds =>
      obtain ⟨d, es, e4, e5, rfl⟩ := views_cons e3
      rw [views] at e5; cases e5
      simp only [Option.bind_some, e3] at q
      cases e6 : opf o [d] with
      | none => rw [e6] at q; exact q.elim
      | some ob =>
        rw [e6] at q
        exact ⟨Fz1, d, ob, s1.sub, ro1.view e4, e6, opEnd s1 f1 q⟩
/-- two arguments -/
theorem op2_tE {o : Op} {ia ib : IE} {i1 i2 : Bool} {σ : St} {H : Hp} {Q : VK} (h : tE G cf lk cn W (.op o (.cons i1 ia (.cons i2 ib .nil))) σ H Q) :
    tArg G cf lk cn W ia σ H fun x H1 => tArg G cf lk cn W ib σ H1 fun y H2 => r2 G (opf2 o) x y H2 Q := by
  obtain ⟨env, Fz, s, p⟩ := h
  rw [evE, evA_cons] at p
  have p := p.split0.split0
  refine ⟨env, Fz, s, p.mono fun ag env1 Fz1 H1 s1 f1 q x r => ?_⟩
  rw [evA_cons] at q
  have q := (q.split0.split0).shift f1
  refine ⟨env1, Fz1, s1, q.mono fun bg env2 Fz2 H2 s2 f2 q y r' => ?_⟩
  have f := f1.trans f2
  rw [evA] at q
  have q := q Fz2 H2 s2 f Fz2 H2 s2 f
  simp only [List.map_cons, List.map_nil] at q
  have r := r.step f2
  cases e1 : resolve env2 [ag, bg] with
  | none => rw [e1] at q; exact q.elim
  | some os =>
    rw [e1] at q
    obtain ⟨o1, os', rfl⟩ := resolve_cons e1
    obtain ⟨ro1, e2⟩ := r.res s2 e1
    obtain ⟨o2, os'', rfl⟩ := resolve_cons e2
    obtain ⟨ro2, e2⟩ := r'.res s2 e2
    rw [resolve] at e2; cases e2
    cases e3 : views [o1, o2] with
    | none => simp only [Option.bind_some, e3, Option.bind_none] at q; exact q.elim
    | some ds =>
      obtain ⟨d, es, e4, e5, rfl⟩ := views_cons e3
      obtain ⟨d2, es2, e6, e7, rfl⟩ := views_cons e5
      rw [views] at e7; cases e7
      simp only [Option.bind_some, e3] at q
      cases e8 : opf o [d, d2] with
      | none => rw [e8] at q; exact q.elim
      | some ob =>
        rw [e8] at q
        exact ⟨Fz2, d, d2, ob, s2.sub, ro1.view e4, ro2.view e6, e8, opEnd s2 f q⟩
end
end Pv
-- PvCall
set_option maxRecDepth 100000
namespace Pv
open PySem L2

/-- a changed argument's place -/
def OwnA (os : List Ob) (xs : List V) (a : Addr) : Prop := ∃ (j : Nat) (o : Ob), os[j]? = some o ∧ o.mut = true ∧ xs[j]? = some (.ref a)
def Tmp (ags : List Ag) (xs : List V) (a : Addr) : Prop := ∃ (j : Nat) (o : Ob), ags[j]? = some (.inr o) ∧ o.mut = true ∧ xs[j]? = some (.ref a)
/-- new lists in a row are apart -/
def Dst : List Ag → List V → Prop
  | ag :: ags, x :: xs => (∀ o a, ag = .inr o → o.mut = true → x = .ref a → ¬ Tmp ags xs a) ∧ Dst ags xs
  | _, _ => True
/-- the changed arguments behind a call -/
def Outs (G : Gx) (Fz H : Hp) : List Ob → List V → List Ob → Prop
  | [], [], outs => outs = []
  | o :: os, v :: vs, outs => if o.mut = true then ∃ out outs', outs = out :: outs' ∧ RO G Fz H out v ∧ Outs G Fz H os vs outs' else Outs G Fz H os vs outs
  | _, _, _ => False
theorem Outs_cons {G : Gx} {Fz H : Hp} {o : Ob} {os : List Ob} {v : V} {vs : List V} {outs : List Ob} :
    Outs G Fz H (o :: os) (v :: vs) outs = if o.mut = true then ∃ out outs', outs = out :: outs' ∧ RO G Fz H out v ∧ Outs G Fz H os vs outs' else Outs G Fz H os vs outs := rfl
def CallPost (G : Gx) (cn : Nat → Str) (Fz H : Hp) (obs : List Ob) (vs : List V) (r : CR) (Q : VK) (E : XK) : Prop := match r with
  | .ret ob outs => ∀ v Fz' H', Same Fz' H' → RO G Fz' H' ob v → Outs G Fz' H' obs vs outs → FrO (OwnA obs vs) (OwnA obs vs) Fz H Fz' H' → (ob.mut = true → ∃ a, v = .ref a ∧ H a = none) → Q v H'
  | .exc c as => ∀ cls d Fz' H', Same Fz' H' → FrO (OwnA obs vs) (OwnA obs vs) Fz H Fz' H' → ExR G cn c as cls d H' → E cls d H'
  | .no => False
/-- a def's promise -/
def spF (G : Gx) (cf : Nat → List Ob → CR) (cn : Nat → Str) (np : Nat) (f : Nat) : Sp := fun vs H Q E => vs.length = np ∧ ∃ Fz obs, Same Fz H ∧ Paired (fun (x : V) (o : Ob) => RO G Fz H o x) vs obs ∧
  (∀ (i j : Nat) (a : Addr) (oi oj : Ob), i ≠ j → obs[i]? = some oi → obs[j]? = some oj → oi.mut = true → oj.mut = true → vs[i]? = some (.ref a) → vs[j]? = some (.ref a) → False) ∧ CallPost G cn Fz H obs vs (cf f obs) Q E

section
variable (G : Gx) (cf : Nat → List Ob → CR) (lk : List Nat) (cn : Nat → Str) (W : WX)
/-- an argument of a call -/
def evC1 (io : Bool) (e : IE) (env : En) : Rs Ag := if io then evA1 cf lk e env else (evE cf lk e env).bind fun o env => .ok (.inr o.frozen) env
def tArgC (io : Bool) (ir : IE) : TE := fun σ H Q => ∃ env Fz, StOk G env σ Fz H ∧ PostE G cn W env σ Fz H (evC1 cf lk io ir env) fun ag env' Fz' H' => ∀ x, AgR G ag x env' σ Fz' H' H → Q x H'
def tArgs (irs : IEs) : TA := fun σ H Q => ∃ env Fz, StOk G env σ Fz H ∧ PostE G cn W env σ Fz H (evC cf lk irs env) fun as env' Fz' H' => ∀ xs, AgRs G env' σ Fz' H' H (as.map (·.2)) xs → Dst (as.map (·.2)) xs → Q xs H'
end
section
variable {X : Cx} {G : Gx} {cf : Nat → List Ob → CR} {lk : List Nat} {cn : Nat → Str} {W : WX} {e : Expr} {es : List Expr}
theorem args_nil : PA X [] (tArgs G cf lk cn W .nil) := by
  refine PA.imp pa_nil fun σ H Q ⟨env, Fz, s, p⟩ => ?_
  rw [evC] at p
  exact p.ok s [] .nil trivial
theorem AgRs.tmp {env : En} {σ : St} {Fz H H0 : Hp} {a : Addr} : ∀ {ags : List Ag} {xs : List V}, AgRs G env σ Fz H H0 ags xs → Tmp ags xs a → H0 a = none ∧ ¬ Own env σ a ∧ H a ≠ none
  | _, _, .nil, ⟨j, o, h, _⟩ => by simp at h
  | _, _, .cons r t, ⟨0, o, h1, h2, h3⟩ => by
    simp only [List.getElem?_cons_zero, Option.some.injEq] at h1 h3
    subst h1 h3
    obtain ⟨b, e, q1, q2⟩ := r.2 h2
    cases e
    refine ⟨q1, q2, ?_⟩
    cases r.1 with
    | ml ha _ _ => rw [ha]; simp
    | v _ => cases h2
    | ro _ _ => cases h2
    | fn _ => cases h2
  | _, _, .cons r t, ⟨j + 1, o, h1, h2, h3⟩ => AgRs.tmp t ⟨j, o, by simpa using h1, h2, by simpa using h3⟩
theorem evC_cons (cf : Nat → List Ob → CR) (lk : List Nat) (io : Bool) (e : IE) (es : IEs) (env : En) :
    evC cf lk (.cons io e es) env = (evC1 cf lk io e env).bind fun ag env => (evC cf lk es env).bind fun as env => .ok ((io, ag) :: as) env := by
  rw [evC, evC1]
  cases io with
  | false => rfl
  | true =>
    simp only [if_true]
    rw [evA1]
    all_goals cases e.isX <;> rfl
theorem args_cons {io : Bool} {ia : IE} {irs : IEs} (ha : PE X e (tArgC G cf lk cn W io ia)) (hr : PA X es (tArgs G cf lk cn W irs)) (hs : starEach (e :: es) X.env = (false, eval e X.env) :: starEach es X.env) :
    PA X (e :: es) (tArgs G cf lk cn W (.cons io ia irs)) := by
  refine PA.imp (pa_cons ha hr hs) fun σ H Q ⟨env, Fz, s, p⟩ => ?_
  rw [evC_cons] at p
  have p := p.split0
  refine ⟨env, Fz, s, p.mono fun ag env1 Fz1 H1 s1 f1 q x r => ?_⟩
  have q := q.split0.shift f1
  refine ⟨env1, Fz1, s1, q.mono fun as env2 Fz2 H2 s2 f2 q xs rs ds => ?_⟩
  refine q Fz2 H2 s2 (f1.trans f2) (x :: xs) (.cons (r.step f2) (rs.older f1)) ⟨fun o a e1 e2 e3 t => ?_, ds⟩
  have e1 : ag = .inr o := e1
  subst e1 e3
  have z := (rs.tmp t).1
  cases r.1 with
  | ml ha _ _ => rw [ha] at z; cases z
  | v _ => cases e2
  | ro _ _ => cases e2
  | fn _ => cases e2

theorem hands_at : ∀ {as : List (Bool × Ag)} {os : List Ob}, handsOk as os = true → ∀ (j : Nat) (o : Ob), os[j]? = some o → o.mut = true → ∃ ag, as[j]? = some (true, ag)
  | [], [], _, j, o, h, _ => by simp at h
  | (io, ag) :: r, o' :: os, h, 0, o, h1, h2 => by
    simp only [List.getElem?_cons_zero, Option.some.injEq] at h1
    subst h1
    rw [handsOk, Bool.and_eq_true] at h
    cases io with
    | true => exact ⟨ag, rfl⟩
    | false => have := h.1; simp [h2] at this
  | (io, ag) :: r, o' :: os, h, j + 1, o, h1, h2 => by
    rw [handsOk, Bool.and_eq_true] at h
    simpa using hands_at h.2 j o (by simpa using h1) h2
  | [], _ :: _, h, _, _, _, _ => by simp [handsOk] at h
  | _ :: _, [], h, _, _, _, _ => by simp [handsOk] at h
theorem io_mem : ∀ {as : List (Bool × Ag)} {j i : Nat}, as[j]? = some (true, .inl i) → i ∈ ioNames as
  | [], j, i, h => by simp at h
  | (true, .inl k) :: r, 0, i, h => by simp at h; subst h; simp [ioNames]
  | (true, .inl k) :: r, j + 1, i, h => by rw [ioNames]; exact List.mem_cons_of_mem _ (io_mem (j := j) (by simpa using h))
  | (false, _) :: r, 0, i, h => by simp at h
  | (false, _) :: r, j + 1, i, h => by rw [ioNames]; exact io_mem (j := j) (by simpa using h); all_goals (intros; simp_all)
  | (true, .inr _) :: r, 0, i, h => by simp at h
  | (true, .inr _) :: r, j + 1, i, h => by rw [ioNames]; exact io_mem (j := j) (by simpa using h); all_goals (intros; simp_all)
theorem io_inj : ∀ {as : List (Bool × Ag)} {j k i : Nat}, (ioNames as).Nodup → j ≠ k → as[j]? = some (true, .inl i) → as[k]? = some (true, .inl i) → False
  | [], j, k, i, _, _, h, _ => by simp at h
  | (true, .inl z) :: r, j, k, i, hn, hne, h1, h2 => by
    rw [ioNames, List.nodup_cons] at hn
    cases j with
    | zero =>
      cases k with
      | zero => exact hne rfl
      | succ k => simp at h1 h2; subst h1; exact hn.1 (io_mem h2)
    | succ j =>
      cases k with
      | zero => simp at h1 h2; subst h2; exact hn.1 (io_mem h1)
      | succ k => exact io_inj (j := j) (k := k) hn.2 (by omega) (by simpa using h1) (by simpa using h2)
  | (false, z) :: r, j, k, i, hn, hne, h1, h2 => by
    have hn : (ioNames r).Nodup := by rw [ioNames] at hn; exact hn; all_goals (intros; simp_all)
    cases j with
    | zero => simp at h1
    | succ j =>
      cases k with
      | zero => simp at h2
      | succ k => exact io_inj (j := j) (k := k) hn (by omega) (by simpa using h1) (by simpa using h2)
  | (true, .inr z) :: r, j, k, i, hn, hne, h1, h2 => by
    have hn : (ioNames r).Nodup := by rw [ioNames] at hn; exact hn; all_goals (intros; simp_all)
    cases j with
    | zero => simp at h1
    | succ j =>
      cases k with
      | zero => simp at h2
      | succ k => exact io_inj (j := j) (k := k) hn (by omega) (by simpa using h1) (by simpa using h2)
theorem Dst.at : ∀ {ags : List Ag} {xs : List V}, Dst ags xs → ∀ {j k : Nat} {a : Addr} {oj ok : Ob}, j < k → ags[j]? = some (.inr oj) → oj.mut = true → xs[j]? = some (.ref a) → ags[k]? = some (.inr ok) → ok.mut = true → xs[k]? = some (.ref a) → False
  | [], _, _, j, k, a, oj, ok, _, h, _, _, _, _, _ => by simp at h
  | _ :: _, [], _, j, k, a, oj, ok, _, _, _, h, _, _, _ => by simp at h
  | ag :: ags, x :: xs, d, 0, k + 1, a, oj, ok, hlt, h1, m1, e1, h2, m2, e2 => d.1 oj a (by simpa using h1) m1 (by simpa using e1) ⟨k, ok, by simpa using h2, m2, by simpa using e2⟩
  | ag :: ags, x :: xs, d, 0, 0, a, oj, ok, hlt, h1, m1, e1, h2, m2, e2 => by omega
  | ag :: ags, x :: xs, d, j + 1, 0, a, oj, ok, hlt, h1, m1, e1, h2, m2, e2 => by omega
  | ag :: ags, x :: xs, d, j + 1, k + 1, a, oj, ok, hlt, h1, m1, e1, h2, m2, e2 => Dst.at d.2 (j := j) (k := k) (by omega) (by simpa using h1) m1 (by simpa using e1) (by simpa using h2) m2 (by simpa using e2)
theorem resolve_at {env : En} : ∀ {ags : List Ag} {os : List Ob}, resolve env ags = some os → ∀ (j : Nat) (ag : Ag) (o : Ob), ags[j]? = some ag → os[j]? = some o → match ag with
    | .inl i => env[i]? = some (some o)
    | .inr o' => o' = o
  | [], os, h, j, ag, o, h1, _ => by simp at h1
  | ag0 :: ags, os, h, j, ag, o, h1, h2 => by
    obtain ⟨o0, os0, rfl⟩ := resolve_cons h
    cases ag0 with
    | inl i =>
      rw [resolve] at h
      split at h
      · rename_i a b c d
        cases h
        cases j with
        | zero => simp at h1 h2; subst h1 h2; exact c
        | succ j => exact resolve_at d j ag o (by simpa using h1) (by simpa using h2)
      · cases h
    | inr o' =>
      rw [resolve, Option.map_eq_some_iff] at h
      obtain ⟨os', q1, q2⟩ := h
      cases q2
      cases j with
      | zero => simp at h1 h2; subst h1 h2; rfl
      | succ j => exact resolve_at q1 j ag o (by simpa using h1) (by simpa using h2)
theorem AgRs.at {env : En} {σ : St} {Fz H H0 : Hp} : ∀ {ags : List Ag} {xs : List V}, AgRs G env σ Fz H H0 ags xs → ∀ (j : Nat) (ag : Ag), ags[j]? = some ag → ∃ x, xs[j]? = some x ∧ AgR G ag x env σ Fz H H0
  | _, _, .nil, j, ag, h => by simp at h
  | _, _, .cons r t, 0, ag, h => by simp at h; subst h; exact ⟨_, rfl, r⟩
  | _, _, .cons r t, j + 1, ag, h => by simpa using AgRs.at t j ag (by simpa using h)
/-- where a changed argument comes from: a name's list, or a new one -/
theorem ownA_cases {env : En} {σ : St} {Fz H H0 : Hp} {as : List (Bool × Ag)} {os : List Ob} {xs : List V} (rs : AgRs G env σ Fz H H0 (as.map (·.2)) xs) (hr : resolve env (as.map (·.2)) = some os) (hh : handsOk as os = true)
    {j : Nat} {o : Ob} {a : Addr} (h1 : os[j]? = some o) (h2 : o.mut = true) (h3 : xs[j]? = some (.ref a)) :
    (∃ i, as[j]? = some (true, .inl i) ∧ env[i]? = some (some o) ∧ σ[i]? = some (some (.ref a))) ∨ ((as.map (·.2))[j]? = some (.inr o) ∧ H0 a = none ∧ ¬ Own env σ a) := by
  obtain ⟨ag, e⟩ := hands_at hh j o h1 h2
  have e' : (as.map (·.2))[j]? = some ag := by rw [List.getElem?_map, e]; rfl
  have q := resolve_at hr j ag o e' h1
  obtain ⟨x, e3, r⟩ := rs.at j ag e'
  rw [h3] at e3
  cases e3
  cases ag with
  | inl i => exact .inl ⟨i, e, q, r⟩
  | inr o' =>
    have q : o' = o := q
    subst q
    obtain ⟨b, eb, q1, q2⟩ := r.2 h2
    cases eb
    exact .inr ⟨e', q1, q2⟩
theorem hands_apart {env : En} {σ : St} {Fz H H0 : Hp} {as : List (Bool × Ag)} {os : List Ob} {xs : List V} (s : StOk G env σ Fz H) (rs : AgRs G env σ Fz H H0 (as.map (·.2)) xs) (ds : Dst (as.map (·.2)) xs)
    (hr : resolve env (as.map (·.2)) = some os) (hh : handsOk as os = true) (hn : (ioNames as).Nodup) :
    ∀ (i j : Nat) (a : Addr) (oi oj : Ob), i ≠ j → os[i]? = some oi → os[j]? = some oj → oi.mut = true → oj.mut = true → xs[i]? = some (.ref a) → xs[j]? = some (.ref a) → False := by
  intro i j a oi oj hne h1 h2 m1 m2 e1 e2
  rcases ownA_cases rs hr hh h1 m1 e1 with ⟨k1, p1, p2, p3⟩ | ⟨p1, p2, p3⟩
  · rcases ownA_cases rs hr hh h2 m2 e2 with ⟨k2, q1, q2, q3⟩ | ⟨q1, q2, q3⟩
    · by_cases hk : k1 = k2
      · subst hk; exact io_inj hn hne p1 q1
      · exact s.sep k1 k2 a _ _ hk p2 q2 m1 m2 p3 q3
    · exact q3 ⟨k1, oi, p2, m1, p3⟩
  · rcases ownA_cases rs hr hh h2 m2 e2 with ⟨k2, q1, q2, q3⟩ | ⟨q1, q2, q3⟩
    · exact p3 ⟨k2, oj, q2, m2, q3⟩
    · rcases Nat.lt_or_gt_of_ne hne with z | z
      · exact ds.at z p1 m1 e1 q1 m2 e2
      · exact ds.at z q1 m2 e2 p1 m1 e1
end
end Pv
-- PvCall2
set_option maxRecDepth 100000
namespace Pv
open PySem L2
section
variable {G : Gx}
theorem ioNames_false {ag : Ag} {r : List (Bool × Ag)} : ioNames ((false, ag) :: r) = ioNames r := by rw [ioNames]; all_goals (intros; simp_all)
theorem ioNames_tmp {o : Ob} {r : List (Bool × Ag)} : ioNames ((true, .inr o) :: r) = ioNames r := by rw [ioNames]; all_goals (intros; simp_all)
theorem putBack_ok {Fz' H' : Hp} : ∀ (as : List (Bool × Ag)) (os : List Ob) (xs : List V) (outs : List Ob) (env env' : En), handsOk as os = true → Outs G Fz' H' os xs outs → (ioNames as).Nodup → (∀ i ∈ ioNames as, i < env.length) →
    putBack env as outs = some env' → env'.length = env.length ∧ (∀ i, i ∉ ioNames as → env'[i]? = env[i]?) ∧ ∀ (j i : Nat) (x : V), as[j]? = some (true, .inl i) → xs[j]? = some x → ∃ out, env'[i]? = some (some out) ∧ RO G Fz' H' out x
  | [], [], xs, outs, env, env', hh, ho, hn, hl, h => by
    cases outs with
    | nil => rw [putBack] at h; cases h; exact ⟨rfl, fun _ _ => rfl, fun j i x h => by simp at h⟩
    | cons o r => simp [putBack] at h
  | (false, ag) :: r, o :: os, x :: xs, outs, env, env', hh, ho, hn, hl, h => by
    rw [handsOk, Bool.and_eq_true] at hh
    have hm : o.mut = false := by simpa using hh.1
    rw [Outs_cons, if_neg (by simp [hm])] at ho
    rw [ioNames_false] at hn hl
    rw [putBack] at h
    obtain ⟨q1, q2, q3⟩ := putBack_ok r os xs outs env env' hh.2 ho hn hl h
    refine ⟨q1, by rw [ioNames_false]; exact q2, fun j i y e1 e2 => ?_⟩
    cases j with
    | zero => simp at e1
    | succ j => exact q3 j i y (by simpa using e1) (by simpa using e2)
  | (true, .inr o') :: r, o :: os, x :: xs, outs, env, env', hh, ho, hn, hl, h => by
    rw [handsOk, Bool.and_eq_true] at hh
    have hm : o.mut = true := by simpa using hh.1
    rw [Outs_cons, if_pos hm] at ho
    rw [ioNames_tmp] at hn hl
    obtain ⟨out, outs, rfl, ho⟩ := ho
    · rw [putBack] at h
      obtain ⟨q1, q2, q3⟩ := putBack_ok r os xs outs env env' hh.2 ho.2 hn hl h
      refine ⟨q1, by rw [ioNames_tmp]; exact q2, fun j i y e1 e2 => ?_⟩
      cases j with
      | zero => simp at e1
      | succ j => exact q3 j i y (by simpa using e1) (by simpa using e2)
  | (true, .inl k) :: r, o :: os, x :: xs, outs, env, env', hh, ho, hn, hl, h => by
    rw [handsOk, Bool.and_eq_true] at hh
    have hm : o.mut = true := by simpa using hh.1
    rw [Outs_cons, if_pos hm] at ho
    rw [ioNames, List.nodup_cons] at hn
    obtain ⟨out, outs, rfl, ho⟩ := ho
    · rw [putBack] at h
      have hk : k < env.length := hl k (by simp [ioNames])
      obtain ⟨q1, q2, q3⟩ := putBack_ok r os xs outs (env.set k (some out)) env' hh.2 ho.2 hn.2 (fun i hi => by rw [List.length_set]; exact hl i (by rw [ioNames]; exact List.mem_cons_of_mem _ hi)) h
      refine ⟨by rw [q1, List.length_set], fun i hi => ?_, fun j i y e1 e2 => ?_⟩
      · rw [ioNames] at hi
        simp only [List.mem_cons, not_or] at hi
        rw [q2 i hi.2, List.getElem?_set_ne (fun e => hi.1 e.symm)]
      · cases j with
        | zero =>
          simp at e1 e2
          subst e1 e2
          exact ⟨out, by rw [q2 k hn.1, List.getElem?_set_self hk], ho.1⟩
        | succ j => exact q3 j i y (by simpa using e1) (by simpa using e2)
  | (_, _) :: _, [], _, _, _, _, hh, _, _, _, _ => by simp [handsOk] at hh
  | [], _ :: _, _, _, _, _, hh, _, _, _, _ => by simp [handsOk] at hh
  | (_, _) :: _, o :: os, [], _, _, _, _, ho, _, _, _ => by simp [Outs] at ho
theorem wipeL_length : ∀ (l : List Nat) (env : En), (wipeL env l).length = env.length
  | [], _ => rfl
  | i :: l, env => by
    show (wipeL (env.set i none) l).length = _
    rw [wipeL_length l, List.length_set]
theorem wipeL_some : ∀ (l : List Nat) (env : En) {i : Nat} {o : Ob}, (wipeL env l)[i]? = some (some o) → env[i]? = some (some o) ∧ i ∉ l
  | [], _, _, _, h => ⟨h, by simp⟩
  | k :: l, env, i, o, h => by
    have h : (wipeL (env.set k none) l)[i]? = some (some o) := h
    obtain ⟨h1, h2⟩ := wipeL_some l _ h
    by_cases e : k = i
    · subst e
      by_cases hk : k < env.length
      · rw [List.getElem?_set_self hk] at h1; cases h1
      · rw [List.getElem?_eq_none (by rw [List.length_set]; omega)] at h1; cases h1
    · rw [List.getElem?_set_ne e] at h1
      exact ⟨h1, by simp only [List.mem_cons, not_or]; exact ⟨fun z => e z.symm, h2⟩⟩
theorem wipeL_own {l : List Nat} {env : En} {σ : St} {a : Addr} (h : Own (wipeL env l) σ a) : Own env σ a := by
  obtain ⟨i, o, h1, h2, h3⟩ := h
  exact ⟨i, o, (wipeL_some l env h1).1, h2, h3⟩
theorem StOk.wipe {env : En} {σ : St} {Fz H : Hp} (s : StOk G env σ Fz H) (l : List Nat) : StOk G (wipeL env l) σ Fz H :=
  ⟨by rw [wipeL_length]; exact s.len, s.sub, fun i o h => s.rep i o (wipeL_some l env h).1, fun i j a oi oj hne h1 h2 m1 m2 e1 e2 => s.sep i j a oi oj hne (wipeL_some l env h1).1 (wipeL_some l env h2).1 m1 m2 e1 e2⟩

/-- behind a call, back in the caller -/
theorem call_back {cn : Nat → Str} {W : WX} {env0 env : En} {σ : St} {Fz0 H0 Fz H : Hp} {as : List (Bool × Ag)} {os : List Ob} {xs : List V} {r : CR} {Q : VK}
    (s : StOk G env σ Fz H) (f : FrO (Own env0 σ) (Own env σ) Fz0 H0 Fz H) (rs : AgRs G env σ Fz H H0 (as.map (·.2)) xs) (ds : Dst (as.map (·.2)) xs)
    (hr : resolve env (as.map (·.2)) = some os) (hh : handsOk as os = true) (hn : (ioNames as).Nodup)
    (p : PostE G cn W env0 σ Fz0 H0 (endCall as env r) (KV' G Q env0 σ H0)) : CallPost G cn Fz H os xs r Q (fun cls d H' => W cls d σ H') := by
  have back : ∀ a, H0 a ≠ none → ¬ Own env0 σ a → ¬ OwnA os xs a := fun a h0 nO ⟨j, o, h1, h2, h3⟩ => by
    rcases ownA_cases rs hr hh h1 h2 h3 with ⟨i, q1, q2, q3⟩ | ⟨q1, q2, q3⟩
    · exact (f.ow a ⟨i, o, q2, h2, q3⟩).elim nO h0
    · exact h0 q2
  have notA : ∀ (i : Nat) (o : Ob) (a : Addr), env[i]? = some (some o) → o.mut = true → σ[i]? = some (some (.ref a)) → i ∉ ioNames as → ¬ OwnA os xs a := fun i o a h1 h2 h3 hi ⟨j, o', p1, p2, p3⟩ => by
    rcases ownA_cases rs hr hh p1 p2 p3 with ⟨k, q1, q2, q3⟩ | ⟨q1, q2, q3⟩
    · have hk : i ≠ k := fun e => hi (e ▸ io_mem q1)
      exact s.sep i k a o o' hk h1 q2 h2 p2 h3 q3
    · exact q3 ⟨i, o, h1, h2, h3⟩
  have fr : ∀ {Fz' H' : Hp} {O : Addr → Prop}, FrO (OwnA os xs) (OwnA os xs) Fz H Fz' H' → (∀ a, O a → Own env σ a) → FrO (Own env0 σ) O Fz0 H0 Fz' H' := fun {Fz' H' O} g hO =>
    ⟨fun a o h n => g.hh a o (f.hh a o h n) (back a (by rw [h]; simp) n), fun a h => g.dm a (f.dm a h), f.ff.trans g.ff,
      fun a h n z => g.nw a (f.dm a h) (back a h n) (f.nw a h n z), fun a h => f.ow a (hO a h)⟩
  have keep : ∀ {Fz' H' : Hp} (i : Nat) (o : Ob), FrO (OwnA os xs) (OwnA os xs) Fz H Fz' H' → env[i]? = some (some o) → i ∉ ioNames as → ∃ v, σ[i]? = some (some v) ∧ RO G Fz' H' o v := fun {Fz' H'} i o g h1 hi => by
    obtain ⟨v, e1, e2⟩ := s.rep i o h1
    refine ⟨v, e1, e2.step g fun m => ?_⟩
    cases e2 with
    | @ml a vs ys ha hb hc => exact ⟨a, rfl, notA i _ a h1 m e1 hi⟩
    | v _ => cases m
    | ro _ _ => cases m
    | fn _ => cases m
  cases r with
  | no => exact p
  | exc c ys =>
    intro cls d Fz' H' sub g ex
    have p : PostE G cn W env0 σ Fz0 H0 (.ex c ys (wipeL env (ioNames as))) (KV' G Q env0 σ H0) := p
    refine p cls d Fz' H' ⟨by rw [wipeL_length]; exact s.len, sub, fun i o h => ?_, ?_⟩ (fr g fun a h => wipeL_own h) ex
    · obtain ⟨h1, h2⟩ := wipeL_some _ _ h
      exact keep i o g h1 h2
    · intro i j a oi oj hne h1 h2 m1 m2 e1 e2
      exact s.sep i j a oi oj hne (wipeL_some _ _ h1).1 (wipeL_some _ _ h2).1 m1 m2 e1 e2
  | ret ob outs =>
    intro v Fz' H' sub ro outsOk g fsh
    rw [endCall] at p
    split at p
    · rename_i env' he
      have hl : ∀ i ∈ ioNames as, ∃ j : Nat, as[j]? = some (true, Sum.inl i) := by
        clear p he outsOk keep fr notA back hn hh hr ds rs
        induction as with
        | nil => intro i hi; simp [ioNames] at hi
        | cons x r ih =>
          obtain ⟨b, ag⟩ := x
          intro i hi
          cases b with
          | false => rw [ioNames_false] at hi; obtain ⟨j, hj⟩ := ih i hi; exact ⟨j + 1, by simpa using hj⟩
          | true =>
            cases ag with
            | inr o => rw [ioNames_tmp] at hi; obtain ⟨j, hj⟩ := ih i hi; exact ⟨j + 1, by simpa using hj⟩
            | inl k =>
              rw [ioNames, List.mem_cons] at hi
              rcases hi with e | hi
              · subst e; exact ⟨0, rfl⟩
              · obtain ⟨j, hj⟩ := ih i hi; exact ⟨j + 1, by simpa using hj⟩
      -- a changed name's slot
      have slot : ∀ i ∈ ioNames as, ∃ (j : Nat) (o : Ob) (x : V), as[j]? = some (true, .inl i) ∧ os[j]? = some o ∧ o.mut = true ∧ xs[j]? = some x ∧ env[i]? = some (some o) ∧ σ[i]? = some (some x) := fun i hi => by
        obtain ⟨j, hj⟩ := hl i hi
        have hj' : (as.map (·.2))[j]? = some (.inl i) := by rw [List.getElem?_map, hj]; rfl
        obtain ⟨x, e3, r⟩ := rs.at j _ hj'
        have hjl : j < os.length := by
          have e1 := (rs.res s hr).length
          have e2 : j < xs.length := (List.getElem?_eq_some_iff.mp e3).1
          omega
        obtain ⟨o, ho⟩ : ∃ o, os[j]? = some o := ⟨os[j], List.getElem?_eq_getElem hjl⟩
        have q := resolve_at hr j _ o hj' ho
        refine ⟨j, o, x, hj, ho, ?_, e3, q, r⟩
        clear fr notA back keep p he outsOk hl
        have : ∀ (as : List (Bool × Ag)) (os : List Ob) (j : Nat), handsOk as os = true → as[j]? = some (true, .inl i) → os[j]? = some o → o.mut = true := by
          intro as
          induction as with
          | nil => intro os j _ h _; simp at h
          | cons x r ih =>
            intro os j hh h1 h2
            obtain ⟨b, ag⟩ := x
            cases os with
            | nil => simp at h2
            | cons o' os' =>
              rw [handsOk, Bool.and_eq_true] at hh
              cases j with
              | zero =>
                simp at h1 h2
                obtain ⟨rfl, rfl⟩ := h1
                subst h2
                simpa using hh.1
              | succ j => exact ih os' j hh.2 (by simpa using h1) (by simpa using h2)
        exact this as os j hh hj ho
      obtain ⟨q1, q2, q3⟩ := putBack_ok as os xs outs env env' hh outsOk hn (fun i hi => by
        obtain ⟨j, o, x, _, _, _, _, e, _⟩ := slot i hi
        exact (List.getElem?_eq_some_iff.mp e).1) he
      have old : ∀ (i : Nat) (o : Ob), env'[i]? = some (some o) → o.mut = true → ∃ o', env[i]? = some (some o') ∧ o'.mut = true := fun i o h m => by
        by_cases hi : i ∈ ioNames as
        · obtain ⟨j, o', x, _, _, m', _, e, _⟩ := slot i hi
          exact ⟨o', e, m'⟩
        · rw [q2 i hi] at h
          exact ⟨o, h, m⟩
      have own : ∀ a, Own env' σ a → Own env σ a := fun a ⟨i, o, h1, h2, h3⟩ => by
        obtain ⟨o', e, m⟩ := old i o h1 h2
        exact ⟨i, o', e, m, h3⟩
      have s' : StOk G env' σ Fz' H' := by
        refine ⟨by rw [q1]; exact s.len, sub, fun i o h => ?_, fun i j a oi oj hne h1 h2 m1 m2 e1 e2 => ?_⟩
        · by_cases hi : i ∈ ioNames as
          · obtain ⟨j, o', x, z1, z2, z3, z4, z5, z6⟩ := slot i hi
            obtain ⟨out, w1, w2⟩ := q3 j i x z1 z4
            rw [h] at w1
            cases w1
            exact ⟨x, z6, w2⟩
          · rw [q2 i hi] at h
            exact keep i o g h hi
        · obtain ⟨o1, z1, z2⟩ := old i oi h1 m1
          obtain ⟨o2, z3, z4⟩ := old j oj h2 m2
          exact s.sep i j a o1 o2 hne z1 z3 z2 z4 e1 e2
      refine p Fz' H' s' (fr g own) v ro fun m => ?_
      obtain ⟨a, e, ha⟩ := fsh m
      refine ⟨a, e, ?_, fun z => ?_⟩
      · cases w : H0 a with
        | none => rfl
        | some o => exact absurd ha (f.dm a (by rw [w]; simp))
      · obtain ⟨i, o, h1, h2, h3⟩ := own a z
        obtain ⟨w, e4, e5⟩ := s.rep i o h1
        rw [h3] at e4
        cases e4
        cases e5 with
        | ml hb _ _ => rw [hb] at ha; cases ha
        | v _ => cases h2
        | ro _ _ => cases h2
        | fn _ => cases h2
    · exact p.elim
end

section
variable {X : Cx} {G : Gx} {cf : Nat → List Ob → CR} {lk : List Nat} {cn : Nat → Str} {W : WX}
theorem paired_flip {os : List Ob} {xs : List V} {Fz H : Hp} (h : Paired (fun (x : V) (o : Ob) => RO G Fz H o x) xs os) : xs.length = os.length := h.length
/-- the call's reading -/
theorem call_tE {f np : Nat} {es : IEs} {σ : St} {H : Hp} {Q : VK} (hnp : ∀ obs, cf f obs ≠ .no → obs.length = np) (h : tE G cf lk cn W (.call f es) σ H Q) :
    tArgs G cf lk cn W es σ H fun vs H1 => spF G cf cn np f vs H1 Q (WE W σ) := by
  obtain ⟨env, Fz, s, p⟩ := h
  rw [evE] at p
  have p := p.split0
  refine ⟨env, Fz, s, p.mono fun as env1 Fz1 H1 s1 f1 q xs rs ds => ?_⟩
  rw [doCall] at q
  split at q
  · rename_i os hr
    split at q
    · rename_i hc
      rw [Bool.and_eq_true] at hc
      obtain ⟨hh, hn⟩ := hc
      have hn := of_decide_eq_true hn
      have c := call_back s1 f1 rs ds hr hh hn q
      have ro := rs.res s1 hr
      refine ⟨?_, Fz1, os, s1.sub, ro, hands_apart s1 rs ds hr hh hn, c⟩
      have : os.length = np := hnp os fun e => by rw [e] at c; exact c.elim
      rw [ro.length, this]
    · exact q.elim
  · exact q.elim
end
end Pv
-- PvExpr2
set_option maxRecDepth 100000
namespace Pv
open PySem L2
section
variable {G : Gx} {cn : Nat → Str} {W : WX} {σ : St}
/-- a new list is given away -/
theorem freezeTmp {env0 env : En} {Fz0 H0 Fz H : Hp} (s : StOk G env σ Fz H) (f : FrO (Own env0 σ) (Own env σ) Fz0 H0 Fz H) {xs : List PV} {v : V} (r : RO G Fz H (.ml xs) v) (fs : Fsh (.ml xs) v env σ H0) :
    ∃ Fz', StOk G env σ Fz' H ∧ FrO (Own env0 σ) (Own env σ) Fz0 H0 Fz' H ∧ RF G.K Fz' v (.list xs) := by
  obtain ⟨a, e, h0, no⟩ := fs rfl
  subst e
  cases r with
  | @ml _ vs _ ha hr hf =>
    have ff : Same Fz (upd Fz a (.lst vs)) := Same.upd hf
    refine ⟨upd Fz a (.lst vs), ⟨s.len, fun b u h => ?_, fun i o h => ?_, s.sep⟩, ⟨f.hh, f.dm, f.ff.trans ff, fun b hb nb hz => ?_, f.ow⟩, .lst upd_same (hr.mono ff)⟩
    · by_cases e : b = a
      · subst e; rw [upd_same] at h; cases h; exact ha
      · rw [upd_ne e] at h; exact s.sub b u h
    · obtain ⟨w, w1, w2⟩ := s.rep i o h
      refine ⟨w, w1, ?_⟩
      cases w2 with
      | v r => exact .v (r.mono ff)
      | ro p q => exact .ro (SqL.mono ff p) (q.mono ff)
      | @ml b ws _ p q z =>
        refine .ml p (q.mono ff) ?_
        have : b ≠ a := fun e => by subst e; exact no ⟨i, _, h, rfl, w1⟩
        rw [upd_ne this]; exact z
      | fn p => exact .fn p
    · have : b ≠ a := fun e => by subst e; exact hb h0
      rw [upd_ne this]; exact f.nw b hb nb hz
end
section
variable (G : Gx) (cf : Nat → List Ob → CR) (lk : List Nat) (cn : Nat → Str) (W : WX)
/-- a value that never changes from now on -/
def evZ (ir : IE) (env : En) : Rs PV := (evE cf lk ir env).bind fzR
def tFz (ir : IE) : TE := fun σ H Q => ∃ env Fz, StOk G env σ Fz H ∧ PostE G cn W env σ Fz H (evZ cf lk ir env) fun d env' Fz' H' => ∀ x, RF G.K Fz' x d → Q x H'
def tFs (irs : IEs) : TA := fun σ H Q => ∃ env Fz, StOk G env σ Fz H ∧ PostE G cn W env σ Fz H (evF cf lk irs env) fun ds env' Fz' H' => ∀ xs, RFs G.K Fz' xs ds → Q xs H'
end
theorem Rs.assoc {α β γ : Type} (r : Rs α) (f : α → En → Rs β) (g : β → En → Rs γ) : (r.bind f).bind g = r.bind fun a e => (f a e).bind g := by
  cases r <;> rfl
theorem evF_cons (cf : Nat → List Ob → CR) (lk : List Nat) (io : Bool) (e : IE) (es : IEs) (env : En) :
    evF cf lk (.cons io e es) env = (evZ cf lk e env).bind fun d env => (evF cf lk es env).bind fun ds env => .ok (d :: ds) env := by
  rw [evF, evZ, Rs.assoc]
section
variable {X : Cx} {G : Gx} {cf : Nat → List Ob → CR} {lk : List Nat} {cn : Nat → Str} {W : WX} {e : Expr} {es : List Expr}
theorem fz_ro {o : Ob} {env0 env : En} {σ : St} {Fz0 H0 Fz H : Hp} {v : V} {K : PV → En → Hp → Hp → Prop} (s : StOk G env σ Fz H) (f : FrO (Own env0 σ) (Own env σ) Fz0 H0 Fz H) (r : RO G Fz H o v) (fs : Fsh o v env σ H0)
    (p : PostE G cn W env0 σ Fz0 H0 (fzR o env) K) : ∃ d Fz', fzR o env = .ok d env ∧ StOk G env σ Fz' H ∧ FrO (Own env0 σ) (Own env σ) Fz0 H0 Fz' H ∧ RF G.K Fz' v d := by
  cases r with
  | @v _ d r =>
    have nd : fzR (.v d) env = .ok d env := by
      cases r <;> rfl
    exact ⟨d, Fz, nd, s, f, r⟩
  | ro a b => exact p.elim
  | @ml a vs xs p1 p2 p3 =>
    obtain ⟨Fz', q1, q2, q3⟩ := freezeTmp s f (.ml p1 p2 p3) fs
    exact ⟨_, Fz', rfl, q1, q2, q3⟩
  | fn _ => exact p.elim
theorem fz_of {ir : IE} (h : PE X e (tE G cf lk cn W ir)) : PE X e (tFz G cf lk cn W ir) := by
  refine PE.imp h fun σ H Q ⟨env, Fz, s, p⟩ => ?_
  rw [evZ] at p
  have p := p.split0
  refine ⟨env, Fz, s, p.mono fun o env1 Fz1 H1 s1 f1 q v r fs => ?_⟩
  obtain ⟨d, Fz', e1, s2, f2, rf⟩ := fz_ro s1 f1 r fs q
  rw [e1] at q
  exact q Fz' H1 s2 f2 v rf
theorem fs_nil : PA X [] (tFs G cf lk cn W .nil) := by
  refine PA.imp pa_nil fun σ H Q ⟨env, Fz, s, p⟩ => ?_
  rw [evF] at p
  exact p.ok s [] .nil
theorem fs_cons {io : Bool} {ia : IE} {irs : IEs} (ha : PE X e (tFz G cf lk cn W ia)) (hr : PA X es (tFs G cf lk cn W irs)) (hs : starEach (e :: es) X.env = (false, eval e X.env) :: starEach es X.env) :
    PA X (e :: es) (tFs G cf lk cn W (.cons io ia irs)) := by
  refine PA.imp (pa_cons ha hr hs) fun σ H Q ⟨env, Fz, s, p⟩ => ?_
  rw [evF_cons] at p
  refine ⟨env, Fz, s, p.split0.mono fun d env1 Fz1 H1 s1 f1 q x r => ?_⟩
  refine ⟨env1, Fz1, s1, (q.split0.shift f1).mono fun ds env2 Fz2 H2 s2 f2 q xs rs => ?_⟩
  exact q Fz2 H2 s2 (f1.trans f2) (x :: xs) (.cons (r.mono f2.ff) rs)
theorem tE_tup {k : Nat} {pos : Pos} {irs : IEs} (h : PA X es (tFs G cf lk cn W irs)) : PE X (.Tuple es k pos) (tE G cf lk cn W (.tup irs)) := by
  refine PE.imp (pe_tup h) fun σ H Q ⟨env, Fz, s, p⟩ => ?_
  rw [evE] at p
  refine ⟨env, Fz, s, p.split0.mono fun ds env1 Fz1 H1 s1 f1 q xs rs => ?_⟩
  split at q
  · rename_i hl
    have rs' := opEnd s1 f1 q
    exact ⟨by rw [rs.length]; exact hl, rs'.tup s1.sub rs⟩
  · exact q.elim
theorem tE_lst {pos : Pos} {irs : IEs} (h : PA X es (tFs G cf lk cn W irs)) : PE X (.List es pos) (tE G cf lk cn W (.lst irs)) := by
  refine PE.imp (pe_lst h) fun σ H Q ⟨env, Fz, s, p⟩ => ?_
  rw [evE] at p
  refine ⟨env, Fz, s, p.split0.mono fun ds env1 Fz1 H1 s1 f1 q xs rs => ?_⟩
  split at q
  · rename_i hl
    have rs' := opEnd s1 f1 q
    exact ⟨by rw [rs.length]; exact hl, rs'.lst s1.sub rs⟩
  · exact q.elim

theorem strLen_ne {y : Str} : ((y.length : Int) != 0) = (y.length != 0) := by
  by_cases h : y.length = 0
  · simp [h]
  · have : ((y.length : Int) != 0) = true := by simpa using h
    rw [this]; simp [h]
theorem VW.tru {Fz H : Hp} {x : V} {d : PV} {k : Bool} (h : VW G.K Fz H x d) (sub : Same Fz H)  (ht : truth d = some k) : TruV G.K x H k := by
  cases d with
  | none => cases h.non; cases ht; exact rfl
  | bool b => cases h.bl; cases ht; exact rfl
  | int i => cases h.int; cases ht; exact rfl
  | str y =>
    obtain ⟨rfl, _⟩ := h.str
    rw [truth] at ht
    obtain ⟨hl, rfl⟩ := ite_some ht
    exact ⟨hl, strLen_ne.symm⟩
  | list xs =>
    obtain ⟨a, vs, rfl, ha, ra⟩ := h.list sub
    cases ht
    refine .inl ⟨vs, SqL.of ha, ?_⟩
    cases ra <;> rfl
  | tuple xs =>
    obtain ⟨a, vs, rfl, ha, ra, _⟩ := h.tuple sub
    cases ht
    refine .inr (.inl ⟨vs, ha, ?_⟩)
    cases ra <;> rfl
  | dict _ => cases ht

theorem truR_ro {o : Ob} {env : En} {Fz H : Hp} {x : V} {σ : St} (s : StOk G env σ Fz H) (r : RO G Fz H o x) (p : truR o env ≠ .no) :
    ∃ k, truR o env = .ok k env ∧ TruV G.K x H k := by
  unfold truR at p ⊢
  cases e : o.view with
  | none => rw [e] at p; exact absurd rfl p
  | some d =>
    rw [e] at p
    cases e2 : truth d with
    | none => simp only [Option.bind_some, e2, optR_none] at p; exact absurd rfl p
    | some k => exact ⟨k, by simp only [Option.bind_some, e2, optR_some], (r.view e).tru s.sub e2⟩
theorem PostE.nno {α β : Type} {env0 : En} {σ : St} {Fz0 H0 : Hp} {K : β → En → Hp → Hp → Prop} {r : Rs α} {k : α → En → Rs β} (p : PostE G cn W env0 σ Fz0 H0 (r.bind k) K) : r ≠ .no := fun e => by rw [e] at p; exact p
theorem PostE.nno1 {β : Type} {env0 : En} {σ : St} {Fz0 H0 : Hp} {K : β → En → Hp → Hp → Prop} {r : Rs β} (p : PostE G cn W env0 σ Fz0 H0 r K) : r ≠ .no := fun e => by rw [e] at p; exact p
theorem tE_and {a b : Expr} {rest : List Expr} {pos : Pos} {ia ib : IE} (hK : X.K = G.K) (ha : PE X a (tE G cf lk cn W ia)) (hb : PE X (.BoolOp .And (b :: rest) pos) (tE G cf lk cn W ib)) :
    PE X (.BoolOp .And (a :: b :: rest) pos) (tE G cf lk cn W (.and ia ib)) := by
  refine PE.imp (pe_andT ha hb) fun σ H Q ⟨env, Fz, s, p⟩ => ?_
  rw [evE] at p
  refine ⟨env, Fz, s, p.split0.mono fun o env1 Fz1 H1 s1 f1 q x r fs => ?_⟩
  obtain ⟨k, e, ht⟩ := truR_ro s1 r (PostE.nno q)
  rw [e] at q
  refine ⟨k, hK ▸ ht, ?_⟩
  cases k with
  | true =>
    rw [if_pos rfl]
    refine ⟨env1, Fz1, s1, ?_⟩
    have q : PostE G cn W env σ Fz H (evE cf lk ib env1) (KV' G Q env σ H) := q
    exact (q.shift f1).mono fun ob env2 Fz2 H2 s2 f2 q v r2 fs2 => q v r2 (fs2.older f1)
  | false =>
    rw [if_neg (by simp)]
    exact q Fz1 H1 s1 f1 x r fs
theorem tE_or {a b : Expr} {rest : List Expr} {pos : Pos} {ia ib : IE} (hK : X.K = G.K) (ha : PE X a (tE G cf lk cn W ia)) (hb : PE X (.BoolOp .Or (b :: rest) pos) (tE G cf lk cn W ib)) :
    PE X (.BoolOp .Or (a :: b :: rest) pos) (tE G cf lk cn W (.or ia ib)) := by
  refine PE.imp (pe_orT ha hb) fun σ H Q ⟨env, Fz, s, p⟩ => ?_
  rw [evE] at p
  refine ⟨env, Fz, s, p.split0.mono fun o env1 Fz1 H1 s1 f1 q x r fs => ?_⟩
  obtain ⟨k, e, ht⟩ := truR_ro s1 r (PostE.nno q)
  rw [e] at q
  refine ⟨k, hK ▸ ht, ?_⟩
  cases k with
  | true =>
    rw [if_pos rfl]
    exact q Fz1 H1 s1 f1 x r fs
  | false =>
    rw [if_neg (by simp)]
    refine ⟨env1, Fz1, s1, ?_⟩
    have q : PostE G cn W env σ Fz H (evE cf lk ib env1) (KV' G Q env σ H) := q
    exact (q.shift f1).mono fun ob env2 Fz2 H2 s2 f2 q v r2 fs2 => q v r2 (fs2.older f1)
theorem tE_not {a : Expr} {pos : Pos} {ia : IE} (hK : X.K = G.K) (ha : PE X a (tE G cf lk cn W ia)) : PE X (.UnaryOp .Not a pos) (tE G cf lk cn W (.not ia)) := by
  refine PE.imp (pe_notT ha) fun σ H Q ⟨env, Fz, s, p⟩ => ?_
  rw [evE] at p
  refine ⟨env, Fz, s, p.split0.mono fun o env1 Fz1 H1 s1 f1 q x r fs => ?_⟩
  obtain ⟨k, e, ht⟩ := truR_ro s1 r (PostE.nno q)
  rw [e] at q
  exact ⟨k, hK ▸ ht, q Fz1 H1 s1 f1 (.bl (!k)) (.v (.bl _)) (nmut_fsh rfl)⟩
theorem evT_eq (cf : Nat → List Ob → CR) (lk : List Nat) (e : IE) (env : En) : evT cf lk e env = (evE cf lk e env).bind truR := rfl
theorem truR_bind {o : Ob} {env : En} {α : Type} {k : Bool → En → Rs α} : (truR o env).bind k = match o.view.bind truth with
    | some b => k b env
    | none => .no := by
  unfold truR
  cases o.view.bind truth <;> rfl
theorem evT_and {ia ib : IE} {env : En} : evT cf lk (.and ia ib) env = (evT cf lk ia env).bind fun k env => if k then evT cf lk ib env else .ok false env := by
  rw [evT_eq, evE, evT_eq, Rs.assoc, Rs.assoc]
  cases h : evE cf lk ia env with
  | ok o e =>
    simp only [Rs.bind_ok, truR_bind, Rs.assoc]
    cases h2 : o.view.bind truth with
    | none => rfl
    | some k =>
      cases k
      · show truR o e = _; unfold truR; rw [h2]; rfl
      · rfl
  | ex _ _ _ => rfl
  | no => rfl
theorem evT_or {ia ib : IE} {env : En} : evT cf lk (.or ia ib) env = (evT cf lk ia env).bind fun k env => if k then .ok true env else evT cf lk ib env := by
  rw [evT_eq, evE, evT_eq, Rs.assoc, Rs.assoc]
  cases h : evE cf lk ia env with
  | ok o e =>
    simp only [Rs.bind_ok, truR_bind, Rs.assoc]
    cases h2 : o.view.bind truth with
    | none => rfl
    | some k =>
      cases k
      · rfl
      · show truR o e = _; unfold truR; rw [h2]; rfl
  | ex _ _ _ => rfl
  | no => rfl
theorem evT_not {ia : IE} {env : En} : evT cf lk (.not ia) env = (evT cf lk ia env).bind fun k env => .ok (!k) env := by
  rw [evT_eq, evE, evT_eq, Rs.assoc, Rs.assoc]
  cases h : evE cf lk ia env with
  | ok o e =>
    simp only [Rs.bind_ok, truR_bind, Rs.assoc]
    cases h2 : o.view.bind truth with
    | none => rfl
    | some k => rfl
  | ex _ _ _ => rfl
  | no => rfl
theorem evE_ite {ic ia ib : IE} {env : En} : evE cf lk (.ite ic ia ib) env = (evT cf lk ic env).bind fun k env => if k then evE cf lk ia env else evE cf lk ib env := by
  rw [evE, evT_eq, Rs.assoc]
/-- a value as a test -/
theorem tT_of {ir : IE} (hK : X.K = G.K) (h : PE X e (tE G cf lk cn W ir)) (he : ∀ whole, isTrue e X.env whole = (do let v ← whole; standAt e.pos; holding [v] (truthy v))) : PT X e (tT G cf lk cn W ir) := by
  refine PT.imp (pt_truth h he) fun σ H Q ⟨env, Fz, s, p⟩ => ?_
  rw [evT_eq] at p
  refine ⟨env, Fz, s, p.split0.mono fun o env1 Fz1 H1 s1 f1 q x r fs => ?_⟩
  obtain ⟨k, e, ht⟩ := truR_ro s1 r (PostE.nno1 q)
  rw [e] at q
  exact ⟨k, hK ▸ ht, q Fz1 H1 s1 f1⟩
theorem tT_and {a b : Expr} {rest : List Expr} {pos : Pos} {ia ib : IE} (ha : PT X a (tT G cf lk cn W ia)) (hb : PW X (.BoolOp .And (b :: rest) pos) (tT G cf lk cn W ib)) :
    PW X (.BoolOp .And (a :: b :: rest) pos) (tT G cf lk cn W (.and ia ib)) := by
  refine PW.imp (pw_and ha hb) fun σ H Q ⟨env, Fz, s, p⟩ => ?_
  rw [evT_and] at p
  refine ⟨env, Fz, s, p.split0.mono fun k env1 Fz1 H1 s1 f1 q => ?_⟩
  cases k with
  | true => exact ⟨env1, Fz1, s1, (PostE.shift f1 q).mono fun _ _ _ _ _ _ h => h⟩
  | false => exact q Fz1 H1 s1 f1
theorem tT_or {a b : Expr} {rest : List Expr} {pos : Pos} {ia ib : IE} (ha : PT X a (tT G cf lk cn W ia)) (hb : PW X (.BoolOp .Or (b :: rest) pos) (tT G cf lk cn W ib)) :
    PW X (.BoolOp .Or (a :: b :: rest) pos) (tT G cf lk cn W (.or ia ib)) := by
  refine PW.imp (pw_or ha hb) fun σ H Q ⟨env, Fz, s, p⟩ => ?_
  rw [evT_or] at p
  refine ⟨env, Fz, s, p.split0.mono fun k env1 Fz1 H1 s1 f1 q => ?_⟩
  cases k with
  | false => exact ⟨env1, Fz1, s1, (PostE.shift f1 q).mono fun _ _ _ _ _ _ h => h⟩
  | true => exact q Fz1 H1 s1 f1
theorem tT_not {a : Expr} {pos : Pos} {ia : IE} (ha : PT X a (tT G cf lk cn W ia)) : PT X (.UnaryOp .Not a pos) (tT G cf lk cn W (.not ia)) := by
  refine PT.imp (pt_not ha) fun σ H Q ⟨env, Fz, s, p⟩ => ?_
  rw [evT_not] at p
  exact ⟨env, Fz, s, p.split0.mono fun k env1 Fz1 H1 s1 f1 q => q Fz1 H1 s1 f1⟩
theorem tE_ite {c a b : Expr} {pos : Pos} {ic ia ib : IE} (hc : PT X c (tT G cf lk cn W ic)) (ha : PE X a (tE G cf lk cn W ia)) (hb : PE X b (tE G cf lk cn W ib)) :
    PE X (.IfExp c a b pos) (tE G cf lk cn W (.ite ic ia ib)) := by
  refine PE.imp (pe_ifExp hc ha hb) fun σ H Q ⟨env, Fz, s, p⟩ => ?_
  rw [evE_ite] at p
  refine ⟨env, Fz, s, p.split0.mono fun k env1 Fz1 H1 s1 f1 q => ?_⟩
  cases k with
  | true => exact ⟨env1, Fz1, s1, (PostE.shift f1 q).mono fun ob env2 Fz2 H2 s2 f2 q v r2 fs2 => q v r2 (fs2.older f1)⟩
  | false => exact ⟨env1, Fz1, s1, (PostE.shift f1 q).mono fun ob env2 Fz2 H2 s2 f2 q v r2 fs2 => q v r2 (fs2.older f1)⟩
/-- a choice as a test -/
theorem pt_ifExp {c a b : Expr} {pos : Pos} {tc ta tb : TT} (hc : PT X c tc) (ha : PT X a ta) (hb : PT X b tb) :
    PT X (.IfExp c a b pos) (fun σ H Q => tc σ H fun k H1 => if k = true then ta σ H1 Q else tb σ H1 Q) := by
  refine ⟨fun pins s σ H Q I h => ?_⟩
  have e : isTrue (.IfExp c a b pos) X.env (eval (.IfExp c a b pos) X.env) = (do if ← isTrue c X.env (eval c X.env) then isTrue a X.env (eval a X.env) else isTrue b X.env (eval b X.env)) := by
    rw [PySem.isTrue]
  rw [e]
  refine wpAny_bind (thn (hc.run pins s σ H _ I h) fun k s1 hk => ?_)
  obtain ⟨H1, I1, q1⟩ := hk
  cases k with
  | true => exact ha.run pins s1 σ H1 Q I1 q1
  | false => exact hb.run pins s1 σ H1 Q I1 q1
theorem tT_ite {c a b : Expr} {pos : Pos} {ic ia ib : IE} (hc : PT X c (tT G cf lk cn W ic)) (ha : PT X a (tT G cf lk cn W ia)) (hb : PT X b (tT G cf lk cn W ib)) :
    PT X (.IfExp c a b pos) (tT G cf lk cn W (.ite ic ia ib)) := by
  refine PT.imp (pt_ifExp hc ha hb) fun σ H Q ⟨env, Fz, s, p⟩ => ?_
  rw [evT_eq, evE_ite, Rs.assoc] at p
  refine ⟨env, Fz, s, p.split0.mono fun k env1 Fz1 H1 s1 f1 q => ?_⟩
  cases k with
  | true => exact ⟨env1, Fz1, s1, (PostE.shift f1 q).mono fun _ _ _ _ _ _ h => h⟩
  | false => exact ⟨env1, Fz1, s1, (PostE.shift f1 q).mono fun _ _ _ _ _ _ h => h⟩
end
end Pv
-- PvExpr3
set_option maxRecDepth 100000
namespace Pv
open PySem L2

def cop : CmpOp → Op
  | .Eq => .eq | .NotEq => .ne | .Lt => .lt | .LtE => .le | .Gt => .gt | .GtE => .ge | .Is => .isN | .IsNot => .notN | .In => .isin | .NotIn => .notin
def bop : Operator → Option Op
  | .Add => some .add | .Sub => some .sub | .Mult => some .mul | .FloorDiv => some .fdiv | .Mod => some .mod | .Pow => some .pow | .LShift => some .shl | _ => none
def notStar : Expr → Bool
  | .Starred _ _ => false
  | _ => true
def notSet : Expr → Bool
  | .Set _ _ _ => false
  | _ => true
def notSlice : Expr → Bool
  | .Slice _ _ _ _ => false
  | _ => true
theorem star_cons {e : Expr} {es : List Expr} {env : Env} (h : notStar e = true) : starEach (e :: es) env = (false, eval e env) :: starEach es env := by
  cases e <;> first | rfl | (cases h)
theorem notSet_marks {e : Expr} {op : CmpOp} (h : notSet e = true) : behindInMarks op e = false := by
  cases e <;> first | rfl | (cases h)
theorem notSlice_ix {e : Expr} (h : notSlice e = true) : PlainIx e := fun o i => by
  cases e <;> first | rfl | (cases h)

section
variable {X : Cx} {G : Gx} {cf : Nat → List Ob → CR} {lk : List Nat} {cn : Nat → Str} {W : WX} {e a b : Expr} {es : List Expr}
theorem op_cmpA (hK : X.K = G.K) (hu : X.A.units + 160 < cLine) (c : CmpOp) : OpR X (compareOp c) (r2 G (cmpO (cmpf (cop c)))) := by
  cases c with
  | Eq => exact op_eqA hK (by omega)
  | NotEq => exact op_neA hK (by omega)
  | Lt => exact op_ltA hK
  | LtE => exact op_leA hK
  | Gt => exact op_gtA hK
  | GtE => exact op_geA hK
  | Is => exact op_isNA hK
  | IsNot => exact op_notNA hK
  | In => exact op_inA hK hu
  | NotIn => exact op_notinA hK hu
theorem opf2_cop (c : CmpOp) : opf2 (cop c) = cmpO (cmpf (cop c)) := by
  cases c <;> rfl
theorem op_binA (hK : X.K = G.K) {o : Operator} {p : Op} (h : bop o = some p) : OpR X (binaryOp o) (r2 G (opf2 p)) := by
  cases o <;> first | (cases h; done) | (cases h; first | exact op_addA hK | exact op_subA hK | exact op_mulA hK | exact op_fdivA hK | exact op_modA hK | exact op_powA hK | exact op_shlA hK)

theorem tE_bin (hK : X.K = G.K) {o : Operator} {p : Op} (h : bop o = some p) {pos : Pos} {i1 i2 : Bool} {ia ib : IE} (ha : PE X a (tArg G cf lk cn W ia)) (hb : PE X b (tArg G cf lk cn W ib)) :
    PE X (.BinOp a o b pos) (tE G cf lk cn W (.op p (.cons i1 ia (.cons i2 ib .nil)))) := PE.imp (pe_op (op_binA hK h) ha hb) fun _ _ _ q => op2_tE q
theorem tE_cmp (hK : X.K = G.K) (hu : X.A.units + 160 < cLine) (c : CmpOp) {pos : Pos} {i1 i2 : Bool} {ia ib : IE} (ha : PE X a (tArg G cf lk cn W ia)) (hb : PE X b (tArg G cf lk cn W ib)) (hs : notSet b = true) :
    PE X (.Compare a [c] [b] pos) (tE G cf lk cn W (.op (cop c) (.cons i1 ia (.cons i2 ib .nil)))) := by
  refine PE.imp (pe_cmpR (op_cmpA hK hu c) ha hb (notSet_marks hs)) fun σ H Q q => ?_
  have q := op2_tE q
  rw [opf2_cop] at q
  exact q
theorem tT_bool {ir : IE} {σ : St} {H : Hp} {Q : Bool → Hp → Prop} (hb : ∀ env ob env', evE cf lk ir env = .ok ob env' → ∃ k, ob = .v (.bool k)) (h : tT G cf lk cn W ir σ H Q) :
    tE G cf lk cn W ir σ H (fun z H' => ∃ k, z = V.bl k ∧ Q k H') := by
  obtain ⟨env, Fz, s, p⟩ := h
  refine ⟨env, Fz, s, ?_⟩
  rw [evT_eq] at p
  cases h : evE cf lk ir env with
  | ok o env1 =>
    obtain ⟨k, rfl⟩ := hb _ _ _ h
    rw [h] at p
    have p : PostE G cn W env σ Fz H (.ok k env1) (fun b env' Fz' H' => Q b H') := p
    intro Fz1 H1 s1 f1 v r fs
    cases r with
    | v r => cases r; exact ⟨k, rfl, p Fz1 H1 s1 f1⟩
  | ex c xs env1 => rw [h] at p; exact p
  | no => rw [h] at p; exact p
theorem opf_cop_bool {c : CmpOp} {ds : List PV} {ob : Ob} (h : opf (cop c) ds = some ob) : ∃ k, ob = .v (.bool k) := by
  match ds, h with
  | [], h => cases h
  | [d], h => cases c <;> cases h
  | [d, e], h =>
    have h : opf2 (cop c) d e = some ob := h
    rw [opf2_cop] at h
    obtain ⟨k, _, e⟩ := cmpO_eq h
    exact ⟨k, e⟩
  | [d, e, f], h => cases c <;> cases h
  | _ :: _ :: _ :: _ :: _, h => cases h
theorem op_bool {c : CmpOp} {es : IEs} : ∀ env ob env', evE cf lk (.op (cop c) es) env = .ok ob env' → ∃ k, ob = .v (.bool k) := fun env ob env' h => by
  rw [evE] at h
  cases h1 : evA cf lk es env with
  | ok ags env1 =>
    rw [h1] at h
    simp only [Rs.bind_ok] at h
    cases h2 : ((resolve env1 (ags.map (·.2))).bind views).bind (opf (cop c)) with
    | none => rw [h2] at h; cases h
    | some ob' =>
      rw [h2] at h
      cases h
      cases h3 : (resolve env' (ags.map (·.2))).bind views with
      | none => rw [h3] at h2; cases h2
      | some ds => rw [h3] at h2; exact opf_cop_bool h2
  | ex _ _ _ => rw [h1] at h; cases h
  | no => rw [h1] at h; cases h
theorem tT_cmp (hK : X.K = G.K) (hu : X.A.units + 160 < cLine) (c : CmpOp) {pos : Pos} {i1 i2 : Bool} {ia ib : IE} (ha : PE X a (tArg G cf lk cn W ia)) (hb : PE X b (tArg G cf lk cn W ib)) (hs : notSet b = true) :
    PT X (.Compare a [c] [b] pos) (tT G cf lk cn W (.op (cop c) (.cons i1 ia (.cons i2 ib .nil)))) := by
  refine PT.imp (pt_cmpR (op_cmpA hK hu c) ha hb (notSet_marks hs)) fun σ H Q h => ?_
  have q := op2_tE (tT_bool op_bool h)
  rw [opf2_cop] at q
  exact q

theorem chain_bool {o1 o2 : Op} {ia ib ic : IE} : ∀ env ob env', evE cf lk (.chain o1 o2 ia ib ic) env = .ok ob env' → ∃ k, ob = .v (.bool k) := fun env ob env' h => by
  rw [evE] at h
  cases h1 : evE cf lk ia env with
  | ok oa env1 =>
    rw [h1] at h
    simp only [Rs.bind_ok] at h
    cases h2 : evE cf lk ib env1 with
    | ok ob2 env2 =>
      rw [h2] at h
      simp only [Rs.bind_ok] at h
      split at h
      · split at h
        · cases h3 : evE cf lk ic env2 with
          | ok oc env3 =>
            rw [h3] at h
            simp only [Rs.bind_ok] at h
            unfold optR at h
            split at h
            · rename_i heq
              cases h
              rw [Option.map_eq_some_iff] at heq
              obtain ⟨k, _, e⟩ := heq
              exact ⟨k, e.symm⟩
            · cases h
          | ex _ _ _ => rw [h3] at h; cases h
          | no => rw [h3] at h; cases h
        · cases h; exact ⟨_, rfl⟩
        · cases h
      · cases h
    | ex _ _ _ => rw [h2] at h; cases h
    | no => rw [h2] at h; cases h
  | ex _ _ _ => rw [h1] at h; cases h
  | no => rw [h1] at h; cases h
theorem RO.keep {O' : Addr → Prop} {Fz H Fz' H' H0 : Hp} {env : En} {σ : St} {ob : Ob} {v : V} (r : RO G Fz H ob v) (fs : Fsh ob v env σ H0) (f : FrO (Own env σ) O' Fz H Fz' H') : RO G Fz' H' ob v :=
  r.step f fun m => by
    obtain ⟨a, e, _, n⟩ := fs m
    exact ⟨a, e, n⟩
theorem chain_tE {o1 o2 : Op} {ia ib ic : IE} {σ : St} {H : Hp} {Q : VK} (h : tE G cf lk cn W (.chain o1 o2 ia ib ic) σ H Q) :
    tChain (r2 G (cmpO (cmpf o1))) (r2 G (cmpO (cmpf o2))) (tE G cf lk cn W ia) (tE G cf lk cn W ib) (tE G cf lk cn W ic) σ H Q := by
  obtain ⟨env, Fz, s, p⟩ := h
  rw [evE] at p
  refine ⟨env, Fz, s, p.split0.mono fun oa env1 Fz1 H1 s1 f1 q x r fs => ?_⟩
  refine ⟨env1, Fz1, s1, (q.split0.shift f1).mono fun ob env2 Fz2 H2 s2 f2 q y r' fs' => ?_⟩
  have f := f1.trans f2
  have r := r.keep fs f2
  cases e1 : oa.view with
  | none => rw [e1] at q; exact q.elim
  | some da =>
    cases e2 : ob.view with
    | none => rw [e1, e2] at q; exact q.elim
    | some db =>
      rw [e1, e2] at q
      simp only at q
      cases e3 : cmpf o1 da db with
      | none => rw [e3] at q; exact q.elim
      | some k =>
        rw [e3] at q
        refine ⟨Fz2, da, db, .v (.bool k), s2.sub, r.view e1, r'.view e2, by rw [cmpO, e3]; rfl, fun v Fz3 H3 ext ro3 _ => ?_⟩
        cases ro3 with
        | v rb =>
          cases rb
          refine ⟨k, rfl, ?_⟩
          cases k with
          | false =>
            rw [if_neg (by simp)]
            exact q Fz3 H3 (s2.ext ext) (f.trans (.of_ext ext)) (.bl false) (.v (.bl _)) (nmut_fsh rfl)
          | true =>
            rw [if_pos rfl]
            simp only at q
            have s3 := s2.ext ext
            have f3 := f.trans (.of_ext ext)
            refine ⟨env2, Fz3, s3, (q.split0.shift f3).mono fun oc env4 Fz4 H4 s4 f4 q z r4 fs4 => ?_⟩
            have ff := f3.trans f4
            have r'' : RO G Fz4 H4 ob y := (r'.keep fs' ((FrO.of_ext (O := Own env2 σ) ext).trans f4))
            cases e4 : oc.view with
            | none => rw [e4] at q; exact q.elim
            | some dc =>
              rw [e4] at q
              simp only [Option.bind_some] at q
              cases e5 : cmpf o2 db dc with
              | none => rw [e5] at q; exact q.elim
              | some k2 =>
                rw [e5] at q
                exact ⟨Fz4, db, dc, .v (.bool k2), s4.sub, r''.view e2, r4.view e4, by rw [cmpO, e5]; rfl, opEnd s4 ff q⟩
theorem tE_chain (hK : X.K = G.K) (hu : X.A.units + 160 < cLine) (c1 c2 : CmpOp) {pos : Pos} {ia ib ic : IE} {c : Expr} (ha : PE X a (tE G cf lk cn W ia)) (hb : PE X b (tE G cf lk cn W ib)) (hc : PE X c (tE G cf lk cn W ic)) (hs : notSet c = true) :
    PE X (.Compare a [c1, c2] [b, c] pos) (tE G cf lk cn W (.chain (cop c1) (cop c2) ia ib ic)) :=
  PE.imp (pe_chain (op_cmpA hK hu c1) (op_cmpA hK hu c2) ha hb hc (notSet_marks hs)) fun _ _ _ q => chain_tE q
theorem tT_chain (hK : X.K = G.K) (hu : X.A.units + 160 < cLine) (c1 c2 : CmpOp) {pos : Pos} {ia ib ic : IE} {c : Expr} (ha : PE X a (tE G cf lk cn W ia)) (hb : PE X b (tE G cf lk cn W ib)) (hc : PE X c (tE G cf lk cn W ic)) (hs : notSet c = true) :
    PT X (.Compare a [c1, c2] [b, c] pos) (tT G cf lk cn W (.chain (cop c1) (cop c2) ia ib ic)) :=
  PT.imp (pt_chain (op_cmpA hK hu c1) (op_cmpA hK hu c2) ha hb hc (notSet_marks hs)) fun _ _ _ q => chain_tE (tT_bool chain_bool q)

theorem tE_neg (hK : X.K = G.K) {pos : Pos} {i1 : Bool} {ia : IE} (ha : PE X a (tArg G cf lk cn W ia)) : PE X (.UnaryOp .USub a pos) (tE G cf lk cn W (.op .neg (.cons i1 ia .nil))) :=
  PE.imp (pe_un (un_negA hK) ha) fun _ _ _ q => op1_tE q
theorem tE_idx (hK : X.K = G.K) {pos : Pos} {i1 i2 : Bool} {ia ib : IE} (ha : PE X a (tArg G cf lk cn W ia)) (hb : PE X b (tArg G cf lk cn W ib)) (hs : notSlice b = true) :
    PE X (.Subscript a b pos) (tE G cf lk cn W (.op .idx (.cons i1 ia (.cons i2 ib .nil)))) := PE.imp (pe_ix (ix_A hK) ha hb (notSlice_ix hs)) fun _ _ _ q => op2_tE q
theorem tE_rev (hK : X.K = G.K) {k : Nat} {p1 p2 p3 pos : Pos} {i1 : Bool} {ia : IE} (ha : PE X a (tArg G cf lk cn W ia)) :
    PE X (.Subscript a (.Slice none none (some (.UnaryOp .USub (.Constant (.int 1) k p1) p2)) p3) pos) (tE G cf lk cn W (.op .rev (.cons i1 ia .nil))) :=
  PE.imp (pe_revA hK ha tArg_mono) fun _ _ _ q => op1_tE q
theorem VW.intB {Fz H : Hp} {x : V} {d : PV} {i : Int} (h : VW G.K Fz H x d) (e : bInt d = some i) : x = .int i := by
  cases d <;> first | (cases e; done) | (cases e; exact h.int)
theorem tE_slice0 (hK : X.K = G.K) {p2 pos : Pos} {i1 : Bool} {ia : IE} (ha : PE X a (tArg G cf lk cn W ia)) :
    PE X (.Subscript a (.Slice none none none p2) pos) (tE G cf lk cn W (.op (.slice false false) (.cons i1 ia .nil))) := by
  refine PE.imp (pe_slice (sl_A hK) ha po_none po_none) fun σ H Q q => ?_
  exact tArg_mono _ _ _ _ (fun x H1 h => h) (op1_tE q)
theorem tE_sliceL (hK : X.K = G.K) {p2 pos : Pos} {i1 i2 : Bool} {ia ib : IE} (ha : PE X a (tArg G cf lk cn W ia)) (hb : PE X b (tArg G cf lk cn W ib)) :
    PE X (.Subscript a (.Slice (some b) none none p2) pos) (tE G cf lk cn W (.op (.slice true false) (.cons i1 ia (.cons i2 ib .nil)))) := by
  refine PE.imp (pe_slice (sl_A hK) ha (po_some hb) po_none) fun σ H Q q => ?_
  refine tArg_mono _ _ _ _ (fun x H1 h => tArg_mono _ _ _ _ (fun y H2 h => ?_) h) (op2_tE q)
  obtain ⟨Fz, d, e, ob, sub, vx, vy, ho, r⟩ := h
  have ho : (bInt e).bind (fun i => slicef d (some i) none) = some ob := ho
  rw [Option.bind_eq_some_iff] at ho
  obtain ⟨i, e1, e2⟩ := ho
  exact ⟨i, vy.intB e1, Fz, d, ob, sub, vx, e2, r⟩
theorem tE_sliceU (hK : X.K = G.K) {p2 pos : Pos} {i1 i2 : Bool} {ia ib : IE} (ha : PE X a (tArg G cf lk cn W ia)) (hb : PE X b (tArg G cf lk cn W ib)) :
    PE X (.Subscript a (.Slice none (some b) none p2) pos) (tE G cf lk cn W (.op (.slice false true) (.cons i1 ia (.cons i2 ib .nil)))) := by
  refine PE.imp (pe_slice (sl_A hK) ha po_none (po_some hb)) fun σ H Q q => ?_
  refine tArg_mono _ _ _ _ (fun x H1 h => tArg_mono _ _ _ _ (fun y H2 h => ?_) h) (op2_tE q)
  obtain ⟨Fz, d, e, ob, sub, vx, vy, ho, r⟩ := h
  have ho : (bInt e).bind (fun i => slicef d none (some i)) = some ob := ho
  rw [Option.bind_eq_some_iff] at ho
  obtain ⟨i, e1, e2⟩ := ho
  exact ⟨i, vy.intB e1, Fz, d, ob, sub, vx, e2, r⟩
/-- three arguments -/
theorem op3_tE {o : Op} {ia ib ic : IE} {i1 i2 i3 : Bool} {σ : St} {H : Hp} {Q : VK} (h : tE G cf lk cn W (.op o (.cons i1 ia (.cons i2 ib (.cons i3 ic .nil)))) σ H Q) :
    tArg G cf lk cn W ia σ H fun x H1 => tArg G cf lk cn W ib σ H1 fun y H2 => tArg G cf lk cn W ic σ H2 fun z H3 =>
      ∃ Fz d e f ob, Same Fz H3 ∧ VW G.K Fz H3 x d ∧ VW G.K Fz H3 y e ∧ VW G.K Fz H3 z f ∧ opf3 o d e f = some ob ∧ Res G Fz H3 ob Q := by
  obtain ⟨env, Fz, s, p⟩ := h
  rw [evE, evA_cons] at p
  have p := p.split0.split0
  refine ⟨env, Fz, s, p.mono fun ag env1 Fz1 H1 s1 f1 q x r => ?_⟩
  rw [evA_cons] at q
  have q := (q.split0.split0).shift f1
  refine ⟨env1, Fz1, s1, q.mono fun bg env2 Fz2 H2 s2 f2 q y r' => ?_⟩
  rw [evA_cons] at q
  have f12 := f1.trans f2
  have q := (q.split0.split0).shift f12
  refine ⟨env2, Fz2, s2, q.mono fun cg env3 Fz3 H3 s3 f3 q z r'' => ?_⟩
  have f := f12.trans f3
  rw [evA] at q
  have q := q Fz3 H3 s3 f Fz3 H3 s3 f Fz3 H3 s3 f
  simp only [List.map_cons, List.map_nil] at q
  have r := (r.step f2).step f3
  have r' := r'.step f3
  cases e1 : resolve env3 [ag, bg, cg] with
  | none => rw [e1] at q; exact q.elim
  | some os =>
    rw [e1] at q
    obtain ⟨o1, oq1, rfl⟩ := resolve_cons e1
    obtain ⟨ro1, e2⟩ := r.res s3 e1
    obtain ⟨o2, oq2, rfl⟩ := resolve_cons e2
    obtain ⟨ro2, e2⟩ := r'.res s3 e2
    obtain ⟨o3, oq3, rfl⟩ := resolve_cons e2
    obtain ⟨ro3, e2⟩ := r''.res s3 e2
    rw [resolve] at e2; cases e2
    cases e3 : views [o1, o2, o3] with
    | none => simp only [Option.bind_some, e3, Option.bind_none] at q; exact q.elim
    | some ds =>
      obtain ⟨d, es, e4, e5, rfl⟩ := views_cons e3
      obtain ⟨d2, es2, e6, e7, rfl⟩ := views_cons e5
      obtain ⟨d3, es3, e9, e10, rfl⟩ := views_cons e7
      rw [views] at e10; cases e10
      simp only [Option.bind_some, e3] at q
      cases e8 : opf o [d, d2, d3] with
      | none => rw [e8] at q; exact q.elim
      | some ob =>
        rw [e8] at q
        exact ⟨Fz3, d, d2, d3, ob, s3.sub, ro1.view e4, ro2.view e6, ro3.view e9, e8, opEnd s3 f q⟩

theorem tE_sl2 (hK : X.K = G.K) {p2 pos : Pos} {i1 : Bool} {ia ib ic : IE} {c : Expr} (ha : PE X a (tArg G cf lk cn W ia)) (hb : PE X b (tE G cf lk cn W ib)) (hc : PE X c (tE G cf lk cn W ic)) :
    PE X (.Subscript a (.Slice (some b) (some c) none p2) pos) (tE G cf lk cn W (.sl2 (.cons i1 ia .nil) ib ic)) := by
  refine PE.imp (pe_slice (sl_A hK) ha (po_some hb) (po_some hc)) fun σ H Q ⟨env, Fz, s, p⟩ => ?_
  rw [evE, evA_cons] at p
  have p := p.split0.split0
  refine ⟨env, Fz, s, p.mono fun ag env1 Fz1 H1 s1 f1 q x r => ?_⟩
  rw [evA] at q
  have q := q Fz1 H1 s1 f1
  simp only at q
  have q := (q.split0).shift f1
  refine ⟨env1, Fz1, s1, q.mono fun ol env2 Fz2 H2 s2 f2 q y r2 _ => ?_⟩
  obtain ⟨i, rfl⟩ : ∃ i, ol = .v (.int i) := by
    split at q
    · exact ⟨_, rfl⟩
    · exact q.elim
  cases r2 with
  | v r2 =>
    cases r2
    refine ⟨i, rfl, ?_⟩
    have f12 := f1.trans f2
    have q := (q.split0).shift f12
    refine ⟨env2, Fz2, s2, q.mono fun oh env3 Fz3 H3 s3 f3 q z r3 _ => ?_⟩
    obtain ⟨j, rfl⟩ : ∃ j, oh = .v (.int j) := by
      split at q
      · exact ⟨_, rfl⟩
      · exact q.elim
    cases r3 with
    | v r3 =>
      cases r3
      refine ⟨j, rfl, ?_⟩
      have f := f12.trans f3
      have r := (r.step f2).step f3
      simp only [List.map_cons, List.map_nil] at q
      cases e1 : resolve env3 [ag] with
      | none => rw [e1] at q; exact q.elim
      | some os =>
        rw [e1] at q
        obtain ⟨o1, oq1, rfl⟩ := resolve_cons e1
        obtain ⟨ro1, e2⟩ := r.res s3 e1
        rw [resolve] at e2; cases e2
        cases e3 : views [o1] with
        | none => simp only [Option.bind_some, e3, Option.bind_none] at q; exact q.elim
        | some ds =>
          obtain ⟨d, es, e4, e5, rfl⟩ := views_cons e3
          rw [views] at e5; cases e5
          simp only [Option.bind_some, e3] at q
          cases e8 : slicef d (some i) (some j) with
          | none => rw [e8] at q; exact q.elim
          | some ob =>
            rw [e8] at q
            exact ⟨Fz3, d, ob, s3.sub, ro1.view e4, e8, opEnd s3 f q⟩

theorem blt1B {o : Op} {id : String} {n : Str} {p pos : Pos} {io : Bool} {ia : IE} (hc : CallR X (.builtin id) (r1L G (opf1 o))) (hv : bootBuiltins n = some (.builtin id)) (hg : Gl X n) (hm : X.mg n = none) (hn : n ≠ "__name__") (hd : (n == ("__debug__" : Str)) = false)
    (ha : PE X a (tArg G cf lk cn W ia)) (hs : notStar a = true) : PE X (.Call (.Name n p) [a] [] pos) (tE G cf lk cn W (.op o (.cons io ia .nil))) := by
  refine PE.imp (pe_callB hc hg hm hv (pa_cons ha pa_nil (star_cons hs)) hn hd (star_cons hs)) fun σ H Q q => ?_
  exact tArg_mono _ _ _ _ (fun x H1 h => ⟨x, rfl, h⟩) (op1_tE q)
theorem blt1T {o : Op} {id : String} {n : Str} {p pos : Pos} {io : Bool} {ia : IE} (hc : CallR X (.type id) (r1L G (opf1 o))) (hv : bootBuiltins n = some (.type id)) (hg : Gl X n) (hm : X.mg n = none) (hn : n ≠ "__name__") (hd : (n == ("__debug__" : Str)) = false)
    (ha : PE X a (tArg G cf lk cn W ia)) (hs : notStar a = true) : PE X (.Call (.Name n p) [a] [] pos) (tE G cf lk cn W (.op o (.cons io ia .nil))) := by
  refine PE.imp (pe_callTy hc hg hm hv (pa_cons ha pa_nil (star_cons hs)) hn hd (star_cons hs)) fun σ H Q q => ?_
  exact tArg_mono _ _ _ _ (fun x H1 h => ⟨x, rfl, h⟩) (op1_tE q)
theorem blt2B {o : Op} {id : String} {n : Str} {p pos : Pos} {i1 i2 : Bool} {ia ib : IE} (hc : CallR X (.builtin id) (r2L G (opf2 o))) (hv : bootBuiltins n = some (.builtin id)) (hg : Gl X n) (hm : X.mg n = none) (hn : n ≠ "__name__") (hd : (n == ("__debug__" : Str)) = false)
    (ha : PE X a (tArg G cf lk cn W ia)) (hb : PE X b (tArg G cf lk cn W ib)) (hs : notStar a = true) (hs2 : notStar b = true) : PE X (.Call (.Name n p) [a, b] [] pos) (tE G cf lk cn W (.op o (.cons i1 ia (.cons i2 ib .nil)))) := by
  refine PE.imp (pe_callB hc hg hm hv (pa_cons ha (pa_cons hb pa_nil (star_cons hs2)) (star_cons hs)) hn hd (star_cons hs) (by rw [star_cons hs2]; rfl)) fun σ H Q q => ?_
  exact tArg_mono _ _ _ _ (fun x H1 h => tArg_mono _ _ _ _ (fun y H2 h => ⟨x, y, rfl, h⟩) h) (op2_tE q)
theorem tE_isA (hK : X.K = G.K) {o : Op} {pr : PV → Bool} {t : Str} {ty : String} {p p2 pos : Pos} {io : Bool} {ia : IE} (ho : opf1 o = kindf pr) (hp : ∀ d, isD d = false → kitB (tyOf d) ty = some (pr d))
    (hg : Gl X "isinstance") (hm : X.mg "isinstance" = none) (hgt : Gl X t) (hmt : X.mg t = none) (hvt : bootBuiltins t = some (.type ty)) (hnt : t ≠ "__name__") (hdt : (t == ("__debug__" : Str)) = false)
    (ha : PE X a (tArg G cf lk cn W ia)) (hs : notStar a = true) : PE X (.Call (.Name "isinstance" p) [a, .Name t p2] [] pos) (tE G cf lk cn W (.op o (.cons io ia .nil))) := by
  have hv : bootBuiltins "isinstance" = some (.builtin "isinstance") := by decide +kernel
  have hb : PE X (.Name t p2) (tC (.ty ty)) := pe_bltn hgt hmt hvt rfl hnt hdt
  refine PE.imp (pe_callB (call_isA hK hp) hg hm hv (pa_cons ha (pa_cons hb pa_nil rfl) (star_cons hs)) (by decide) (by decide) (star_cons hs) rfl) fun σ H Q q => ?_
  have q := op1_tE q
  rw [ho] at q
  exact tArg_mono _ _ _ _ (fun x H1 h => ⟨x, rfl, h⟩) q
/-- isinstance(x, (A, B)) -/
theorem call_isA2 (hK : X.K = G.K) {pr : PV → Bool} {t1 t2 : String} (hp : ∀ d, isD d = false → ∃ b1 b2, kitB (tyOf d) t1 = some b1 ∧ kitB (tyOf d) t2 = some b2 ∧ pr d = (b1 || b2)) :
    CallR X (.builtin "isinstance") (fun xs H Q => ∃ x tp, xs = [x, .ref tp] ∧ H tp = some (.tup [.ty t1, .ty t2]) ∧ r1 G (kindf pr) x H Q) := by
  intro pins s σ H xs us Q I rx h
  obtain ⟨x, tp, rfl, htp, Fz, d, ob, sub, hx, ho, q⟩ := h
  unfold kindf at ho
  by_cases nd : isD d = true
  · rw [if_pos nd] at ho; cases ho
  · rw [if_neg nd] at ho
    cases vB_eq ho
    have nd : isD d = false := by simpa using nd
    obtain ⟨b1, b2, k1, k2, e⟩ := hp d nd
    refine call_isiT pins s σ H _ us Q I rx ⟨x, tp, _, _, [.type t1, .type t2], _, rfl, htp, .cons (.ty _) (.cons (.ty _) .nil), VW.ty hK hx sub nd, ?_, q.sc sub (.bl _)⟩
    rw [e]
    refine kitAny_cons (kit_ty k1) (fun hb => ?_) (fun hb => by rw [hb]; rfl)
    refine kitAny_cons (kit_ty k2) (fun hb2 => ?_) (fun hb2 => by rw [hb2]; simp)
    rw [hb, hb2]
    rfl
theorem VW.ext {Fz H Fz' H' : Hp} {x : V} {d : PV} (e : Ext Fz H Fz' H') (h : VW G.K Fz H x d) : VW G.K Fz' H' x d := by
  cases h with
  | fz r => exact .fz (r.mono e.ff)
  | own a b => exact .own (e.hh _ _ a) (b.mono e.ff)
  | ro a b => exact .ro (SqL.mono e.ff a) (b.mono e.ff)
theorem Ext.trans {Fz H Fz1 H1 Fz2 H2 : Hp} (a : Ext Fz H Fz1 H1) (b : Ext Fz1 H1 Fz2 H2) : Ext Fz H Fz2 H2 :=
  ⟨a.hh.trans b.hh, a.ff.trans b.ff, b.sub, fun c h z => b.nw c (by
    cases q : H c with
    | none => exact absurd q h
    | some o => rw [a.hh c o q]; simp) (a.nw c h z)⟩
theorem Res.after {Fz H Fz1 H1 : Hp} {ob : Ob} {Q : VK} (e : Ext Fz H Fz1 H1) (r : Res G Fz H ob Q) : Res G Fz1 H1 ob Q := fun v Fz' H' e2 ro fr => r v Fz' H' (e.trans e2) ro fun m => by
  obtain ⟨a, h1, h2⟩ := fr m
  refine ⟨a, h1, ?_⟩
  cases q : H a with
  | none => rfl
  | some o => rw [e.hh a o q] at h2; cases h2
theorem tE_isA2 (hK : X.K = G.K) {o : Op} {pr : PV → Bool} {n1 n2 : Str} {t1 t2 : String} {p p2 p3 p4 pos : Pos} {k : Nat} {io : Bool} {ia : IE} (ho : opf1 o = kindf pr)
    (hp : ∀ d, isD d = false → ∃ b1 b2, kitB (tyOf d) t1 = some b1 ∧ kitB (tyOf d) t2 = some b2 ∧ pr d = (b1 || b2))
    (hg : Gl X "isinstance") (hm : X.mg "isinstance" = none) (hg1 : Gl X n1) (hm1 : X.mg n1 = none) (hv1 : bootBuiltins n1 = some (.type t1)) (hn1 : n1 ≠ "__name__") (hd1 : (n1 == ("__debug__" : Str)) = false)
    (hg2 : Gl X n2) (hm2 : X.mg n2 = none) (hv2 : bootBuiltins n2 = some (.type t2)) (hn2 : n2 ≠ "__name__") (hd2 : (n2 == ("__debug__" : Str)) = false)
    (ha : PE X a (tArg G cf lk cn W ia)) (hs : notStar a = true) : PE X (.Call (.Name "isinstance" p) [a, .Tuple [.Name n1 p2, .Name n2 p3] k p4] [] pos) (tE G cf lk cn W (.op o (.cons io ia .nil))) := by
  have hv : bootBuiltins "isinstance" = some (.builtin "isinstance") := by decide +kernel
  have hb1 : PE X (.Name n1 p2) (tC (.ty t1)) := pe_bltn hg1 hm1 hv1 rfl hn1 hd1
  have hb2 : PE X (.Name n2 p3) (tC (.ty t2)) := pe_bltn hg2 hm2 hv2 rfl hn2 hd2
  have hb : PE X (.Tuple [.Name n1 p2, .Name n2 p3] k p4) _ := pe_tup (pa_cons hb1 (pa_cons hb2 pa_nil rfl) rfl)
  refine PE.imp (pe_callB (call_isA2 hK hp) hg hm hv (pa_cons ha (pa_cons hb pa_nil rfl) (star_cons hs)) (by decide) (by decide) (star_cons hs) rfl) fun σ H Q q => ?_
  have q := op1_tE q
  rw [ho] at q
  refine tArg_mono _ _ _ _ (fun x H1 h => ⟨by show 2 ≤ sizeLine; decide, fun tp htp => ?_⟩) q
  obtain ⟨Fz, d, ob, sub, vx, h1, r⟩ := h
  have e : Ext Fz H1 Fz (upd H1 tp (.tup [.ty t1, .ty t2])) := Ext.newL sub htp
  exact ⟨x, tp, rfl, upd_same, Fz, d, ob, e.sub, vx.ext e, h1, r.after e⟩
end
end Pv
-- PvIter
set_option maxRecDepth 100000
namespace Pv
open PySem L2
open RZ (ItzT pi_zipA)
/-- J gives the items ds, whatever has been laid beside the ground -/
def WalkD (G : Gx) (J : It) (ds : List PV) (Fz : Hp) : Prop :=
  Walk J ds.length (fun H => Same Fz H) (fun i H x H' => ∀ Fz2, Same Fz Fz2 → Same Fz2 H → ∃ Fz3, Ext Fz2 H Fz3 H' ∧ ∃ d, ds[i]? = some d ∧ RF G.K Fz3 x d)
section
variable (G : Gx) (cf : Nat → List Ob → CR) (lk : List Nat) (cn : Nat → Str) (W : WX)
def tIt (it : IT) : TI := fun σ H R => ∃ env Fz, StOk G env σ Fz H ∧ PostE G cn W env σ Fz H (evIt cf lk it env) fun ds env' Fz' H' => ∀ J, WalkD G J ds Fz' → R J H'
end
theorem PI.imp {X : Cx} {tg e : Expr} {t t' : TI} (h : PI X tg e t) (i : ∀ σ H Q, t' σ H Q → t σ H Q) : PI X tg e t' := ⟨fun pins s σ H Q I q => h.run pins s σ H Q I (i σ H Q q)⟩
section
variable {K : PySem.W.Frag} {Fz : Hp}
theorem RFs.getV : ∀ {ds : List PV} {vs : List V} {i : Nat} {v : V}, RFs K Fz vs ds → vs[i]? = some v → ∃ d, ds[i]? = some d ∧ RF K Fz v d
  | [], _, _, _, r, e => by cases r; simp at e
  | _ :: _, _, 0, _, .cons a b, e => by simp at e; subst e; exact ⟨_, rfl, a⟩
  | _ :: ds, _, i + 1, _, .cons a b, e => by
    obtain ⟨v, h1, h2⟩ := RFs.getV (i := i) b (by simpa using e)
    exact ⟨v, by simpa using h1, h2⟩
end
section
variable {G : Gx} {Fz : Hp}
theorem walkD_list {a : Addr} {vs : List V} {xs : List PV} (ha : Fz a = some (.lst vs)) (hr : RFs G.K Fz vs xs) : WalkD G (Itl G.K a) xs Fz := by
  have w := walk_list (K := G.K) (a := a) (xs := vs)
  rw [hr.length] at w
  refine w.mono (fun H h => SqL.of (h _ _ ha)) fun i H x H' _ _ y Fz2 h1 h2 => ?_
  obtain ⟨rfl, y⟩ := y
  obtain ⟨d, e1, e2⟩ := hr.getV y
  exact ⟨Fz2, Ext.refl h2, d, e1, e2.mono h1⟩
theorem walkD_tup {a : Addr} {vs : List V} {xs : List PV} (ha : SqT G.K Fz a vs) (hr : RFs G.K Fz vs xs) : WalkD G (Itt G.K a) xs Fz := by
  have w := walk_tup (K := G.K) (a := a) (xs := vs)
  rw [hr.length] at w
  refine w.mono (fun H h => SqT.mono h ha) fun i H x H' _ _ y Fz2 h1 h2 => ?_
  obtain ⟨rfl, y⟩ := y
  obtain ⟨d, e1, e2⟩ := hr.getV y
  exact ⟨Fz2, Ext.refl h2, d, e1, e2.mono h1⟩
theorem walkD_str {z : Str} (hz : PyData.strOk z = true) : WalkD G (Its z) (z.cps.toList.map fun c => .str ⟨#[c]⟩) Fz := by
  have w := walk_str (z := z)
  have hl : (z.cps.toList.map fun c => PyData.str ⟨#[c]⟩).length = z.cps.size := by simp
  unfold WalkD
  rw [hl]
  refine w.mono (fun H h => trivial) fun i H x H' _ _ y Fz2 h1 h2 => ?_
  obtain ⟨rfl, c, hc, rfl⟩ := y
  refine ⟨Fz2, Ext.refl h2, .str ⟨#[c]⟩, ?_, .str ?_⟩
  · rw [List.getElem?_map, Array.getElem?_toList, hc]; rfl
  · have hm : c ∈ z.cps.toList := List.mem_of_getElem? (i := i) (by rw [Array.getElem?_toList]; exact hc)
    unfold PyData.strOk at hz ⊢
    rw [← Array.all_toList, List.all_eq_true] at hz
    simpa using hz c hm
theorem rangeL_get {lo st : Int} {n i : Nat} (h : i < n) : (rangeL lo n st)[i]? = some (.int (lo + (i : Int) * st)) := by
  unfold rangeL
  rw [List.getElem?_map, List.getElem?_range h]; rfl
theorem rangeL_length {lo st : Int} {n : Nat} : (rangeL lo n st).length = n := by simp [rangeL]
theorem walkD_range {lo : Int} {n : Nat} : WalkD G (Itr lo n) (rangeL lo n 1) Fz := by
  unfold WalkD
  rw [rangeL_length]
  refine (walk_range (lo := lo) (n := n)).mono (fun H h => trivial) fun i H x H' hi _ y Fz2 h1 h2 => ?_
  obtain ⟨rfl, rfl⟩ := y
  exact ⟨Fz2, Ext.refl h2, _, by rw [rangeL_get hi, Int.mul_one], .int _⟩
theorem walkD_rangeC {lo c : Int} {n : Nat} : WalkD G (Itc lo c n) (rangeL lo n c) Fz := by
  unfold WalkD
  rw [rangeL_length]
  refine (walk_rangeC (lo := lo) (c := c) (n := n)).mono (fun H h => trivial) fun i H x H' hi _ y Fz2 h1 h2 => ?_
  obtain ⟨rfl, rfl⟩ := y
  exact ⟨Fz2, Ext.refl h2, _, rangeL_get hi, .int _⟩
theorem enumL_length : ∀ (xs : List PV) (k : Nat), (enumL k xs).length = xs.length
  | [], _ => rfl
  | _ :: xs, k => by rw [enumL, List.length_cons, List.length_cons, enumL_length xs]
theorem enumL_get : ∀ {xs : List PV} {k i : Nat} {d : PV}, xs[i]? = some d → (enumL k xs)[i]? = some (.tuple [.int ((k + i : Nat) : Int), d])
  | [], _, _, _, h => by simp at h
  | x :: xs, k, 0, d, h => by simp at h; subst h; simp [enumL]
  | x :: xs, k, i + 1, d, h => by
    have := enumL_get (k := k + 1) (i := i) (d := d) (by simpa using h)
    rw [enumL, List.getElem?_cons_succ, this]
    congr 4
    omega
/-- new pairs of an iterator -/
theorem pair_new {Fz2 H : Hp} {T : Addr} {x y : V} {d e : PV} (h2 : Same Fz2 H) (hT : H T = none) (hx : RF G.K Fz2 x d) (hy : RF G.K Fz2 y e) :
    ∃ Fz3, Ext Fz2 H Fz3 (upd H T (.tup [x, y])) ∧ RF G.K Fz3 (.ref T) (.tuple [d, e]) := by
  have ff : Same Fz2 (upd Fz2 T (.tup [x, y])) := Same.upd (fz_none h2 hT)
  exact ⟨upd Fz2 T (.tup [x, y]), Ext.newT h2 hT, .tup (SqT.of upd_same) (.cons (hx.mono ff) (.cons (hy.mono ff) .nil))⟩
theorem walkD_enum {a : Addr} {vs : List V} {xs : List PV} (ha : Fz a = some (.lst vs)) (hr : RFs G.K Fz vs xs) : WalkD G (Ite G.K a) (enumL 0 xs) Fz := by
  have w := walk_enum (K := G.K) (a := a) (xs := vs)
  unfold WalkD
  rw [enumL_length, ← hr.length]
  refine w.mono (fun H h => SqL.of (h _ _ ha)) fun i H x H' _ _ y Fz2 h1 h2 => ?_
  obtain ⟨T, x1, y1, rfl, hT, rfl, e1, e2⟩ := y
  cases e1
  obtain ⟨d, e3, e4⟩ := hr.getV e2
  obtain ⟨Fz3, q1, q2⟩ := pair_new h2 hT (.int (i : Nat)) (e4.mono h1)
  refine ⟨Fz3, q1, _, ?_, q2⟩
  rw [enumL_get e3, Nat.zero_add]
theorem zipL_length : ∀ (xs ys : List PV), (zipL xs ys).length = min xs.length ys.length
  | [], _ => by simp [zipL]
  | _ :: _, [] => by simp [zipL]
  | _ :: xs, _ :: ys => by simp [zipL, zipL_length xs ys]
theorem zipL_get : ∀ {xs ys : List PV} {i : Nat} {d e : PV}, xs[i]? = some d → ys[i]? = some e → (zipL xs ys)[i]? = some (.tuple [d, e])
  | [], _, _, _, _, h, _ => by simp at h
  | _ :: _, [], _, _, _, _, h => by simp at h
  | _ :: _, _ :: _, 0, _, _, h1, h2 => by simp at h1 h2; subst h1 h2; simp [zipL]
  | _ :: xs, _ :: ys, i + 1, d, e, h1, h2 => by
    rw [zipL, List.getElem?_cons_succ]
    exact zipL_get (by simpa using h1) (by simpa using h2)
theorem walkD_zip {a b : Addr} {vs ws : List V} {xs ys : List PV} (ha : Fz a = some (.lst vs)) (hr : RFs G.K Fz vs xs) (hb : Fz b = some (.lst ws)) (hs : RFs G.K Fz ws ys) : WalkD G (Itz G.K a b) (zipL xs ys) Fz := by
  have w := walk_zip (K := G.K) (a := a) (b := b) (xs := vs) (ys := ws) rfl
  unfold WalkD
  rw [zipL_length, ← hr.length, ← hs.length]
  refine w.mono (fun H h => ⟨SqL.of (h _ _ ha), SqL.of (h _ _ hb)⟩) fun i H x H' _ _ y Fz2 h1 h2 => ?_
  obtain ⟨T, x1, y1, rfl, hT, rfl, e1, e2⟩ := y
  obtain ⟨d, e3, e4⟩ := hr.getV e1
  obtain ⟨d2, e5, e6⟩ := hs.getV e2
  obtain ⟨Fz3, q1, q2⟩ := pair_new h2 hT (e4.mono h1) (e6.mono h1)
  exact ⟨Fz3, q1, _, zipL_get e3 e5, q2⟩
theorem walkD_zipT {a b : Addr} {vs ws : List V} {xs ys : List PV} (ha : SqT G.K Fz a vs) (hr : RFs G.K Fz vs xs) (hb : SqT G.K Fz b ws) (hs : RFs G.K Fz ws ys) : WalkD G (ItzT G.K a b) (zipL xs ys) Fz := by
  unfold WalkD
  rw [zipL_length, ← hr.length, ← hs.length]
  refine ⟨fun i H hi h => ?_, fun H h => ?_, fun i H v H' hi h y Fz2 h1 h2 => ?_⟩
  · have q1 : i < vs.length := by omega
    have q2 : i < ws.length := by omega
    exact ⟨vs, ws, vs[i], ws[i], SqT.mono h ha, SqT.mono h hb, by simp [q1], by simp [q2]⟩
  · exact ⟨vs, ws, SqT.mono h ha, SqT.mono h hb, by omega⟩
  · obtain ⟨T, x1, y1, rfl, hT, rfl, e1, e2⟩ := y
    obtain ⟨d, e3, e4⟩ := hr.getV (e1 vs (SqT.mono h ha))
    obtain ⟨d2, e5, e6⟩ := hs.getV (e2 ws (SqT.mono h hb))
    obtain ⟨Fz3, q1, q2⟩ := pair_new h2 hT (e4.mono h1) (e6.mono h1)
    exact ⟨Fz3, q1, _, zipL_get e3 e5, q2⟩
end

section
variable {X : Cx} {G : Gx} {cf : Nat → List Ob → CR} {lk : List Nat} {cn : Nat → Str} {W : WX} {tg e a b c : Expr}
/-- over a value -/
theorem it_seq {ir : IE} (hK : X.K = G.K) (h : PE X e (tFz G cf lk cn W ir)) : PI X tg e (tIt G cf lk cn W (.seq ir)) := by
  refine ⟨fun pins s σ H R I ⟨env, Fz, st, p⟩ => ?_⟩
  rw [evIt, ← Rs.assoc] at p
  have p : PostE G cn W env σ Fz H ((evZ cf lk ir env).bind fun d env => optR (itemsOf d) env) (fun ds env' Fz' H' => ∀ J, WalkD G J ds Fz' → R J H') := p
  cases hz : evZ cf lk ir env with
  | no => rw [hz] at p; exact p.elim
  | ex c xs env1 =>
    rw [hz] at p
    exact (pi_list h).run pins s σ H R I ⟨env, Fz, st, by rw [hz]; exact p⟩
  | ok d env1 =>
    rw [hz] at p
    have p : PostE G cn W env σ Fz H (optR (itemsOf d) env1) (fun ds env' Fz' H' => ∀ J, WalkD G J ds Fz' → R J H') := p
    cases d with
    | list xs =>
      refine (pi_list h).run pins s σ H R I ⟨env, Fz, st, ?_⟩
      rw [hz]
      intro Fz1 H1 s1 f1 x r
      cases r with
      | lst ha hr => exact ⟨_, rfl, ⟨_, SqL.of (s1.sub _ _ ha)⟩, hK ▸ p Fz1 H1 s1 f1 _ (walkD_list ha hr)⟩
    | tuple xs =>
      refine (pi_tup h).run pins s σ H R I ⟨env, Fz, st, ?_⟩
      rw [hz]
      intro Fz1 H1 s1 f1 x r
      cases r with
      | tup ha hr => exact ⟨_, rfl, ⟨_, hK ▸ SqT.mono s1.sub ha⟩, hK ▸ p Fz1 H1 s1 f1 _ (walkD_tup ha hr)⟩
    | str z =>
      refine (pi_str h).run pins s σ H R I ⟨env, Fz, st, ?_⟩
      rw [hz]
      intro Fz1 H1 s1 f1 x r
      cases r with
      | str ha => exact ⟨_, rfl, p Fz1 H1 s1 f1 _ (walkD_str ha)⟩
    | none => exact p.elim
    | bool _ => exact p.elim
    | int _ => exact p.elim
    | dict _ => exact p.elim
theorem it_enum {ir : IE} {p pos tpos : Pos} {elts : List Expr} {kk : Nat} (hK : X.K = G.K) (hg : Gl X "enumerate") (hm : X.mg "enumerate" = none) (h : PE X e (tFz G cf lk cn W ir)) (hs : notStar e = true) :
    PI X (.Tuple elts kk tpos) (.Call (.Name "enumerate" p) [e] [] pos) (tIt G cf lk cn W (.enum ir)) := by
  refine PI.imp (pi_enum hg hm (pa_cons h pa_nil (star_cons hs)) (star_cons hs)) fun σ H R ⟨env, Fz, st, p⟩ => ?_
  rw [evIt, ← Rs.assoc] at p
  have p : PostE G cn W env σ Fz H ((evZ cf lk ir env).bind fun d env => optR ((listOf d).map (enumL 0)) env) (fun ds env' Fz' H' => ∀ J, WalkD G J ds Fz' → R J H') := p
  refine ⟨env, Fz, st, p.split0.mono fun d env1 Fz1 H1 s1 f1 q x r => ?_⟩
  cases d with
  | list xs =>
    cases r with
    | lst ha hr => exact ⟨_, _, rfl, SqL.of (s1.sub _ _ ha), hK ▸ q Fz1 H1 s1 f1 _ (walkD_enum ha hr)⟩
  | tuple xs => exact q.elim
  | str z => exact q.elim
  | none => exact q.elim
  | bool _ => exact q.elim
  | int _ => exact q.elim
  | dict _ => exact q.elim
theorem it_zip {ia ib : IE} {p pos tpos : Pos} {elts : List Expr} {kk : Nat} (hK : X.K = G.K) (hg : Gl X "zip") (hm : X.mg "zip" = none) (ha : PE X a (tFz G cf lk cn W ia)) (hb : PE X b (tFz G cf lk cn W ib)) (hs : notStar a = true) (hs2 : notStar b = true) :
    PI X (.Tuple elts kk tpos) (.Call (.Name "zip" p) [a, b] [] pos) (tIt G cf lk cn W (.zip ia ib)) := by
  refine PI.imp (pi_zipA hg hm (pa_cons ha (pa_cons hb pa_nil (star_cons hs2)) (star_cons hs)) (star_cons hs) (by rw [star_cons hs2]; rfl)) fun σ H R ⟨env, Fz, st, p⟩ => ?_
  rw [evIt, ← Rs.assoc] at p
  have p : PostE G cn W env σ Fz H ((evZ cf lk ia env).bind fun da env => (evE cf lk ib env).bind fun ob env => (fzR ob env).bind fun db env => optR (zipOf da db) env) (fun ds env' Fz' H' => ∀ J, WalkD G J ds Fz' → R J H') := p
  refine ⟨env, Fz, st, p.split0.mono fun da env1 Fz1 H1 s1 f1 q x r => ?_⟩
  rw [← Rs.assoc] at q
  have q : PostE G cn W env σ Fz H ((evZ cf lk ib env1).bind fun db env => optR (zipOf da db) env) (fun ds env' Fz' H' => ∀ J, WalkD G J ds Fz' → R J H') := q
  refine ⟨env1, Fz1, s1, (q.split0.shift f1).mono fun db env2 Fz2 H2 s2 f2 q y r2 => ?_⟩
  have f := f1.trans f2
  have r := r.mono f2.ff
  cases da with
  | list xs =>
    cases db with
    | list ys =>
      cases r with
      | lst h1 h2 =>
        cases r2 with
        | lst h3 h4 => exact ⟨_, _, _, _, rfl, .inl ⟨SqL.of (s2.sub _ _ h1), SqL.of (s2.sub _ _ h3), hK ▸ q Fz2 H2 s2 f _ (walkD_zip h1 h2 h3 h4)⟩⟩
    | _ => exact q.elim
  | tuple xs =>
    cases db with
    | tuple ys =>
      cases r with
      | tup h1 h2 =>
        cases r2 with
        | tup h3 h4 => exact ⟨_, _, _, _, rfl, .inr ⟨hK ▸ SqT.mono s2.sub h1, hK ▸ SqT.mono s2.sub h3, hK ▸ q Fz2 H2 s2 f _ (walkD_zipT h1 h2 h3 h4)⟩⟩
    | _ => exact q.elim
  | str z => exact q.elim
  | none => exact q.elim
  | bool _ => exact q.elim
  | int _ => exact q.elim
  | dict _ => exact q.elim
end
end Pv
-- PvComp
set_option maxRecDepth 100000
namespace Pv
open PySem L2
section
variable {X : Cx} {G : Gx} {cf : Nat → List Ob → CR} {lk : List Nat} {cn : Nat → Str} {W : WX} {tg e a b c : Expr}
theorem rangeV_one {d : PV} {xs : List PV} (h : rangeV [d] = some xs) : ∃ j : Int, d = .int j ∧ -(2 ^ 62) ≤ j ∧ j < 2 ^ 62 ∧ xs = rangeL 0 j.toNat 1 := by
  cases d with
  | int j =>
    rw [rangeV] at h
    obtain ⟨h1, h2⟩ := ite_some h
    obtain ⟨h3, h4⟩ := b2 h1
    exact ⟨j, rfl, of_decide_eq_true h3, of_decide_eq_true h4, h2.symm⟩
  | _ => cases h
theorem rangeV_two {d e : PV} {xs : List PV} (h : rangeV [d, e] = some xs) : ∃ i j : Int, d = .int i ∧ e = .int j ∧ (-(2 ^ 62) ≤ i ∧ i < 2 ^ 62 ∧ -(2 ^ 62) ≤ j ∧ j < 2 ^ 62) ∧ xs = rangeL i (j - i).toNat 1 := by
  cases d with
  | int i =>
    cases e with
    | int j =>
      rw [rangeV] at h
      obtain ⟨h1, h2⟩ := ite_some h
      obtain ⟨h3, h4⟩ := b2 h1
      obtain ⟨h5, h6⟩ := b2 h3
      obtain ⟨h7, h8⟩ := b2 h5
      exact ⟨i, j, rfl, rfl, ⟨of_decide_eq_true h7, of_decide_eq_true h8, of_decide_eq_true h6, of_decide_eq_true h4⟩, h2.symm⟩
    | _ => cases h
  | _ => cases h
theorem rangeV_three {d e f : PV} {xs : List PV} (h : rangeV [d, e, f] = some xs) : ∃ i j : Int, d = .int i ∧ e = .int j ∧ f = .int (-1) ∧ (-(2 ^ 62) ≤ i ∧ i < 2 ^ 62 ∧ -(2 ^ 62) ≤ j ∧ j < 2 ^ 62) ∧ xs = rangeL i (i - j).toNat (-1) := by
  unfold rangeV at h
  split at h
  · rename_i heq; cases heq
  · rename_i heq; cases heq
  · rename_i i j heq
    cases heq
    obtain ⟨h1, h2⟩ := ite_some h
    obtain ⟨h3, h4⟩ := b2 h1
    obtain ⟨h5, h6⟩ := b2 h3
    obtain ⟨h7, h8⟩ := b2 h5
    exact ⟨i, j, rfl, rfl, rfl, ⟨of_decide_eq_true h7, of_decide_eq_true h8, of_decide_eq_true h6, of_decide_eq_true h4⟩, h2.symm⟩
  · cases h
theorem it_range1 {ia : IE} {i1 : Bool} {p pos : Pos} (hg : Gl X "range") (hm : X.mg "range" = none) (h : PE X a (tFz G cf lk cn W ia)) (hs : notStar a = true) :
    PI X tg (.Call (.Name "range" p) [a] [] pos) (tIt G cf lk cn W (.range (.cons i1 ia .nil))) := by
  refine PI.imp (pi_range1 hg hm (pa_cons h pa_nil (star_cons hs)) (star_cons hs)) fun σ H R ⟨env, Fz, st, p⟩ => ?_
  rw [evIt, evF_cons] at p
  refine ⟨env, Fz, st, p.split0.split0.mono fun d env1 Fz1 H1 s1 f1 q x r => ?_⟩
  rw [evF] at q
  have q : PostE G cn W env σ Fz H (optR (rangeV [d]) env1) (fun ds env' Fz' H' => ∀ J, WalkD G J ds Fz' → R J H') := q Fz1 H1 s1 f1
  cases e : rangeV [d] with
  | none => rw [e] at q; exact q.elim
  | some xs =>
    rw [e] at q
    obtain ⟨j, rfl, h1, h2, rfl⟩ := rangeV_one e
    cases r
    exact ⟨j, rfl, h1, h2, q Fz1 H1 s1 f1 _ walkD_range⟩
theorem it_range2 {ia ib : IE} {i1 i2 : Bool} {p pos : Pos} (hg : Gl X "range") (hm : X.mg "range" = none) (h : PE X a (tFz G cf lk cn W ia)) (h' : PE X b (tFz G cf lk cn W ib)) (hs : notStar a = true) (hs2 : notStar b = true) :
    PI X tg (.Call (.Name "range" p) [a, b] [] pos) (tIt G cf lk cn W (.range (.cons i1 ia (.cons i2 ib .nil)))) := by
  refine PI.imp (pi_range2 hg hm (pa_cons h (pa_cons h' pa_nil (star_cons hs2)) (star_cons hs)) (by rw [star_cons hs, star_cons hs2]; rfl) (star_cons hs2)) fun σ H R ⟨env, Fz, st, p⟩ => ?_
  rw [evIt, evF_cons] at p
  refine ⟨env, Fz, st, p.split0.split0.mono fun d env1 Fz1 H1 s1 f1 q x r => ?_⟩
  rw [evF_cons] at q
  refine ⟨env1, Fz1, s1, (q.split0.split0.shift f1).mono fun d2 env2 Fz2 H2 s2 f2 q y r2 => ?_⟩
  have f := f1.trans f2
  rw [evF] at q
  have q : PostE G cn W env σ Fz H (optR (rangeV [d, d2]) env2) (fun ds env' Fz' H' => ∀ J, WalkD G J ds Fz' → R J H') := q Fz2 H2 s2 f Fz2 H2 s2 f
  cases e : rangeV [d, d2] with
  | none => rw [e] at q; exact q.elim
  | some xs =>
    rw [e] at q
    obtain ⟨i, j, rfl, rfl, h1, rfl⟩ := rangeV_two e
    cases r; cases r2
    exact ⟨i, j, rfl, h1, q Fz2 H2 s2 f _ walkD_range⟩
theorem it_range3 {ia ib ic : IE} {i1 i2 i3 : Bool} {p pos : Pos} (hg : Gl X "range") (hm : X.mg "range" = none) (h : PE X a (tFz G cf lk cn W ia)) (h' : PE X b (tFz G cf lk cn W ib)) (h'' : PE X c (tFz G cf lk cn W ic))
    (hs : notStar a = true) (hs2 : notStar b = true) (hs3 : notStar c = true) :
    PI X tg (.Call (.Name "range" p) [a, b, c] [] pos) (tIt G cf lk cn W (.range (.cons i1 ia (.cons i2 ib (.cons i3 ic .nil))))) := by
  refine PI.imp (pi_range3 hg hm (pa_cons h (pa_cons h' (pa_cons h'' pa_nil (star_cons hs3)) (star_cons hs2)) (star_cons hs)) (star_cons hs) (by rw [star_cons hs2, star_cons hs3]; rfl)) fun σ H R ⟨env, Fz, st, p⟩ => ?_
  rw [evIt, evF_cons] at p
  refine ⟨env, Fz, st, p.split0.split0.mono fun d env1 Fz1 H1 s1 f1 q x r => ?_⟩
  rw [evF_cons] at q
  refine ⟨env1, Fz1, s1, (q.split0.split0.shift f1).mono fun d2 env2 Fz2 H2 s2 f2 q y r2 => ?_⟩
  have f := f1.trans f2
  rw [evF_cons] at q
  refine ⟨env2, Fz2, s2, (q.split0.split0.shift f).mono fun d3 env3 Fz3 H3 s3 f3 q z r3 => ?_⟩
  have f := f.trans f3
  rw [evF] at q
  have q : PostE G cn W env σ Fz H (optR (rangeV [d, d2, d3]) env3) (fun ds env' Fz' H' => ∀ J, WalkD G J ds Fz' → R J H') := q Fz3 H3 s3 f Fz3 H3 s3 f Fz3 H3 s3 f
  cases e : rangeV [d, d2, d3] with
  | none => rw [e] at q; exact q.elim
  | some xs =>
    rw [e] at q
    obtain ⟨i, j, rfl, rfl, rfl, ⟨h1, h2, h3, h4⟩, rfl⟩ := rangeV_three e
    cases r; cases r2; cases r3
    exact ⟨i, j, -1, _, rfl, RgC.neg h1 h2 h3 h4, q Fz3 H3 s3 f _ walkD_rangeC⟩
end

theorem wipe_get {σ : St} {i : Nat} : ∀ {vs : List Nat}, i ∉ vs → (wipe σ vs)[i]? = σ[i]?
  | [], _ => rfl
  | v :: vs, h => by
    simp only [List.mem_cons, not_or] at h
    unfold wipe
    rw [List.getElem?_set_ne (fun e => h.1 e.symm), wipe_get h.2]
theorem wipe_in {σ : St} {i : Nat} : ∀ {vs : List Nat}, i ∈ vs → i < σ.length → (wipe σ vs)[i]? = some none
  | [], h, _ => by simp at h
  | v :: vs, h, hl => by
    unfold wipe
    by_cases e : v = i
    · subst e; rw [List.getElem?_set_self (by rw [wipe_length]; exact hl)]
    · rw [List.getElem?_set_ne e]
      simp only [List.mem_cons] at h
      exact wipe_in (h.resolve_left fun z => e z.symm) hl
theorem wipe_ext {σ τ : St} {vs : List Nat} (hl : σ.length = τ.length) (h : ∀ i, i ∉ vs → σ[i]? = τ[i]?) : wipe σ vs = wipe τ vs := by
  apply List.ext_getElem?
  intro i
  by_cases hi : i ∈ vs
  · by_cases hlt : i < σ.length
    · rw [wipe_in hi hlt, wipe_in hi (hl ▸ hlt)]
    · rw [List.getElem?_eq_none (by rw [wipe_length]; omega), List.getElem?_eq_none (by rw [wipe_length]; omega)]
  · rw [wipe_get hi, wipe_get hi, h i hi]
theorem wipeL_get {l : List Nat} {env : En} {i : Nat} (h : i ∉ l) : (wipeL env l)[i]? = env[i]? := by
  induction l generalizing env with
  | nil => rfl
  | cons k l ih =>
    simp only [List.mem_cons, not_or] at h
    show (wipeL (env.set k none) l)[i]? = _
    rw [ih h.2, List.getElem?_set_ne (fun e => h.1 e.symm)]
section
variable {G : Gx}
theorem StOk.wipe2 {env : En} {σ : St} {Fz H : Hp} (s : StOk G env σ Fz H) (l : List Nat) : StOk G (wipeL env l) (L2.wipe σ l) Fz H := by
  refine ⟨by rw [wipeL_length, wipe_length]; exact s.len, s.sub, fun i o h => ?_, fun i j a oi oj hne h1 h2 m1 m2 e1 e2 => ?_⟩
  · obtain ⟨h1, h2⟩ := wipeL_some l env h
    rw [wipe_get h2]
    exact s.rep i o h1
  · obtain ⟨p1, p2⟩ := wipeL_some l env h1
    obtain ⟨q1, q2⟩ := wipeL_some l env h2
    rw [wipe_get p2] at e1
    rw [wipe_get q2] at e2
    exact s.sep i j a oi oj hne p1 q1 m1 m2 e1 e2
theorem own_wipe2 {env : En} {σ : St} {l : List Nat} {a : Addr} (h : Own (wipeL env l) (L2.wipe σ l) a) : Own env σ a := by
  obtain ⟨i, o, h1, h2, h3⟩ := h
  obtain ⟨p1, p2⟩ := wipeL_some l env h1
  rw [wipe_get p2] at h3
  exact ⟨i, o, p1, h2, h3⟩
/-- a value stored at a name -/
theorem StOk.put {env : En} {σ : St} {Fz H : Hp} (s : StOk G env σ Fz H) {i : Nat} {d : PV} {x : V} (r : RO G Fz H (.v d) x) : StOk G (env.set i (some (.v d))) (σ.set i (some x)) Fz H := by
  refine ⟨by rw [List.length_set, List.length_set]; exact s.len, s.sub, fun j o h => ?_, fun j k a oj ok hne h1 h2 m1 m2 e1 e2 => ?_⟩
  · by_cases e : i = j
    · subst e
      have hl : i < env.length := by
        have := (List.getElem?_eq_some_iff.mp h).1
        rwa [List.length_set] at this
      rw [List.getElem?_set_self hl] at h
      cases h
      exact ⟨x, by rw [List.getElem?_set_self (s.len ▸ hl)], r⟩
    · rw [List.getElem?_set_ne e] at h ⊢
      exact s.rep j o h
  · have g : ∀ (j : Nat) (o : Ob) (a : Addr), (env.set i (some (.v d)))[j]? = some (some o) → o.mut = true → (σ.set i (some x))[j]? = some (some (.ref a)) → env[j]? = some (some o) ∧ σ[j]? = some (some (.ref a)) := fun j o a h m e => by
      by_cases q : i = j
      · subst q
        have hl : i < env.length := by
          have := (List.getElem?_eq_some_iff.mp h).1
          rwa [List.length_set] at this
        rw [List.getElem?_set_self hl] at h
        cases h
        cases m
      · rw [List.getElem?_set_ne q] at h e
        exact ⟨h, e⟩
    obtain ⟨p1, p2⟩ := g j oj a h1 m1 e1
    obtain ⟨q1, q2⟩ := g k ok a h2 m2 e2
    exact s.sep j k a oj ok hne p1 q1 m1 m2 p2 q2
theorem own_put {env : En} {σ : St} {i : Nat} {d : PV} {x : V} {a : Addr} (hl : env.length = σ.length) (h : Own (env.set i (some (.v d))) (σ.set i (some x)) a) : Own env σ a := by
  obtain ⟨j, o, h1, h2, h3⟩ := h
  by_cases q : i = j
  · subst q
    have hl : i < env.length := by
      have := (List.getElem?_eq_some_iff.mp h1).1
      rwa [List.length_set] at this
    rw [List.getElem?_set_self hl] at h1
    cases h1
    cases h2
  · rw [List.getElem?_set_ne q] at h1 h3
    exact ⟨j, o, h1, h2, h3⟩

/-- what a target asks -/
def gTgs : List Nat → TGs
  | [] => gNil
  | i :: is => gCons (gName i) (gTgs is)
def gTg (K : PySem.W.Frag) : List Nat ⊕ Nat → TG
  | .inr i => gName i
  | .inl is => gTup K is.length (gTgs is)
def tgNames : List Nat ⊕ Nat → List Nat
  | .inr i => [i]
  | .inl is => is
theorem gTgs_ok {H : Hp} {P : St → Hp → Prop} : ∀ {is : List Nat} {ds : List PV} {xs : List V} {env env' : En} {σ : St} {Fz : Hp}, StOk G env σ Fz H → RFs G.K Fz xs ds → setTgs env is ds = some env' →
    (∀ σ', StOk G env' σ' Fz H → (∀ a, Own env' σ' a → Own env σ a) → σ'.length = σ.length → (∀ i, i ∉ is → σ'[i]? = σ[i]?) → P σ' H) → gTgs is xs σ H P
  | [], ds, xs, env, env', σ, Fz, s, r, h, k => by
    cases ds with
    | nil => cases r; cases h; exact ⟨rfl, k σ s (fun _ h => h) rfl (fun _ _ => rfl)⟩
    | cons _ _ => cases h
  | i :: is, ds, xs, env, env', σ, Fz, s, r, h, k => by
    cases ds with
    | nil => cases h
    | cons d ds =>
      cases r with
      | @cons x xs _ _ r rs =>
        refine ⟨x, xs, rfl, gTgs_ok (s.put (.v r)) rs h fun σ' s' o' l' g' => k σ' s' (fun a q => own_put s.len (o' a q)) (by rw [l', List.length_set]) fun j hj => ?_⟩
        simp only [List.mem_cons, not_or] at hj
        rw [g' j hj.2, List.getElem?_set_ne (fun e => hj.1 e.symm)]
theorem gTg_ok {H : Hp} {P : St → Hp → Prop} {tg : List Nat ⊕ Nat} {d : PV} {x : V} {env env' : En} {σ : St} {Fz : Hp} (s : StOk G env σ Fz H) (r : RF G.K Fz x d) (h : setTg env tg d = some env')
    (k : ∀ σ', StOk G env' σ' Fz H → (∀ a, Own env' σ' a → Own env σ a) → σ'.length = σ.length → (∀ i, i ∉ tgNames tg → σ'[i]? = σ[i]?) → P σ' H) : gTg G.K tg x σ H P := by
  cases tg with
  | inr i =>
    cases h
    exact k _ (s.put (.v r)) (fun a q => own_put s.len q) (List.length_set ..) fun j hj => List.getElem?_set_ne (fun e => hj (by simp [tgNames, e]))
  | inl is =>
    cases d with
    | tuple ds =>
      cases r with
      | tup ha hr =>
        have h : setTgs env is ds = some env' := h
        have hl : ∀ (is : List Nat) (ds : List PV) (env env' : En), setTgs env is ds = some env' → ds.length = is.length := by
          intro is
          induction is with
          | nil => intro ds env env' h; cases ds with
            | nil => rfl
            | cons _ _ => cases h
          | cons i is ih => intro ds env env' h; cases ds with
            | nil => cases h
            | cons d ds => rw [List.length_cons, List.length_cons, ih ds _ _ h]
        exact ⟨_, _, rfl, SqT.mono s.sub ha, by rw [hr.length, hl _ _ _ _ h], gTgs_ok s hr h k⟩
    | _ => cases h
end
end Pv
-- PvComp2
set_option maxRecDepth 100000
namespace Pv
open PySem L2
section
variable {G : Gx}
theorem restore_length : ∀ (l : List Nat) (env0 env : En), (restore env0 env l).length = env.length
  | [], _, _ => rfl
  | i :: l, env0, env => by
    rw [restore, restore_length l]
    split <;> rw [List.length_set]
/-- what stands behind a block at a name -/
theorem restore_some : ∀ (l : List Nat) (env0 env : En) {i : Nat} {o : Ob}, (restore env0 env l)[i]? = some (some o) →
    (i ∉ l ∧ env[i]? = some (some o)) ∨ (∃ d, o = .v d ∧ env0[i]? = some (some (.v d)))
  | [], _, _, i, o, h => .inl ⟨by simp, h⟩
  | k :: l, env0, env, i, o, h => by
    rw [restore] at h
    rcases restore_some l _ _ h with ⟨h1, h2⟩ | h2
    · by_cases e : k = i
      · subst e
        split at h2
        · rename_i d hd
          by_cases hl : k < env.length
          · rw [List.getElem?_set_self hl] at h2; cases h2; exact .inr ⟨d, rfl, hd⟩
          · rw [List.getElem?_eq_none (by rw [List.length_set]; omega)] at h2; cases h2
        · by_cases hl : k < env.length
          · rw [List.getElem?_set_self hl] at h2; cases h2
          · rw [List.getElem?_eq_none (by rw [List.length_set]; omega)] at h2; cases h2
      · refine .inl ⟨by simp only [List.mem_cons, not_or]; exact ⟨fun z => e z.symm, h1⟩, ?_⟩
        split at h2 <;> (rw [List.getElem?_set_ne e] at h2; exact h2)
    · exact .inr h2
theorem StOk.back {env0 env : En} {σ : St} {Fz0 H0 Fz H : Hp} {own : List Nat} (s0 : StOk G env0 σ Fz0 H0) (ff : Same Fz0 Fz) (s : StOk G (wipeL env own) (L2.wipe σ own) Fz H) : StOk G (restore env0 env own) σ Fz H := by
  have out : ∀ (i : Nat) (o : Ob), i ∉ own → env[i]? = some (some o) → (wipeL env own)[i]? = some (some o) := fun i o hi h => by rw [wipeL_get hi]; exact h
  refine ⟨?_, s.sub, fun i o h => ?_, fun i j a oi oj hne h1 h2 m1 m2 e1 e2 => ?_⟩
  · rw [restore_length]
    have := s.len
    rw [wipeL_length, wipe_length] at this
    exact this
  · rcases restore_some own env0 env h with ⟨h1, h2⟩ | ⟨d, rfl, h2⟩
    · obtain ⟨v, p, q⟩ := s.rep i o (out i o h1 h2)
      rw [wipe_get h1] at p
      exact ⟨v, p, q⟩
    · obtain ⟨v, p, q⟩ := s0.rep i _ h2
      refine ⟨v, p, ?_⟩
      cases q with
      | v r => exact .v (r.mono ff)
      | ro a b => exact .ro (SqL.mono ff a) (b.mono ff)
  · have g : ∀ (i : Nat) (o : Ob), (restore env0 env own)[i]? = some (some o) → o.mut = true → i ∉ own ∧ env[i]? = some (some o) := fun i o h m => by
      rcases restore_some own env0 env h with h | ⟨d, rfl, _⟩
      · exact h
      · cases m
    obtain ⟨p1, p2⟩ := g i oi h1 m1
    obtain ⟨q1, q2⟩ := g j oj h2 m2
    exact s.sep i j a oi oj hne (out i oi p1 p2) (out j oj q1 q2) m1 m2 (by rw [wipe_get p1]; exact e1) (by rw [wipe_get q1]; exact e2)
theorem own_back {env0 env : En} {σ : St} {own : List Nat} {a : Addr} (h : Own (restore env0 env own) σ a) : Own (wipeL env own) (L2.wipe σ own) a := by
  obtain ⟨i, o, h1, h2, h3⟩ := h
  rcases restore_some own env0 env h1 with ⟨p, q⟩ | ⟨d, rfl, _⟩
  · exact ⟨i, o, by rw [wipeL_get p]; exact q, h2, by rw [wipe_get p]; exact h3⟩
  · cases h2
end
section
variable (G : Gx) (cf : Nat → List Ob → CR) (lk : List Nat) (cn : Nat → Str) (W : WX)
def tK (c : IEs) : TT := fun σ H Q => ∃ env Fz, StOk G env σ Fz H ∧ PostE G cn W env σ Fz H (evK cf lk c env) fun b env' Fz' H' => Q b H'
end
theorem FrO.sub {O O1 P P1 : Addr → Prop} {Fz H Fz' H' : Hp} (f : FrO O O1 Fz H Fz' H') (h1 : ∀ a, O a → P a) (h2 : ∀ a, P1 a → O1 a) : FrO P P1 Fz H Fz' H' :=
  ⟨fun a o h n => f.hh a o h fun z => n (h1 a z), f.dm, f.ff, fun a h n z => f.nw a h (fun y => n (h1 a y)) z, fun a h => (f.ow a (h2 a h)).imp (h1 a) id⟩

section
variable {X : Cx} {G : Gx} {cf : Nat → List Ob → CR} {lk : List Nat} {cn : Nat → Str} {W : WX}
abbrev WF : WX := fun _ _ _ _ => False
theorem drop_cons {α : Type} {xs : List α} {i : Nat} {x : α} (h : xs[i]? = some x) : xs.drop i = x :: xs.drop (i + 1) := by
  obtain ⟨hl, e⟩ := List.getElem?_eq_some_iff.mp h
  rw [List.drop_eq_getElem_cons hl, e]
/-- the turns of a comprehension -/
theorem lc_ok {own : List Nat} {tg : List Nat ⊕ Nat} {it : IT} {cond : IEs} {elt : IE} (hK : X.K = G.K) (hown : ∀ i ∈ tgNames tg, i ∈ own) {σ : St} {H : Hp} {Q : VK} (h : tE G cf lk cn W (.lc own tg it cond elt) σ H Q) :
    tLc (tIt G cf lk cn W it) (gTg X.K tg) (tK G cf lk cn WF cond) (tFz G cf lk cn WF elt) own σ H Q := by
  obtain ⟨env, Fz, st, p⟩ := h
  rw [evE] at p
  split at p
  · exact p.elim
  refine ⟨env, Fz, st, p.split0.mono fun ds env0 Fz1 H1 s1 f1 q J wk => ?_⟩
  intro D hD
  generalize hturn : turnL own tg (fun env => evK cf lk cond env) (fun env => evE cf lk elt env) = turn at q
  have fzD : Fz1 D = none := fz_none s1.sub hD
  refine lc_it wk (fun i H' => ∃ (envi : En) (Fzi : Hp) (acc : List PV) (va : List V), StOk G (wipeL envi own) (L2.wipe σ own) Fzi H' ∧
      loopL turn (ds.drop i) acc envi = loopL turn ds [] (wipeL env0 own) ∧ H' D = some (.lst va) ∧ RFs G.K Fzi va acc ∧ Fzi D = none ∧ ¬ Own (wipeL envi own) (L2.wipe σ own) D ∧
      FrO (Own env0 σ) (Own (wipeL envi own) (L2.wipe σ own)) Fz1 H1 Fzi H') ?_ ?_ ?_ ?_
  · -- the start
    have e : Ext Fz1 H1 Fz1 (upd H1 D (.lst [])) := Ext.newL s1.sub hD
    have hw : wipeL (wipeL env0 own) own = wipeL env0 own := by
      apply List.ext_getElem?
      intro i
      by_cases hi : i ∈ own
      · have : ∀ (l : List Nat) (en : En), i ∈ l → ∀ o, (wipeL en l)[i]? ≠ some (some o) := fun l en hl o z => (wipeL_some l en z).2 hl
        have key : ∀ (l : List Nat) (en : En), i ∈ l → i < en.length → (wipeL en l)[i]? = some none := by
          intro l en hl hlen
          cases hz : (wipeL en l)[i]? with
          | none => rw [List.getElem?_eq_none_iff, wipeL_length] at hz; omega
          | some o =>
            cases o with
            | none => rfl
            | some o => exact absurd hz (this l en hl o)
        by_cases hl : i < env0.length
        · rw [key own _ hi (by rw [wipeL_length]; exact hl), key own _ hi hl]
        · rw [List.getElem?_eq_none (by rw [wipeL_length, wipeL_length]; omega), List.getElem?_eq_none (by rw [wipeL_length]; omega)]
      · rw [wipeL_get hi]
    refine ⟨wipeL env0 own, Fz1, [], [], ?_, by rw [List.drop_zero], upd_same, .nil, fzD, fun z => ?_, ?_⟩
    · rw [hw]; exact (s1.wipe2 own).ext e
    · rw [hw] at z
      obtain ⟨i, o, h1, h2, h3⟩ := own_wipe2 z
      obtain ⟨v, p1, p2⟩ := s1.rep i o h1
      rw [h3] at p1
      cases p1
      cases p2 with
      | ml ha _ _ => rw [ha] at hD; cases hD
      | v _ => cases h2
      | ro _ _ => cases h2
      | fn _ => cases h2
    · rw [hw]
      exact (FrO.of_ext (O := Own env0 σ) e).sub (fun _ h => h) (fun a h => own_wipe2 h)
  · rintro i H' hi ⟨envi, Fzi, acc, va, si, _, _, _, _, _, fi⟩
    exact fi.ff.trans si.sub
  · -- a turn
    rintro i x H2 H3 hi ⟨envi, Fzi, acc, va, si, he, hDv, hra, hfD, hnD, fi⟩ y
    obtain ⟨Fz3, ext, d, hd, rx⟩ := y Fzi fi.ff si.sub
    rw [drop_cons hd, loopL] at he
    cases ht : turn d acc envi with
    | no =>
      rw [ht] at he
      rw [← he] at q
      exact q.elim
    | ex c xs env9 =>
      rw [ht] at he
      rw [← he] at q
      exact q.elim
    | ok acc' env' =>
      rw [ht] at he
      have he : loopL turn (ds.drop (i + 1)) acc' env' = loopL turn ds [] (wipeL env0 own) := he
      rw [← hturn, turnL] at ht
      cases hset : setTg (wipeL envi own) tg d with
      | none => rw [hset] at ht; cases ht
      | some env1 =>
        rw [hset] at ht
        simp only at ht
        have s3 := si.ext ext
        rw [hK]
        refine gTg_ok s3 rx hset fun σ2 s4 own4 len4 get4 => ?_
        have hw2 : L2.wipe σ2 own = L2.wipe σ own := by
          have e1 : L2.wipe σ2 own = L2.wipe (L2.wipe σ own) own := wipe_ext len4 fun j hj => get4 j fun z => hj (hown j z)
          rw [e1]
          exact wipe_ext (wipe_length σ own) fun j hj => wipe_get hj
        have hw2' : L2.wipe σ2 own = L2.wipe (L2.wipe σ own) own ∨ True := .inr trivial
        have hww : L2.wipe (L2.wipe σ own) own = L2.wipe σ own := wipe_ext (wipe_length σ own) fun j hj => wipe_get hj
        refine ⟨hw2, ?_⟩
        -- from the state at the turn's start to (env1, σ2)
        have f4 : FrO (Own env0 σ) (Own env1 σ2) Fz1 H1 Fz3 H3 := (fi.trans (FrO.of_ext (O := Own (wipeL envi own) (L2.wipe σ own)) ext)).sub (fun _ h => h) own4
        have hD3 : H3 D = some (.lst va) := ext.hh D _ hDv
        have hfD3 : Fz3 D = none := ext.nw D (by rw [hDv]; simp) hfD
        have hnD3 : ¬ Own env1 σ2 D := fun z => hnD (own4 D z)
        cases hc : evK cf lk cond env1 with
        | no => rw [hc] at ht; cases ht
        | ex _ _ _ => rw [hc] at ht; cases ht
        | ok k env2 =>
          rw [hc] at ht
          simp only [Rs.bind_ok] at ht
          refine ⟨env1, Fz3, s4, ?_⟩
          rw [hc]
          intro Fz5 H5 s5 f5
          have hD5 := f5.hh D _ hD3 hnD3
          have hfD5 := f5.nw D (by rw [hD3]; simp) hnD3 hfD3
          have hnD5 : ¬ Own env2 σ2 D := fun z => (f5.ow D z).elim hnD3 fun w => by rw [hD3] at w; cases w
          have f05 := f4.trans f5
          have hra5 := (hra.mono ext.ff).mono f5.ff
          cases k with
          | false =>
            rw [if_neg (by simp)] at ht
            cases ht
            show (if false = true then _ else _)
            rw [if_neg (by simp)]
            have sw := s5.wipe2 own
            rw [hw2] at sw
            refine ⟨env', Fz5, acc, va, sw, he, hD5, hra5, hfD5, fun z => hnD5 (own_wipe2 (hw2.symm ▸ z)), f05.sub (fun _ h => h) fun a z => own_wipe2 (hw2.symm ▸ z)⟩
          | true =>
            rw [if_pos rfl] at ht
            show (if true = true then _ else _)
            rw [if_pos rfl]
            cases hz : evZ cf lk elt env2 with
            | no => rw [← Rs.assoc] at ht; rw [show (evE cf lk elt env2).bind fzR = evZ cf lk elt env2 from rfl, hz] at ht; cases ht
            | ex _ _ _ => rw [← Rs.assoc] at ht; rw [show (evE cf lk elt env2).bind fzR = evZ cf lk elt env2 from rfl, hz] at ht; cases ht
            | ok z env3 =>
              rw [← Rs.assoc] at ht
              rw [show (evE cf lk elt env2).bind fzR = evZ cf lk elt env2 from rfl, hz] at ht
              simp only [Rs.bind_ok] at ht
              split at ht
              · rename_i hlen
                cases ht
                refine ⟨env2, Fz5, s5, ?_⟩
                rw [hz]
                intro Fz6 H6 s6 f6 vz rz
                have hD6 := f6.hh D _ hD5 hnD5
                have hfD6 := f6.nw D (by rw [hD5]; simp) hnD5 hfD5
                have hnD6 : ¬ Own env' σ2 D := fun z => (f6.ow D z).elim hnD5 fun w => by rw [hD5] at w; cases w
                have hra6 := hra5.mono f6.ff
                refine ⟨va, hD6, by rw [hra6.length]; exact hlen, ?_⟩
                -- the new list has grown
                have sw := s6.wipe2 own
                rw [hw2] at sw
                have hnDw : ¬ Own (wipeL env' own) (L2.wipe σ own) D := fun z => hnD6 (own_wipe2 (hw2.symm ▸ z))
                have s7 : StOk G (wipeL env' own) (L2.wipe σ own) Fz6 (upd H6 D (.lst (va ++ [vz]))) := by
                  refine ⟨sw.len, fun b u hb => ?_, fun j o hj => ?_, sw.sep⟩
                  · have : b ≠ D := fun e => by subst e; rw [hfD6] at hb; cases hb
                    rw [upd_ne this]; exact sw.sub b u hb
                  · obtain ⟨w, w1, w2⟩ := sw.rep j o hj
                    refine ⟨w, w1, ?_⟩
                    cases w2 with
                    | v r => exact .v r
                    | ro a b => exact .ro a b
                    | @ml b ws _ p q z =>
                      have : b ≠ D := fun e => by subst e; exact hnDw ⟨j, _, hj, rfl, w1⟩
                      exact .ml (by rw [upd_ne this]; exact p) q z
                    | fn p => exact .fn p
                refine ⟨env', Fz6, acc ++ [z], va ++ [vz], s7, he, upd_same, hra6.append (.one rz), hfD6, hnDw, ?_⟩
                have g := f05.trans f6
                refine ⟨fun b o hb nb => ?_, fun b hb => ?_, g.ff, g.nw, fun b hb => g.ow b (own_wipe2 (hw2.symm ▸ hb))⟩
                · have : b ≠ D := fun e => by subst e; rw [hD] at hb; cases hb
                  rw [upd_ne this]; exact g.hh b o hb nb
                · by_cases e : b = D
                  · subst e; rw [upd_same]; simp
                  · rw [upd_ne e]; exact g.dm b hb
              · cases ht
  · -- the end
    rintro H2 ⟨envn, Fzn, acc, va, sn, he, hDv, hra, hfD, hnD, fn⟩
    rw [List.drop_length, loopL] at he
    rw [← he] at q
    have q : PostE G cn W env σ Fz H (.ok (.ml acc) (restore env0 envn own)) (KV' G Q env σ H) := q
    have sb : StOk G (restore env0 envn own) σ Fzn H2 := s1.back fn.ff sn
    refine q Fzn H2 sb ((f1.trans fn).sub (fun _ h => h) fun a z => own_back z) (.ref D) (.ml hDv hra hfD) fun _ => ⟨D, rfl, ?_, fun z => hnD (own_back z)⟩
    cases w : H D with
    | none => rfl
    | some o => exact absurd hD (f1.dm D (by rw [w]; simp))
end
end Pv
-- PvMeth
set_option maxRecDepth 100000
namespace Pv
open PySem L2
section
variable {X : Cx} {G : Gx} {cf : Nat → List Ob → CR} {lk : List Nat} {cn : Nat → Str} {W : WX} {e a b : Expr} {es : List Expr}
/-- what such a call does -/
def tMeth (ta : TE) (t : TA) (G : Gx) (m : Mt) : TE := fun σ H Q => ta σ H fun x H1 => (∃ Fz d, Same Fz H1 ∧ VW G.K Fz H1 x d ∧ methK m d = true) ∧ t σ H1 fun xs H2 =>
  ∃ Fz d ds ob, Same Fz H2 ∧ VW G.K Fz H2 x d ∧ RFs G.K Fz xs ds ∧ methF m d ds = some ob ∧ Res G Fz H2 ob Q
theorem meth_tE {m : Mt} {ia : IE} {irs : IEs} {io : Bool} {σ : St} {H : Hp} {Q : VK} (h : tE G cf lk cn W (.meth m (.cons io ia .nil) irs) σ H Q) : tMeth (tArg G cf lk cn W ia) (tFs G cf lk cn W irs) G m σ H Q := by
  obtain ⟨env, Fz, s, p⟩ := h
  rw [evE, evA_cons] at p
  have p := p.split0.split0
  refine ⟨env, Fz, s, p.mono fun ag env1 Fz1 H1 s1 f1 q x r => ?_⟩
  rw [evA] at q
  have q := q Fz1 H1 s1 f1
  simp only [List.map_cons, List.map_nil] at q
  split at q
  · rename_i hk
    unfold methL at hk
    simp only [List.map_cons, List.map_nil] at hk
    split at hk
    · rename_i d hv
      cases e1 : resolve env1 [ag] with
      | none => rw [e1] at hv; cases hv
      | some os =>
        rw [e1] at hv
        obtain ⟨o1, os', rfl⟩ := resolve_cons e1
        obtain ⟨ro1, e2⟩ := r.res s1 e1
        rw [resolve] at e2; cases e2
        have hv : views [o1] = some [d] := hv
        obtain ⟨d', es', e4, e5, e6⟩ := views_cons hv
        rw [views] at e5
        cases e5
        cases e6
        refine ⟨⟨Fz1, d, s1.sub, ro1.view e4, hk⟩, env1, Fz1, s1, (q.split0.shift f1).mono fun ds env2 Fz2 H2 s2 f2 q xs rs => ?_⟩
        have f := f1.trans f2
        have r := r.step f2
        cases e1 : resolve env2 [ag] with
        | none => rw [e1] at q; exact q.elim
        | some os =>
          rw [e1] at q
          obtain ⟨o1, os', rfl⟩ := resolve_cons e1
          obtain ⟨ro1, e2⟩ := r.res s2 e1
          rw [resolve] at e2; cases e2
          simp only [Option.bind_some] at q
          cases e3 : views [o1] with
          | none => simp only [e3, Option.bind_none] at q; exact q.elim
          | some l =>
            obtain ⟨d2, es2, e4, e5, rfl⟩ := views_cons e3
            rw [views] at e5; cases e5
            simp only [e3, Option.bind_some] at q
            cases e6 : methG m ds [d2] with
            | none => rw [e6] at q; exact q.elim
            | some ob =>
              rw [e6] at q
              exact ⟨Fz2, d2, ds, ob, s2.sub, ro1.view e4, rs, e6, opEnd s2 f q⟩
    · cases hk
  · exact q.elim
theorem tFs_mono {irs : IEs} : ∀ σ H Q Q', (∀ x H1, Q x H1 → Q' x H1) → tFs G cf lk cn W irs σ H Q → tFs G cf lk cn W irs σ H Q' := fun σ H Q Q' i ⟨env, Fz, s, p⟩ =>
  ⟨env, Fz, s, p.mono fun _ _ _ _ _ _ h x r => i _ _ (h x r)⟩
theorem VW.isL {Fz H : Hp} {x : V} {d : PV} (sub : Same Fz H) (h : VW G.K Fz H x d) (k : isListV d = true) : tyV G.K "list" x H := by
  cases d <;> first | (cases k; done) | skip
  obtain ⟨p, vs, rfl, ha, _⟩ := h.list sub
  exact .inl ⟨rfl, _, SqL.of ha⟩
theorem VW.isS {Fz H : Hp} {x : V} {d : PV} (h : VW G.K Fz H x d) (k : isStrV d = true) : tyV G.K "str" x H := by
  cases d <;> first | (cases k; done) | skip
  obtain ⟨rfl, _⟩ := h.str
  exact rfl
/-- which text a method is -/
def mtName : Mt → String
  | .lindex => "index" | .split => "split" | .words => "split" | .join => "join" | .scount => "count"
def mtOne : Mt → Bool
  | .words => false
  | _ => true
theorem few_1 {e : Expr} {cpos : Pos} {env : Env} (h : notStar e = true) : ((backTo cpos (starEach [e] env)).all (fun x => !x.1) && (backToKw cpos (keywordEach [] env)).all (fun x => x.1.isSome)
      && decide (([e] : List Expr).length + ([] : List Keyword).length + (if ([] : List Keyword).isEmpty then 0 else 1) < 30)) = true := by
  rw [star_cons h]
  rfl
theorem strsOf_ok {Fz : Hp} : ∀ {xs : List PV} {ys : List Str} {vs : List V}, strsOf xs = some ys → RFs G.K Fz vs xs → vs = ys.map V.str
  | [], ys, vs, h, r => by
    cases h
    cases r
    rfl
  | d :: xs, ys, vs, h, r => by
    cases r with
    | cons r1 r2 =>
      cases d <;> first | (cases h; done) | skip
      rw [strsOf, Option.map_eq_some_iff] at h
      obtain ⟨zs, h1, rfl⟩ := h
      cases r1
      rw [List.map_cons, strsOf_ok h1 r2]
theorem newStrs_res {Fz H : Hp} {ys : List Str} {ob : Ob} {Q : VK} (sub : Same Fz H) (h : newStrs ys = some ob) (r : Res G Fz H ob Q) : rNewStrs ys H Q := by
  unfold newStrs at h
  split at h
  · rename_i hk
    cases h
    refine r.lst sub ?_
    rw [List.all_eq_true] at hk
    clear r
    induction ys with
    | nil => exact .nil
    | cons y ys ih => exact .cons (.str (hk y List.mem_cons_self)) (ih fun z hz => hk z (List.mem_cons_of_mem _ hz))
  · cases h
theorem firstAt_ok {d : PV} : ∀ {xs : List PV} {j : Nat}, firstAt d xs = some j → ∃ z, xs[j]? = some z ∧ PyData.eqv z d = true ∧ ∀ (m : Nat) (z' : PV), m < j → xs[m]? = some z' → PyData.eqv z' d = false
  | [], _, h => by cases h
  | y :: xs, j, h => by
    rw [firstAt] at h
    split at h
    · rename_i hy
      cases h
      exact ⟨y, rfl, hy, fun m _ hm => absurd hm (Nat.not_lt_zero _)⟩
    · rename_i hy
      rw [Option.map_eq_some_iff] at h
      obtain ⟨k, h1, rfl⟩ := h
      obtain ⟨z, z1, z2, z3⟩ := firstAt_ok h1
      refine ⟨z, by simpa using z1, z2, fun m z' hm hz => ?_⟩
      cases m with
      | zero => simp at hz; subst hz; simpa using hy
      | succ m => exact z3 m z' (by omega) (by simpa using hz)
theorem ite_some' {c : Prop} [Decidable c] {α : Type} {a : Option α} {b : α} (h : (if c then a else none) = some b) : c ∧ a = some b := by
  split at h
  · exact ⟨by assumption, h⟩
  · cases h
theorem one_of {Fz : Hp} {m : Mt} {d : PV} {ds : List PV} {ob : Ob} {xs : List V} (h1 : mtOne m = true) (h : methF m d ds = some ob) (r : RFs G.K Fz xs ds) : ∃ y e, xs = [y] ∧ ds = [e] ∧ RF G.K Fz y e := by
  cases r with
  | nil => cases m <;> first | (cases h1; done) | (cases h; done)
  | cons r1 r2 =>
    cases r2 with
    | nil => exact ⟨_, _, rfl, rfl, r1⟩
    | cons _ _ => cases h
theorem meth1_snd (hK : X.K = G.K) (hu : X.A.units + 160 < cLine) {m : Mt} (h1 : mtOne m = true) {ia : IE} {irs : IEs} {i1 : Bool} {apos cpos : Pos} (ha : PE X a (tArg G cf lk cn W ia)) (hA : PA X [b] (tFs G cf lk cn W irs)) (hs : notStar b = true)
    (hbase : attributeBase a (mtName m) X.env (eval a X.env) = eval a X.env) (hl : (apos.endLine == cpos.line) = true) :
    PE X (.Call (.Attribute a (mtName m) apos) [b] [] cpos) (tE G cf lk cn W (.meth m (.cons i1 ia .nil) irs)) := by
  cases m <;> first | (cases h1; done) | skip
  · -- list.index
    refine PE.imp (pe_bm PySem.F.plainAttrs_list PySem.F.slot_list_index PySem.F.type_list_index (mt_indexD (by omega)) ha hA hbase (few_1 hs) hl (star_cons hs) rfl) fun σ H Q q => ?_
    refine tArg_mono σ H _ _ (fun x H1 ⟨⟨Fz, d, sub, hv, k⟩, q⟩ => ⟨by rw [hK]; exact hv.isL sub k, ?_⟩) (meth_tE q)
    refine tFs_mono σ H1 _ _ (fun xs H2 ⟨Fz2, d2, ds, ob, sub2, hv2, rs, hm, rr⟩ => ?_) q
    obtain ⟨y, e, rfl, rfl, r1⟩ := one_of rfl hm rs
    replace hm : lindexf d2 e = some ob := hm
    unfold lindexf at hm
    split at hm
    · rename_i ds
      obtain ⟨hk, hm⟩ := ite_some' hm
      obtain ⟨k1, k2⟩ := b2 hk
      obtain ⟨k2, k3⟩ := b2 k2
      have k1 : isD e = false := by simpa using k1
      have k2 := of_decide_eq_true k2
      have k3 := of_decide_eq_true k3
      rw [Option.map_eq_some_iff] at hm
      obtain ⟨j, hj, rfl⟩ := hm
      obtain ⟨z, z1, z2, z3⟩ := firstAt_ok hj
      obtain ⟨p, vs, rfl, ha, hr⟩ := hv2.list sub2
      have hy : VW G.K Fz2 H2 y e := .fz r1
      have l1 := hv2.lay rfl
      refine ⟨p, y, e, ds, j, z, rfl, rfl, hK ▸ hv2.dp sub2 rfl, hK ▸ hy.dp sub2 k1, ?_, ?_, z1, z2, z3, rr.sc sub2 (.int _)⟩
      · unfold SeqAt.shaped
        rw [l1, PyData.depth]
        simp only [Bool.true_and, decide_eq_true_eq]
        omega
      · unfold SeqAt.shaped
        rw [hy.lay k1]
        simp only [Bool.true_and, decide_eq_true_eq]
        omega
    · cases hm
  · -- str.split
    refine PE.imp (pe_bm PySem.F.plainAttrs_str PySem.F.slot_str_split PySem.F.type_str_split mt_split ha hA hbase (few_1 hs) hl (star_cons hs) rfl) fun σ H Q q => ?_
    refine tArg_mono σ H _ _ (fun x H1 ⟨⟨Fz, d, sub, hv, k⟩, q⟩ => ⟨by rw [hK]; exact hv.isS k, ?_⟩) (meth_tE q)
    refine tFs_mono σ H1 _ _ (fun xs H2 ⟨Fz2, d2, ds, ob, sub2, hv2, rs, hm, rr⟩ => ?_) q
    obtain ⟨y, e, rfl, rfl, r1⟩ := one_of rfl hm rs
    replace hm : splitf d2 e = some ob := hm
    unfold splitf at hm
    split at hm
    · obtain ⟨hk, hm⟩ := ite_some' hm
      obtain ⟨k1, k2⟩ := b2 hk
      obtain ⟨rfl, _⟩ := hv2.str
      cases r1
      exact ⟨_, _, rfl, rfl, by simpa using k1, of_decide_eq_true k2, newStrs_res sub2 hm rr⟩
    · cases hm
  · -- str.join
    refine PE.imp (pe_bm PySem.F.plainAttrs_str PySem.F.slot_str_join PySem.F.type_str_join mt_join ha hA hbase (few_1 hs) hl (star_cons hs) rfl) fun σ H Q q => ?_
    refine tArg_mono σ H _ _ (fun x H1 ⟨⟨Fz, d, sub, hv, k⟩, q⟩ => ⟨by rw [hK]; exact hv.isS k, ?_⟩) (meth_tE q)
    refine tFs_mono σ H1 _ _ (fun xs H2 ⟨Fz2, d2, ds, ob, sub2, hv2, rs, hm, rr⟩ => ?_) q
    obtain ⟨y, e, rfl, rfl, r1⟩ := one_of rfl hm rs
    replace hm : joinf d2 e = some ob := hm
    unfold joinf at hm
    split at hm
    · rename_i a
      rw [Option.bind_eq_some_iff] at hm
      obtain ⟨xs, hx, hm⟩ := hm
      rw [Option.bind_eq_some_iff] at hm
      obtain ⟨ys, hy, hm⟩ := hm
      obtain ⟨hk, hm⟩ := ite_some' hm
      cases hm
      obtain ⟨k1, k2⟩ := b2 hk
      obtain ⟨rfl, _⟩ := hv2.str
      have hw : VW G.K Fz2 H2 y e := .fz r1
      cases e <;> first | (cases hx; done) | skip
      · cases hx
        obtain ⟨p, vs, rfl, ha, hr⟩ := hw.list sub2
        refine ⟨a, p, ys, rfl, rfl, .inl ?_, of_decide_eq_true k1, rr.sc sub2 (.str k2)⟩
        rw [← strsOf_ok hy hr]
        exact SqL.of ha
      · cases hx
        obtain ⟨p, vs, rfl, ha, hr, _⟩ := hw.tuple sub2
        refine ⟨a, p, ys, rfl, rfl, .inr ?_, of_decide_eq_true k1, rr.sc sub2 (.str k2)⟩
        rw [← strsOf_ok hy hr]
        exact hK ▸ ha
    · cases hm
  · -- str.count
    refine PE.imp (pe_bm PySem.F.plainAttrs_str PySem.F.slot_str_count PySem.F.type_str_count mt_count ha hA hbase (few_1 hs) hl (star_cons hs) rfl) fun σ H Q q => ?_
    refine tArg_mono σ H _ _ (fun x H1 ⟨⟨Fz, d, sub, hv, k⟩, q⟩ => ⟨by rw [hK]; exact hv.isS k, ?_⟩) (meth_tE q)
    refine tFs_mono σ H1 _ _ (fun xs H2 ⟨Fz2, d2, ds, ob, sub2, hv2, rs, hm, rr⟩ => ?_) q
    obtain ⟨y, e, rfl, rfl, r1⟩ := one_of rfl hm rs
    replace hm : scountf d2 e = some ob := hm
    unfold scountf at hm
    split at hm
    · cases hm
      obtain ⟨rfl, _⟩ := hv2.str
      cases r1
      exact ⟨_, _, rfl, rfl, rr.sc sub2 (.int _)⟩
    · cases hm
/-- text.split() -/
theorem words_snd (hK : X.K = G.K) {ia : IE} {i1 : Bool} {apos cpos : Pos} (ha : PE X a (tArg G cf lk cn W ia))
    (hbase : attributeBase a "split" X.env (eval a X.env) = eval a X.env) (hl : (apos.endLine == cpos.line) = true) :
    PE X (.Call (.Attribute a "split" apos) [] [] cpos) (tE G cf lk cn W (.meth .words (.cons i1 ia .nil) .nil)) := by
  refine PE.imp (pe_bm0 PySem.F.plainAttrs_str PySem.F.slot_str_split PySem.F.type_str_split mt_words ha hbase hl) fun σ H Q q => ?_
  refine tArg_mono σ H _ _ (fun x H1 ⟨⟨Fz, d, sub, hv, k⟩, q⟩ => ⟨by rw [hK]; exact hv.isS k, ?_⟩) (meth_tE q)
  obtain ⟨env, Fz', st, p⟩ := q
  rw [evF] at p
  obtain ⟨Fz2, d2, ds, ob, sub2, hv2, rs, hm, rr⟩ := p.ok st [] .nil
  cases rs
  replace hm : wordsf d2 = some ob := hm
  unfold wordsf at hm
  split at hm
  · obtain ⟨hk, hm⟩ := ite_some' hm
    obtain ⟨rfl, _⟩ := hv2.str
    exact ⟨_, rfl, rfl, hk, newStrs_res sub2 hm rr⟩
  · cases hm
end
end Pv
-- PvCheck
set_option maxRecDepth 100000
namespace Pv
open PySem L2

structure CI where
  N : List Str
  sc : Scope
  asc : Scope
  nm : List Str
  gc : List (Str × PV)
  bt : List Str
  ex : List Str
  kp : List (List Str)

def isVis (k : Option NameKind) : Bool := match k with
  | some .local => true
  | some .cell => true
  | some .free => true
  | _ => false
def isLoc (k : Option NameKind) : Bool := match k with
  | some .local => true
  | some .cell => true
  | _ => false
def nmOk (n : Str) : Bool := !(n == ("__debug__" : Str)) && !(n == ("__classdict__" : Str)) && !(n == ("__name__" : Str))
def visB (C : CI) (n : Str) (i : Nat) : Bool := decide (C.N[i]? = some n) && isVis (C.sc.names.lookup n) && nmOk n
def glB (C : CI) (n : Str) : Bool := decide (C.sc.names.lookup n = some .globalImplicit) && nmOk n
def btB (C : CI) (n : Str) : Bool := glB C n && C.bt.contains n
def asB (C : CI) (n : Str) (i : Nat) : Bool := decide (C.N[i]? = some n) && isLoc (C.asc.names.lookup n)

mutual
def pvEq : PV → PV → Bool
  | .none, .none => true
  | .bool a, .bool b => a == b
  | .int a, .int b => decide (a = b)
  | .str a, .str b => decide (a = b)
  | .tuple xs, .tuple ys => pvEqs xs ys
  | .list xs, .list ys => pvEqs xs ys
  | _, _ => false
def pvEqs : List PV → List PV → Bool
  | [], [] => true
  | x :: xs, y :: ys => pvEq x y && pvEqs xs ys
  | _, _ => false
end
mutual
theorem pvEq_ok : ∀ {a b : PV}, pvEq a b = true → a = b
  | .none, b, h => by cases b <;> first | rfl | (simp [pvEq] at h)
  | .bool _, b, h => by cases b <;> simp [pvEq] at h; rw [h]
  | .int _, b, h => by cases b <;> simp [pvEq] at h; rw [h]
  | .str _, b, h => by cases b <;> simp [pvEq] at h; rw [h]
  | .tuple xs, b, h => by cases b <;> simp [pvEq] at h; rw [pvEqs_ok h]
  | .list xs, b, h => by cases b <;> simp [pvEq] at h; rw [pvEqs_ok h]
  | .dict _, b, h => by cases b <;> simp [pvEq] at h
theorem pvEqs_ok : ∀ {a b : List PV}, pvEqs a b = true → a = b
  | [], b, h => by cases b <;> simp [pvEqs] at h; rfl
  | x :: xs, b, h => by
    cases b with
    | nil => simp [pvEqs] at h
    | cons y ys =>
      rw [pvEqs, Bool.and_eq_true] at h
      rw [pvEq_ok h.1, pvEqs_ok h.2]
end

/-- a built-in function of one argument by name -/
def bn1 : Op → Str → Bool
  | .len, n => n == ("len" : Str)
  | .abs, n => n == ("abs" : Str)
  | .int, n => n == ("int" : Str)
  | .str, n => n == ("str" : Str)
  | .bool, n => n == ("bool" : Str)
  | .tuple, n => n == ("tuple" : Str)
  | .list, n => n == ("list" : Str)
  | .all, n => n == ("all" : Str)
  | .any, n => n == ("any" : Str)
  | .sum, n => n == ("sum" : Str)
  | .max1, n => n == ("max" : Str)
  | .min1, n => n == ("min" : Str)
  | _, _ => false
def bn2 : Op → Str → Bool
  | .max2, n => n == ("max" : Str)
  | .min2, n => n == ("min" : Str)
  | _, _ => false
def ty1 : Op → Str → Bool
  | .isList, n => n == ("list" : Str)
  | .isTuple, n => n == ("tuple" : Str)
  | .isInt, n => n == ("int" : Str)
  | .isBool, n => n == ("bool" : Str)
  | .isStr, n => n == ("str" : Str)
  | _, _ => false
def ty2 : Op → Str → Str → Bool
  | .isSeq, n, m => n == ("list" : Str) && m == ("tuple" : Str)
  | .isBoolStr, n, m => n == ("bool" : Str) && m == ("str" : Str)
  | _, _, _ => false

/-- list(range(..)), tuple(range(..)) -/
def rgB : Op → Str → Bool
  | .listR, n => n == ("list" : Str)
  | .tupR, n => n == ("tuple" : Str)
  | _, _ => false
/-- what an operation of one argument is in the text: its argument -/
def un1 (C : CI) (o : Op) : Expr → Option Expr
  | .UnaryOp .USub x _ => if o = .neg then some x else none
  | .Subscript v (.Slice none none none _) _ => if o = .slice false false then some v else none
  | .Subscript v (.Slice none none (some (.UnaryOp .USub (.Constant (.int 1) _ _) _)) _) _ => if o = .rev then some v else none
  | .Call (.Name n _) [.Call (.Name m mp) [x] [] cp] [] _ => if btB C n && btB C m && (m == ("range" : Str)) && rgB o n && notStar x then some x else (if btB C n && bn1 o n then some (.Call (.Name m mp) [x] [] cp) else none)
  | .Call (.Name n _) [x] [] _ => if btB C n && bn1 o n && notStar x then some x else none
  | .Call (.Name n _) [x, .Name t _] [] _ => if (n == ("isinstance" : Str)) && btB C n && btB C t && ty1 o t && notStar x then some x else none
  | .Call (.Name n _) [x, .Tuple [.Name t _, .Name t2 _] _ _] [] _ => if (n == ("isinstance" : Str)) && btB C n && btB C t && btB C t2 && ty2 o t t2 && notStar x then some x else none
  | _ => none
def bi2 (C : CI) (o : Op) : Expr → Option (Expr × Expr)
  | .BinOp l op r _ => if bop op = some o then some (l, r) else none
  | .Compare l [c] [r] _ => if cop c = o && notSet r then some (l, r) else none
  | .Subscript v (.Slice (some l) none none _) _ => if o = .slice true false then some (v, l) else none
  | .Subscript v (.Slice none (some u) none _) _ => if o = .slice false true then some (v, u) else none
  | .Subscript v s _ => if o = .idx && notSlice s then some (v, s) else none
  | .Call (.Name n _) [.Call (.Name m _) [x, y] [] _] [] _ => if btB C n && btB C m && (m == ("range" : Str)) && rgB o n && notStar x && notStar y then some (x, y) else none
  | .Call (.Name n _) [x, y] [] _ => if btB C n && bn2 o n && notStar x && notStar y then some (x, y) else none
  | _ => none
/-- the block of a comprehension: its own scope -/
def CI.blk (C : CI) (scope : Scope) : CI := { C with sc := relS scope C.sc, asc := scope }
def tgB (C : CI) : List Nat ⊕ Nat → Expr → Bool
  | .inr i, .Name n _ => asB C n i
  | .inl is, .Tuple es _ _ => (is.length == es.length) && (is.zip es).all fun p => match p.2 with
    | .Name n _ => asB C n p.1
    | _ => false
  | _, _ => false
def ownB (C : CI) (own : List Nat) : Option (List (Str × Nat)) := own.mapM fun i => (C.N[i]?).map fun n => (n, i)

/-- each parameter's keyword, by place -/
def permB (ps ks : List Str) (perm : List Nat) : Bool := (decide ks.Nodup && (ks.all ps.contains && decide (ks.length = ps.length))) && decide (perm.map (fun i => ks[i]?) = ps.map some)
/-- a receiver whose attribute is looked at plainly -/
def baseB : Expr → Bool
  | .Name _ _ => true
  | .Constant (.str _) _ _ => true
  | .Subscript _ _ _ => true
  | .BinOp _ _ _ _ => true
  | .Call _ (_ :: _) _ _ => true
  | .List _ _ => true
  | _ => false
mutual
def mE (C : CI) : IE → Expr → Bool
  | .c d, e => (match e with
    | .Constant (.int i) _ _ => (match d with
      | .int j => decide (i = j)
      | _ => false)
    | .Constant (.str i) _ _ => (match d with
      | .str j => decide (i = j) && PyData.strOk i
      | _ => false)
    | .Constant (.bool i) _ _ => (match d with
      | .bool j => decide (i = j)
      | _ => false)
    | .Constant .none _ _ => isNone d
    | .Name n _ => glB C n && (match C.gc.lookup n with
      | some d' => pvEq d d'
      | none => false)
    | _ => false)
  | .x i, e => (match e with
    | .Name n _ => visB C n i
    | _ => false)
  | .f k, e => (match e with
    | .Name n _ => glB C n && decide (C.nm[k]? = some n)
    | _ => false)
  | .tup es, e => (match e with
    | .Tuple l _ _ => mEs C es l
    | _ => false)
  | .lst es, e => (match e with
    | .List l _ => mEs C es l
    | _ => false)
  | .op o es, e => (match es with
    | .cons _ a .nil => (match un1 C o e with
      | some x => mE C a x
      | none => false)
    | .cons _ a (.cons _ b .nil) => (match bi2 C o e with
      | some (x, y) => mE C a x && mE C b y
      | none => false)
    | _ => false)
  | .and a b, e => (match e with
    | .BoolOp .And [x, y] _ => mE C a x && mE C b y
    | .BoolOp .And (x :: y :: z :: rest) pos => mE C a x && mE C b (.BoolOp .And (y :: z :: rest) pos)
    | _ => false)
  | .or a b, e => (match e with
    | .BoolOp .Or [x, y] _ => mE C a x && mE C b y
    | .BoolOp .Or (x :: y :: z :: rest) pos => mE C a x && mE C b (.BoolOp .Or (y :: z :: rest) pos)
    | _ => false)
  | .not a, e => (match e with
    | .UnaryOp .Not x _ => mE C a x
    | _ => false)
  | .ite c a b, e => (match e with
    | .IfExp x y z _ => mE C c x && (mE C a y && mE C b z)
    | _ => false)
  | .chain o1 o2 a b c, e => (match e with
    | .Compare l [c1, c2] [m, r] _ => (decide (cop c1 = o1) && decide (cop c2 = o2) && notSet r) && (mE C a l && (mE C b m && mE C c r))
    | _ => false)
  | .sl2 as lo hi, e => (match as with
    | .cons _ a .nil => (match e with
      | .Subscript v (.Slice (some l) (some u) none _) _ => mE C a v && (mE C lo l && mE C hi u)
      | _ => false)
    | _ => false)
  | .meth m as es, e => (match as with
    | .cons _ a .nil => (match e with
      | .Call (.Attribute o n apos) args [] cpos => ((n == (mtName m : Str)) && baseB o && (apos.endLine == cpos.line) && (if mtOne m then (match args with
          | [x] => notStar x
          | _ => false) else args.isEmpty)) && (mE C a o && mEs C es args)
      | _ => false)
    | _ => false)
  | .call f es, e => (match e with
    | .Call (.Name n _) args [] _ => (decide (C.nm[f]? = some n) && glB C n) && mEs C es args
    | _ => false)
  | .callk f perm es, e => (match e with
    | .Call (.Name n _) [] kws _ => (decide (C.nm[f]? = some n) && glB C n) && ((match C.kp[f]? with
      | some ps => permB ps (kws.filterMap (·.arg)) perm
      | none => false) && mKw C es kws)
    | _ => false)
  | .callx _ _, _ => false
  | .pop i, e => (match e with
    | .Call (.Attribute (.Name n _) m apos) [] [] cpos => ((m == ("pop" : Str)) && visB C n i) && (apos.endLine == cpos.line)
    | _ => false)
  | .lc own tg it cond elt, e => (match e with
    | .ListComp el [⟨t, iter, ifs, 0⟩] scope _ => (match ownB C own with
      | some ow => (blkC C.N C.sc scope ow && (tgB (C.blk scope) tg t && (match tg with
          | .inr i => own.contains i
          | .inl is => is.all own.contains))) && (notSet iter && (mIt C it t iter && ((match cond with
          | .nil => ifs.isEmpty
          | .cons _ c .nil => (match ifs with
            | [x] => mE (C.blk scope) c x
            | _ => false)
          | _ => false) && mE (C.blk scope) elt el)))
      | none => false)
    | _ => false)
def mEs (C : CI) : IEs → List Expr → Bool
  | .nil, es => es.isEmpty
  | .cons _ a r, es => (match es with
    | e :: es => (notStar e && mE C a e) && mEs C r es
    | [] => false)
def mKw (C : CI) : IEs → List Keyword → Bool
  | .nil, es => es.isEmpty
  | .cons _ a r, es => (match es with
    | e :: es => (e.arg.isSome && mE C a e.value) && mKw C r es
    | [] => false)
def mIt (C : CI) : IT → Expr → Expr → Bool
  | .seq a, _, e => mE C a e
  | .enum a, t, e => (match t with
    | .Tuple _ _ _ => (match e with
      | .Call (.Name n _) [x] [] _ => ((n == ("enumerate" : Str)) && btB C n && notStar x) && mE C a x
      | _ => false)
    | _ => false)
  | .zip a b, t, e => (match t with
    | .Tuple _ _ _ => (match e with
      | .Call (.Name n _) [x, y] [] _ => ((n == ("zip" : Str)) && btB C n && (notStar x && notStar y)) && (mE C a x && mE C b y)
      | _ => false)
    | _ => false)
  | .range es, _, e => (match es with
    | .cons _ a .nil => (match e with
      | .Call (.Name n _) [x] [] _ => ((n == ("range" : Str)) && btB C n && notStar x) && mE C a x
      | _ => false)
    | .cons _ a (.cons _ b .nil) => (match e with
      | .Call (.Name n _) [x, y] [] _ => ((n == ("range" : Str)) && btB C n && (notStar x && notStar y)) && (mE C a x && mE C b y)
      | _ => false)
    | .cons _ a (.cons _ b (.cons _ c .nil)) => (match e with
      | .Call (.Name n _) [x, y, z] [] _ => ((n == ("range" : Str)) && btB C n && (notStar x && (notStar y && notStar z))) && (mE C a x && (mE C b y && mE C c z))
      | _ => false)
    | _ => false)
end
end Pv
-- PvSnd
set_option maxRecDepth 100000
namespace Pv
open PySem L2

/-- all parameters by keywords -/
def KwB (K : PySem.W.Frag) (fd : FuncData) (ps : List Str) : Prop := ∀ (s : Shared) (kw : List (Str × Value)), (kw.map (·.1)).Nodup → (∀ k ∈ kw.map (·.1), ps.contains k = true) → (∀ n ∈ ps, n ∈ kw.map (·.1)) →
  BindsTo s fd ⟨[], kw⟩ (ps.filterMap fun n => (kw.lookup n).map (n, ·))
/-- a def that may be called -/
def FnS (G : Gx) (cf : Nat → List Ob → CR) (cn : Nat → Str) (X : Cx) (C : CI) (f : Nat) (n : Str) : Prop :=
  ∃ (a : Addr) (k : Nat) (fd : FuncData) (ps : List Str), (C.kp[f]? = some ps ∧ KwB X.K fd ps) ∧ X.mg n = some (.ref a) ∧ Room k X.A ∧ PySem.W.keepIn X.K (.ref a) = true ∧ Binds X.K fd ps [] ∧
    FnOk X.prog X.w X.K X.mg X.base (L2.CX X.prog X.w) k a fd ps (spF G cf cn ps.length f) ∧ ∀ obs, cf f obs ≠ .no → obs.length = ps.length
structure Cok (G : Gx) (cf : Nat → List Ob → CR) (cn : Nat → Str) (X : Cx) (C : CI) (W : WX) : Prop where
  K : X.K = G.K
  mg : X.mg = G.mg
  N : X.N = C.N
  nd : X.N.Nodup
  sc : X.env.scope = C.sc
  calm : X.calm = true
  nm : ∀ f n, C.nm[f]? = some n → G.nm f = n
  tk : Takes X W
  rm : ∃ k, Room k X.A
  asg : ∀ x, Loc C.asc x → Loc X.env.scope x ∧ (X.fn x = true ∨ X.env.scope.names.lookup x = some .local)
  gc : ∀ n d, C.gc.lookup n = some d → ∃ u v, X.mg n = some u ∧ RelV v u ∧ ∀ Fz, RF G.K Fz v d
  bt : ∀ n, n ∈ C.bt → X.mg n = none
  fn : ∀ f n, C.nm[f]? = some n → FnS G cf cn X C f n

section
variable {G : Gx} {cf : Nat → List Ob → CR} {lk : List Nat} {cn : Nat → Str} {X : Cx} {C : CI} {W : WX}

theorem vis_of {k : Option NameKind} (h : isVis k = true) : k = some .local ∨ k = some .cell ∨ k = some .free := by
  unfold isVis at h
  split at h <;> first | (simp; done) | (cases h)
theorem loc_of {k : Option NameKind} (h : isLoc k = true) : k = some .local ∨ k = some .cell := by
  unfold isLoc at h
  split at h <;> first | (simp; done) | (cases h)
theorem nmOk_of {n : Str} (h : nmOk n = true) : (n == ("__debug__" : Str)) = false ∧ (n == ("__classdict__" : Str)) = false ∧ n ≠ "__name__" := by
  unfold nmOk at h
  simp only [Bool.and_eq_true, Bool.not_eq_true'] at h
  refine ⟨h.1.1, h.1.2, fun e => ?_⟩
  have := h.2
  rw [e] at this
  simp at this
theorem Cok.vis (c : Cok G cf cn X C W) {n : Str} {i : Nat} (h : visB C n i = true) : X.N[i]? = some n ∧ Vis X.env.scope n ∧ (n == ("__debug__" : Str)) = false ∧ (n == ("__classdict__" : Str)) = false := by
  unfold visB at h
  simp only [Bool.and_eq_true, decide_eq_true_eq] at h
  obtain ⟨⟨h1, h2⟩, h3⟩ := h
  obtain ⟨d1, d2, _⟩ := nmOk_of h3
  exact ⟨by rw [c.N]; exact h1, by unfold Vis; rw [c.sc]; exact vis_of h2, d1, d2⟩
theorem Cok.var (c : Cok G cf cn X C W) {n : Str} {i : Nat} {pos : Pos} (h : visB C n i = true) : PE X (.Name n pos) (tVar i) := by
  obtain ⟨h1, h2, h3, h4⟩ := c.vis h
  exact pe_var h1 h2 h3 h4
theorem Cok.gl (c : Cok G cf cn X C W) {n : Str} (h : glB C n = true) : Gl X n ∧ (n == ("__debug__" : Str)) = false ∧ n ≠ "__name__" := by
  unfold glB at h
  simp only [Bool.and_eq_true, decide_eq_true_eq] at h
  obtain ⟨d1, _, d3⟩ := nmOk_of h.2
  refine ⟨?_, d1, d3⟩
  show X.env.scope.names.lookup n = _
  rw [c.sc]
  exact h.1
theorem Cok.blt (c : Cok G cf cn X C W) {n : Str} (h : btB C n = true) : Gl X n ∧ X.mg n = none ∧ (n == ("__debug__" : Str)) = false ∧ n ≠ "__name__" := by
  unfold btB at h
  simp only [Bool.and_eq_true, List.contains_eq_mem, decide_eq_true_eq] at h
  obtain ⟨g, d, e⟩ := c.gl h.1
  exact ⟨g, c.bt _ h.2, d, e⟩
theorem Cok.units (c : Cok G cf cn X C W) : X.A.units + 160 < cLine := by
  obtain ⟨k, r⟩ := c.rm
  have := r.un
  omega

/-- a call of a def by its written arguments -/
theorem star_no : ∀ {es : List Expr} {env : Env}, (es.all notStar) = true → (starEach es env).any (·.1) = false
  | [], _, _ => rfl
  | e :: es, env, h => by
    rw [List.all_cons, Bool.and_eq_true] at h
    rw [star_cons h.1, List.any_cons, Bool.false_or]
    exact star_no h.2
theorem backTo_no {pos : Pos} {l : List (Bool × Sem Value)} (h : l.any (·.1) = false) : (backTo pos l).any (·.1) = false := by
  cases l with
  | nil => rfl
  | cons p r =>
    have : (backTo pos (p :: r)).any (·.1) = (p :: r).any (·.1) := by
      unfold backTo
      simp only [List.any_map, List.any_cons]
      first | rfl | (congr 1)
    rw [this]; exact h
theorem call_snd {n : Str} {f : Nat} {p pos : Pos} {irs : IEs} {es : List Expr} (c : Cok G cf cn X C W) (hn : C.nm[f]? = some n) (hg : glB C n = true) (hs : (es.all notStar) = true) (hz : es = [] → irs = .nil) (ha : PA X es (tArgs G cf lk cn W irs)) :
    PE X (.Call (.Name n p) es [] pos) (tE G cf lk cn W (.call f irs)) := by
  obtain ⟨a, k, fd, ps, _, hm, hr, hk, hb, F, hl⟩ := c.fn f n hn
  obtain ⟨g, d, _⟩ := c.gl hg
  cases es with
  | nil =>
    cases hz rfl
    refine ⟨fun pins s σ H Q I h => ?_⟩
    refine wpAny_Call_Name_kw (ld_glob I g hm ?_ d)
    refine PySem.W.callWith_K0 I.kIn hk ?_
    obtain ⟨env, Fz, st, p⟩ := call_tE hl h
    rw [evC] at p
    have q := p.ok st [] .nil trivial
    exact run_fnS (us := []) (E := WE W) F hr hb (passAt c.tk σ) I .nil q
  | cons e es =>
    rw [List.all_cons, Bool.and_eq_true] at hs
    refine PE.imp (pe_callS (E := WE W) F hr g hm hk hb (passAt c.tk) ha d (star_cons hs.1) (backTo_no (star_no hs.2))) fun σ H Q h => ?_
    exact call_tE hl h

/-- a list of one's own becomes another one -/
theorem upL {env : En} {σ : St} {Fz H : Hp} (s : StOk G env σ Fz H) {i : Nat} {xs : List PV} (hi : env[i]? = some (some (.ml xs))) {a : Addr} {vs : List V} (h1 : σ[i]? = some (some (.ref a))) (ha : H a = some (.lst vs)) (hf : Fz a = none)
    {ys : List PV} {ws : List V} (hr : RFs G.K Fz ws ys) :
    StOk G (env.set i (some (.ml ys))) σ Fz (upd H a (.lst ws)) ∧ FrO (Own env σ) (Own (env.set i (some (.ml ys))) σ) Fz H Fz (upd H a (.lst ws)) := by
  have hilt : i < env.length := (List.getElem?_eq_some_iff.mp hi).1
  have g : ∀ (k : Nat) (ok : Ob), (env.set i (some (.ml ys)))[k]? = some (some ok) → (k = i ∧ ok = .ml ys) ∨ (i ≠ k ∧ env[k]? = some (some ok)) := fun k ok hk => by
    by_cases hki : i = k
    · subst hki
      rw [List.getElem?_set_self hilt] at hk
      cases hk
      exact .inl ⟨rfl, rfl⟩
    · rw [List.getElem?_set_ne hki] at hk
      exact .inr ⟨hki, hk⟩
  have g2 : ∀ (k : Nat) (ok : Ob), (env.set i (some (.ml ys)))[k]? = some (some ok) → ok.mut = true → ∃ o', env[k]? = some (some o') ∧ o'.mut = true := fun k ok hk hm => by
    rcases g k ok hk with ⟨rfl, rfl⟩ | ⟨_, h⟩
    · exact ⟨_, hi, rfl⟩
    · exact ⟨_, h, hm⟩
  refine ⟨⟨by rw [List.length_set]; exact s.len, fun b u hb => ?_, fun j ob hj => ?_, fun j l b oj ol hne ej el mj ml_ sj sl => ?_⟩, ⟨fun b o hb nb => ?_, fun b hb => ?_, Same.refl _, fun b hb nb hz => hz, fun b hb => ?_⟩⟩
  · have : b ≠ a := fun e => by subst e; rw [hf] at hb; cases hb
    rw [upd_ne this]; exact s.sub b u hb
  · rcases g j ob hj with ⟨rfl, rfl⟩ | ⟨hne, h⟩
    · exact ⟨_, h1, .ml upd_same hr hf⟩
    · obtain ⟨w, w1, w2⟩ := s.rep j ob h
      refine ⟨w, w1, ?_⟩
      cases w2 with
      | v r => exact .v r
      | ro p q => exact .ro p q
      | @ml b ws' _ p q z =>
        have : b ≠ a := fun e => by subst e; exact s.sep i j b _ _ hne hi h rfl rfl h1 w1
        exact .ml (by rw [upd_ne this]; exact p) q z
      | fn p => exact .fn p
  · obtain ⟨o1, e1, m1⟩ := g2 j oj ej mj
    obtain ⟨o2, e2, m2⟩ := g2 l ol el ml_
    exact s.sep j l b o1 o2 hne e1 e2 m1 m2 sj sl
  · have : b ≠ a := fun e => nb ⟨i, _, hi, rfl, e ▸ h1⟩
    rw [upd_ne this]; exact hb
  · by_cases e : b = a
    · subst e; rw [upd_same]; simp
    · rw [upd_ne e]; exact hb
  · obtain ⟨j, o, e1, e2, e3⟩ := hb
    obtain ⟨o', q1, q2⟩ := g2 j o e1 e2
    exact .inl ⟨j, o', q1, q2, e3⟩
/-- x.pop() -/
theorem pop_snd {i : Nat} {n : Str} {p apos cpos : Pos} (c : Cok G cf cn X C W) (h : visB C n i = true) (hl : (apos.endLine == cpos.line) = true) :
    PE X (.Call (.Attribute (.Name n p) "pop" apos) [] [] cpos) (tE G cf lk cn W (.pop i)) := by
  refine PE.imp (pe_bm0 PySem.F.plainAttrs_list PySem.F.slot_list_pop PySem.F.type_list_pop mt_pop (c.var h) rfl hl) fun σ H Q ⟨env, Fz, s, p⟩ => ?_
  rw [evE] at p
  cases e1 : env[i]? with
  | none => rw [e1] at p; exact p.elim
  | some o =>
    cases o with
    | none => rw [e1] at p; exact p.elim
    | some o =>
      cases o with
      | v d => rw [e1] at p; exact p.elim
      | fn d => rw [e1] at p; exact p.elim
      | ml xs =>
        rw [e1] at p
        simp only at p
        cases e2 : xs.getLast? with
        | none => rw [e2] at p; exact p.elim
        | some d =>
          rw [e2] at p
          simp only at p
          obtain ⟨v, h1, h2⟩ := s.rep i _ e1
          cases h2 with
          | @ml a vs _ ha hr hf =>
            have hlen := hr.length
            have hx : xs[xs.length - 1]? = some d := by rw [← List.getLast?_eq_getElem?]; exact e2
            obtain ⟨x, q1, q2⟩ := hr.get hx
            rw [← hlen] at q1
            refine ⟨.ref a, h1, .inl ⟨rfl, _, SqL.of ha⟩, a, vs, x, rfl, rfl, ha, q1, ?_⟩
            obtain ⟨s', f'⟩ := upL s e1 h1 ha hf hr.dropLast
            exact p _ _ s' f' _ (.v q2) (nmut_fsh rfl)

theorem Cok.as (c : Cok G cf cn X C W) {n : Str} {i : Nat} (h : asB C n i = true) : X.N[i]? = some n ∧ Loc X.env.scope n ∧ (X.fn n = true ∨ X.env.scope.names.lookup n = some .local) := by
  unfold asB at h
  simp only [Bool.and_eq_true, decide_eq_true_eq] at h
  obtain ⟨h1, h2⟩ := c.asg n (loc_of h.2)
  exact ⟨by rw [c.N]; exact h.1, h1, h2⟩
theorem Cok.pgName (c : Cok G cf cn X C W) {n : Str} {i : Nat} {pos : Pos} (h : asB C n i = true) : PG X (.Name n pos) (gName i) := by
  obtain ⟨h1, h2, h3⟩ := c.as h
  exact pg_name c.nd h1 h2 h3
def isName : Expr → Bool
  | .Name _ _ => true
  | _ => false
theorem asEach_len : ∀ (es : List Expr) (env : Env), (assignEach es env).length = es.length
  | [], _ => rfl
  | e :: es, env => by
    have ih := asEach_len es env
    cases e <;> (first | (simp only [assignEach, List.length_cons]; rw [ih]))
theorem asEach_no : ∀ (es : List Expr) (env : Env), es.all isName = true → (assignEach es env).findIdx? (·.1) = none
  | [], _, _ => rfl
  | e :: es, env, h => by
    rw [List.all_cons, Bool.and_eq_true] at h
    have ih := asEach_no es env h.2
    cases e <;> first | (cases h.1; done) | skip
    rw [assignEach, List.findIdx?_cons]
    simp [ih]
    all_goals (intros; simp_all)
theorem asEach_cons {e : Expr} {es : List Expr} {env : Env} (h : isName e = true) : (assignEach (e :: es) env).map (·.2) = assign e env :: (assignEach es env).map (·.2) := by
  cases e <;> first | (cases h; done) | rfl
theorem pgs_names : ∀ {is : List Nat} {es : List Expr} (c : Cok G cf cn X C W), is.length = es.length → ((is.zip es).all fun p => match p.2 with
    | .Name n _ => asB C n p.1
    | _ => false) = true → PGs X es (gTgs is) ∧ es.all isName = true
  | [], [], c, _, _ => ⟨pgs_nil, rfl⟩
  | [], _ :: _, _, h, _ => by simp at h
  | _ :: _, [], _, h, _ => by simp at h
  | i :: is, e :: es, c, hl, h => by
    rw [List.zip_cons_cons, List.all_cons, Bool.and_eq_true] at h
    obtain ⟨h1, h2⟩ := pgs_names c (by simpa using hl) h.2
    cases e <;> first | (cases h.1; done) | skip
    exact ⟨pgs_cons (c.pgName h.1) h1 (asEach_cons rfl), by rw [List.all_cons, h2]; rfl⟩
theorem tg_snd {tg : List Nat ⊕ Nat} {t : Expr} (c : Cok G cf cn X C W) (h : tgB C tg t = true) : PG X t (gTg X.K tg) := by
  unfold tgB at h
  split at h
  · exact c.pgName h
  · rename_i is es k pos
    rw [Bool.and_eq_true, beq_iff_eq] at h
    obtain ⟨h1, h2⟩ := pgs_names c h.1 h.2
    exact pg_tup c.calm h1 (by rw [asEach_len]; exact h.1.symm) (asEach_no _ _ h2)
  · cases h
theorem Cok.blk (c : Cok G cf cn X C W) (s : Shared) (H : Hp) (scope : Scope) (D : Addr) (cl : List (Str × Addr)) (fp : List Addr) : Cok G cf cn (X.blk s H scope (compEnvC scope cl D X.env) fp) (C.blk scope) WF where
  K := c.K
  mg := c.mg
  N := c.N
  nd := c.nd
  sc := by
    show relS scope X.env.scope = relS scope C.sc
    rw [c.sc]
  calm := c.calm
  nm := c.nm
  tk := fun _ _ x => by
    obtain ⟨_, _, _, _, _, _, _, _, _, _, _, _, _, _, _, _, z⟩ := x
    exact z.elim
  rm := c.rm
  asg := fun x h => by
    have keep : ∀ k, k ≠ NameKind.free → scope.names.lookup x = some k → (relS scope X.env.scope).names.lookup x = some k := fun k hk h => lookup_relS_keep hk h
    rcases h with h | h
    · exact ⟨.inl (keep _ (by decide) h), .inr (keep _ (by decide) h)⟩
    · refine ⟨.inr (keep _ (by decide) h), .inl ?_⟩
      have h : scope.names.lookup x = some .cell := h
      show (scope.names.lookup x == some .cell) = true
      rw [h]; rfl
  gc := c.gc
  bt := c.bt
  fn := c.fn
theorem ownB_ok {own : List Nat} {ow : List (Str × Nat)} (h : ownB C own = some ow) : ow.map (·.2) = own := by
  unfold ownB at h
  induction own generalizing ow with
  | nil => simp at h; subst h; rfl
  | cons i r ih =>
    rw [List.mapM_cons] at h
    cases e : C.N[i]? with
    | none => rw [e] at h; simp at h
    | some n =>
      rw [e] at h
      simp only [Option.map_some, Option.pure_def, Option.bind_eq_bind, Option.bind_some] at h
      cases e2 : List.mapM (fun i => (C.N[i]?).map fun n => (n, i)) r with
      | none => rw [e2] at h; simp at h
      | some w =>
        rw [e2] at h
        simp only [Option.bind_some, Option.some.injEq] at h
        subst h
        rw [List.map_cons, ih e2]
theorem lc_snd {own : List Nat} {tg : List Nat ⊕ Nat} {it : IT} {cond : IEs} {elt : IE} {el t iter : Expr} {ifs : List Expr} {scope : Scope} {pos : Pos} {ow : List (Str × Nat)} (c : Cok G cf cn X C W) (h1 : ownB C own = some ow) (h2 : blkC C.N C.sc scope ow = true)
    (h3 : tgB (C.blk scope) tg t = true) (h4 : ∀ i ∈ tgNames tg, i ∈ own) (hs : notSet iter = true) (hi : PI X t iter (tIt G cf lk cn W it))
    (hc : ∀ X', Cok G cf cn X' (C.blk scope) WF → PTs X' ifs (tK G cf lk cn WF cond)) (he : ∀ X', Cok G cf cn X' (C.blk scope) WF → PE X' el (tE G cf lk cn WF elt)) :
    PE X (.ListComp el [⟨t, iter, ifs, 0⟩] scope pos) (tE G cf lk cn W (.lc own tg it cond elt)) := by
  have eo := ownB_ok h1
  have ok : BlkOk X.N X.env.scope scope ow := by rw [c.N, c.sc]; exact blkOk_by h2
  refine PE.imp (pe_lc (g := gTg X.K tg) (tt := tK G cf lk cn WF cond) (te := tFz G cf lk cn WF elt) c.calm c.nd hi ok (fun s H D cl fp => tg_snd (c.blk s H scope D cl fp) h3) (fun s H D cl fp => hc _ (c.blk s H scope D cl fp))
    (fun s H D cl fp => fz_of (he _ (c.blk s H scope D cl fp))) (fun x => ?_)) fun σ H Q q => ?_
  · cases iter <;> first | rfl | (cases hs)
  · rw [eo]
    exact lc_ok c.K h4 q
end
end Pv
-- PvSnd2
set_option maxRecDepth 100000
namespace Pv
open PySem L2

def isBo : Expr → Bool
  | .BoolOp _ _ _ => true
  | _ => false
def plainT : Expr → Bool
  | .UnaryOp .Not _ _ => false
  | .BoolOp _ _ _ => false
  | .IfExp _ _ _ _ => false
  | .Compare _ _ _ _ => false
  | _ => true
theorem plainT_eq {e : Expr} {env : Env} (h : plainT e = true) (whole : Sem Value) : isTrue e env whole = (do let v ← whole; standAt e.pos; holding [v] (truthy v)) := by
  cases e <;> first | rfl | (cases h; done) | skip
  rename_i o x pos
  cases o <;> first | rfl | (cases h)

structure Snd (G : Gx) (cf : Nat → List Ob → CR) (lk : List Nat) (cn : Nat → Str) (W : WX) (X : Cx) (e : Expr) (ir : IE) : Prop where
  pe : PE X e (tE G cf lk cn W ir)
  pa : PE X e (tArg G cf lk cn W ir)
  pt : PT X e (tT G cf lk cn W ir)
  pw : isBo e = true → PW X e (tT G cf lk cn W ir)

section
variable {G : Gx} {cf : Nat → List Ob → CR} {lk : List Nat} {cn : Nat → Str} {X : Cx} {C : CI} {W : WX}

theorem Snd.of {e : Expr} {ir : IE} (hK : X.K = G.K) (h : PE X e (tE G cf lk cn W ir)) (hx : ir.isX = none) (hp : plainT e = true) : Snd G cf lk cn W X e ir :=
  ⟨h, arg_of h hx, tT_of hK h (plainT_eq hp), fun hb => by cases e <;> first | (cases hb; done) | (cases hp)⟩
theorem Snd.of2 {e : Expr} {ir : IE} (h : PE X e (tE G cf lk cn W ir)) (hx : ir.isX = none) (ht : PT X e (tT G cf lk cn W ir)) (hb : isBo e = false) : Snd G cf lk cn W X e ir :=
  ⟨h, arg_of h hx, ht, fun q => by rw [hb] at q; cases q⟩

theorem blt_const {n m : Str} (h : (n == m) = true) : n = m := by simpa using h
theorem argC_of {io : Bool} {e : Expr} {ir : IE} (h : PE X e (tE G cf lk cn W ir)) (h2 : PE X e (tArg G cf lk cn W ir)) : PE X e (tArgC G cf lk cn W io ir) := by
  cases io with
  | true => exact h2
  | false =>
    refine PE.imp h fun σ H Q ⟨env, Fz, s, p⟩ => ⟨env, Fz, s, ?_⟩
    simp only [evC1, Bool.false_eq_true, if_false] at p
    refine p.split0.mono fun o env1 Fz1 H1 s1 f1 q v r fs => ?_
    cases o with
    | v d => exact q Fz1 H1 s1 f1 v ⟨r, nmut_fsh rfl⟩
    | fn f => exact q Fz1 H1 s1 f1 v ⟨r, nmut_fsh rfl⟩
    | ml xs =>
      obtain ⟨Fz', s', f', rr⟩ := freezeTmp s1 f1 r fs
      exact q Fz' H1 s' f' v ⟨.v rr, nmut_fsh rfl⟩
/-- built-in functions of one argument -/
theorem b1_snd {o : Op} {n : Str} {p pos : Pos} {io : Bool} {ia : IE} {a : Expr} (c : Cok G cf cn X C W) (hb : btB C n = true) (h1 : bn1 o n = true) (hs : notStar a = true) (ha : PE X a (tArg G cf lk cn W ia)) :
    PE X (.Call (.Name n p) [a] [] pos) (tE G cf lk cn W (.op o (.cons io ia .nil))) := by
  obtain ⟨g, m, d, e⟩ := c.blt hb
  cases o <;> first | (cases h1; done) | skip
  all_goals (have h1 := blt_const h1; subst h1)
  · exact blt1B (call_lenA c.K) rfl g m e d ha hs
  · exact blt1B (call_absA c.K) rfl g m e d ha hs
  · exact blt1T (call_intA c.K) rfl g m e d ha hs
  · exact blt1T (call_tupleA c.K) rfl g m e d ha hs
  · exact blt1T (call_listA c.K) rfl g m e d ha hs
  · exact blt1T (call_boolA c.K) rfl g m e d ha hs
  · exact blt1B (call_allA c.K c.calm) rfl g m e d ha hs
  · exact blt1B (call_anyA c.K c.calm) rfl g m e d ha hs
  · exact blt1B (call_sumA c.K c.calm) rfl g m e d ha hs
  · exact blt1B (call_min1A c.K c.calm) rfl g m e d ha hs
  · exact blt1B (call_max1A c.K c.calm) rfl g m e d ha hs
  · exact blt1T (call_strA c.K) rfl g m e d ha hs
theorem b2_snd {o : Op} {n : Str} {p pos : Pos} {i1 i2 : Bool} {ia ib : IE} {a b : Expr} (c : Cok G cf cn X C W) (hb : btB C n = true) (h1 : bn2 o n = true) (hs : notStar a = true) (hs2 : notStar b = true) (ha : PE X a (tArg G cf lk cn W ia)) (hb' : PE X b (tArg G cf lk cn W ib)) :
    PE X (.Call (.Name n p) [a, b] [] pos) (tE G cf lk cn W (.op o (.cons i1 ia (.cons i2 ib .nil)))) := by
  obtain ⟨g, m, d, e⟩ := c.blt hb
  cases o <;> first | (cases h1; done) | skip
  all_goals (have h1 := blt_const h1; subst h1)
  · exact blt2B (call_min2A c.K c.calm) rfl g m e d ha hb' hs hs2
  · exact blt2B (call_max2A c.K c.calm) rfl g m e d ha hb' hs hs2
theorem t1_snd {o : Op} {t : Str} {p p2 pos : Pos} {io : Bool} {ia : IE} {a : Expr} (c : Cok G cf cn X C W) (hb : btB C "isinstance" = true) (hbt : btB C t = true) (h1 : ty1 o t = true) (hs : notStar a = true) (ha : PE X a (tArg G cf lk cn W ia)) :
    PE X (.Call (.Name "isinstance" p) [a, .Name t p2] [] pos) (tE G cf lk cn W (.op o (.cons io ia .nil))) := by
  obtain ⟨g, m, _, _⟩ := c.blt hb
  obtain ⟨g2, m2, d2, e2⟩ := c.blt hbt
  cases o <;> first | (cases h1; done) | skip
  all_goals (have h1 := blt_const h1; subst h1)
  · exact tE_isA c.K (pr := isListV) (ty := "list") rfl (fun d h => by cases d <;> first | rfl | (cases h)) g m g2 m2 rfl e2 d2 ha hs
  · exact tE_isA c.K (pr := isTupV) (ty := "tuple") rfl (fun d h => by cases d <;> first | rfl | (cases h)) g m g2 m2 rfl e2 d2 ha hs
  · exact tE_isA c.K (pr := isIntV) (ty := "int") rfl (fun d h => by cases d <;> first | rfl | (cases h)) g m g2 m2 rfl e2 d2 ha hs
  · exact tE_isA c.K (pr := isBoolV) (ty := "bool") rfl (fun d h => by cases d <;> first | rfl | (cases h)) g m g2 m2 rfl e2 d2 ha hs
  · exact tE_isA c.K (pr := isStrV) (ty := "str") rfl (fun d h => by cases d <;> first | rfl | (cases h)) g m g2 m2 rfl e2 d2 ha hs
theorem t2_snd {o : Op} {t u : Str} {p p2 p3 p4 pos : Pos} {k : Nat} {io : Bool} {ia : IE} {a : Expr} (c : Cok G cf cn X C W) (hb : btB C "isinstance" = true) (hbt : btB C t = true) (hbu : btB C u = true) (h1 : ty2 o t u = true) (hs : notStar a = true) (ha : PE X a (tArg G cf lk cn W ia)) :
    PE X (.Call (.Name "isinstance" p) [a, .Tuple [.Name t p2, .Name u p3] k p4] [] pos) (tE G cf lk cn W (.op o (.cons io ia .nil))) := by
  obtain ⟨g, m, _, _⟩ := c.blt hb
  obtain ⟨g2, m2, d2, e2⟩ := c.blt hbt
  obtain ⟨g3, m3, d3, e3⟩ := c.blt hbu
  cases o <;> first | (cases h1; done) | skip
  all_goals (unfold ty2 at h1; simp only [Bool.and_eq_true, beq_iff_eq] at h1; obtain ⟨rfl, rfl⟩ := h1)
  · exact tE_isA2 c.K (pr := isSeqV) (t1 := "list") (t2 := "tuple") rfl (fun d h => by cases d <;> first | (cases h; done) | exact ⟨_, _, rfl, rfl, rfl⟩) g m g2 m2 rfl e2 d2 g3 m3 rfl e3 d3 ha hs
  · exact tE_isA2 c.K (pr := fun d => isBoolV d || isStrV d) (t1 := "bool") (t2 := "str") rfl (fun d h => by cases d <;> first | (cases h; done) | exact ⟨_, _, rfl, rfl, rfl⟩) g m g2 m2 rfl e2 d2 g3 m3 rfl e3 d3 ha hs

theorem rg_res {Fz H : Hp} {a b : Int} {ob : Ob} {Q : VK} (sub : Same Fz H) : RFs G.K Fz (rgV a b) (rgP a b) := by
  unfold rgV rgP
  have : ∀ l : List Nat, RFs G.K Fz (l.map fun i => V.int (a + (i : Nat))) (l.map fun (i : Nat) => PyData.int (a + (i : Int))) := fun l => by
    induction l with
    | nil => exact .nil
    | cons i l ih => exact .cons (.int _) ih
  exact this _
theorem rg_of {a b : Int} (h : rgOk a b = true) : RgOk a b := by
  unfold rgOk at h
  simp only [Bool.and_eq_true, decide_eq_true_eq] at h
  exact ⟨h.1.1, h.1.2, h.2.1.1, h.2.1.2, h.2.2⟩
theorem listR_snd {x y : V} {d e : PV} {ob : Ob} {Fz H : Hp} {Q : VK} (sub : Same Fz H) (hx : VW G.K Fz H x d) (hy : VW G.K Fz H y e) (h : listRf d e = some ob) (r : Res G Fz H ob Q) :
    ∃ i j, x = .int i ∧ y = .int j ∧ RgOk i j ∧ ∀ q, H q = none → Q (.ref q) (upd H q (.lst (rgV i j))) := by
  unfold listRf at h
  split at h
  · split at h
    · rename_i a b hk
      cases h
      exact ⟨a, b, hx.int, hy.int, rg_of hk, r.lst sub (rg_res (ob := .v .none) (Q := Q) sub)⟩
    · cases h
  · cases h
theorem tupR_snd {x y : V} {d e : PV} {ob : Ob} {Fz H : Hp} {Q : VK} (sub : Same Fz H) (hx : VW G.K Fz H x d) (hy : VW G.K Fz H y e) (h : tupRf d e = some ob) (r : Res G Fz H ob Q) :
    ∃ i j, x = .int i ∧ y = .int j ∧ RgOk i j ∧ ∀ q, H q = none → Q (.ref q) (upd H q (.tup (rgV i j))) := by
  unfold tupRf at h
  split at h
  · split at h
    · rename_i a b hk
      cases h
      exact ⟨a, b, hx.int, hy.int, rg_of hk, r.tup sub (rg_res (ob := .v .none) (Q := Q) sub)⟩
    · cases h
  · cases h
theorem rg1_snd {o : Op} {n : Str} {p p2 p3 pos : Pos} {io : Bool} {ia : IE} {a : Expr} (c : Cok G cf cn X C W) (hb : btB C n = true) (hb2 : btB C "range" = true) (h1 : rgB o n = true) (hs : notStar a = true) (ha : PE X a (tArg G cf lk cn W ia)) :
    PE X (.Call (.Name n p) [.Call (.Name "range" p2) [a] [] p3] [] pos) (tE G cf lk cn W (.op o (.cons io ia .nil))) := by
  obtain ⟨g, m, d, e⟩ := c.blt hb
  obtain ⟨g2, m2, _, _⟩ := c.blt hb2
  cases o <;> first | (cases h1; done) | skip
  all_goals (have h1 := blt_const h1; subst h1)
  · refine PE.imp (pe_listRg c.calm g m (prg_1 g2 m2 ha (star_cons hs))) fun σ H Q q => ?_
    refine tArg_mono σ H _ _ (fun x H1 ⟨Fz, d, ob, sub, hx, ho, r⟩ => ?_) (op1_tE q)
    obtain ⟨i, j, e1, e2, h3, h4⟩ := listR_snd (x := .int 0) sub (.fz (.int 0)) hx ho r
    cases e1
    exact ⟨j, e2, h3, h4⟩
  · refine PE.imp (pe_tupRg c.calm g m (prg_1 g2 m2 ha (star_cons hs))) fun σ H Q q => ?_
    refine tArg_mono σ H _ _ (fun x H1 ⟨Fz, d, ob, sub, hx, ho, r⟩ => ?_) (op1_tE q)
    obtain ⟨i, j, e1, e2, h3, h4⟩ := tupR_snd (x := .int 0) sub (.fz (.int 0)) hx ho r
    cases e1
    exact ⟨j, e2, h3, h4⟩
theorem rg2_snd {o : Op} {n : Str} {p p2 p3 pos : Pos} {i1 i2 : Bool} {ia ib : IE} {a b : Expr} (c : Cok G cf cn X C W) (hb : btB C n = true) (hb2 : btB C "range" = true) (h1 : rgB o n = true) (hs : notStar a = true) (hs2 : notStar b = true) (ha : PE X a (tArg G cf lk cn W ia)) (hb' : PE X b (tArg G cf lk cn W ib)) :
    PE X (.Call (.Name n p) [.Call (.Name "range" p2) [a, b] [] p3] [] pos) (tE G cf lk cn W (.op o (.cons i1 ia (.cons i2 ib .nil)))) := by
  obtain ⟨g, m, d, e⟩ := c.blt hb
  obtain ⟨g2, m2, _, _⟩ := c.blt hb2
  have hst : starEach [a, b] X.env = (false, eval a X.env) :: starEach [b] X.env := star_cons hs
  have hst2 : starEach [b] X.env = (false, eval b X.env) :: starEach [] X.env := star_cons hs2
  have hno : (starEach [b] X.env).any (·.1) = false := star_no (by rw [List.all_cons, hs2]; rfl)
  cases o <;> first | (cases h1; done) | skip
  all_goals (have h1 := blt_const h1; subst h1)
  · refine PE.imp (pe_listRg c.calm g m (prg_2 g2 m2 ha hb' hst hst2 (backTo_no hno))) fun σ H Q q => ?_
    refine tArg_mono σ H _ _ (fun x H1 q => tArg_mono σ H1 _ _ (fun y H2 ⟨Fz, d, e, ob, sub, hx, hy, ho, r⟩ => ?_) q) (op2_tE q)
    exact listR_snd sub hx hy ho r
  · refine PE.imp (pe_tupRg c.calm g m (prg_2 g2 m2 ha hb' hst hst2 (backTo_no hno))) fun σ H Q q => ?_
    refine tArg_mono σ H _ _ (fun x H1 q => tArg_mono σ H1 _ _ (fun y H2 ⟨Fz, d, e, ob, sub, hx, hy, ho, r⟩ => ?_) q) (op2_tE q)
    exact tupR_snd sub hx hy ho r

/-- an operation of one argument -/
theorem un1_snd {o : Op} {e x : Expr} {io : Bool} {ia : IE} (c : Cok G cf cn X C W) (h : un1 C o e = some x) (ha : PE X x (tArg G cf lk cn W ia)) : Snd G cf lk cn W X e (.op o (.cons io ia .nil)) := by
  unfold un1 at h
  split at h
  · split at h
    · rename_i ho; subst ho; cases h
      exact .of c.K (tE_neg c.K ha) rfl rfl
    · cases h
  · split at h
    · rename_i ho; subst ho; cases h
      exact .of c.K (tE_slice0 c.K ha) rfl rfl
    · cases h
  · split at h
    · rename_i ho; subst ho; cases h
      exact .of c.K (tE_rev c.K ha) rfl rfl
    · cases h
  · split at h
    · rename_i ho; cases h
      simp only [Bool.and_eq_true] at ho
      obtain ⟨⟨⟨⟨h1, h2⟩, h3⟩, h4⟩, h5⟩ := ho
      have h3 := blt_const h3
      subst h3
      exact .of c.K (rg1_snd c h1 h2 h4 h5 ha) rfl rfl
    · split at h
      · rename_i ho; cases h
        simp only [Bool.and_eq_true] at ho
        exact .of c.K (b1_snd c ho.1 ho.2 rfl ha) rfl rfl
      · cases h
  · split at h
    · rename_i ho; cases h
      simp only [Bool.and_eq_true] at ho
      exact .of c.K (b1_snd c ho.1.1 ho.1.2 ho.2 ha) rfl rfl
    · cases h
  · split at h
    · rename_i ho; cases h
      simp only [Bool.and_eq_true] at ho
      obtain ⟨⟨⟨⟨h1, h2⟩, h3⟩, h4⟩, h5⟩ := ho
      have h1 := blt_const h1
      subst h1
      exact .of c.K (t1_snd c h2 h3 h4 h5 ha) rfl rfl
    · cases h
  · split at h
    · rename_i ho; cases h
      simp only [Bool.and_eq_true] at ho
      obtain ⟨⟨⟨⟨⟨h1, h2⟩, h3⟩, h4⟩, h5⟩, h6⟩ := ho
      have h1 := blt_const h1
      subst h1
      exact .of c.K (t2_snd c h2 h3 h4 h5 h6 ha) rfl rfl
    · cases h
  · cases h
theorem bi2_snd {o : Op} {e x y : Expr} {i1 i2 : Bool} {ia ib : IE} (c : Cok G cf cn X C W) (h : bi2 C o e = some (x, y)) (ha : PE X x (tArg G cf lk cn W ia)) (hb : PE X y (tArg G cf lk cn W ib)) : Snd G cf lk cn W X e (.op o (.cons i1 ia (.cons i2 ib .nil))) := by
  unfold bi2 at h
  split at h
  · split at h
    · rename_i ho; cases h
      exact .of c.K (tE_bin c.K ho ha hb) rfl rfl
    · cases h
  · split at h
    · rename_i ho; cases h
      simp only [Bool.and_eq_true, decide_eq_true_eq] at ho
      obtain ⟨rfl, hs⟩ := ho
      exact .of2 (tE_cmp c.K c.units _ ha hb hs) rfl (tT_cmp c.K c.units _ ha hb hs) rfl
    · cases h
  · split at h
    · rename_i ho; subst ho; cases h
      exact .of c.K (tE_sliceL c.K ha hb) rfl rfl
    · cases h
  · split at h
    · rename_i ho; subst ho; cases h
      exact .of c.K (tE_sliceU c.K ha hb) rfl rfl
    · cases h
  · split at h
    · rename_i ho; cases h
      simp only [Bool.and_eq_true, decide_eq_true_eq] at ho
      obtain ⟨rfl, hs⟩ := ho
      exact .of c.K (tE_idx c.K ha hb hs) rfl rfl
    · cases h
  · split at h
    · rename_i ho; cases h
      simp only [Bool.and_eq_true] at ho
      obtain ⟨⟨⟨⟨⟨h1, h2⟩, h3⟩, h4⟩, h5⟩, h6⟩ := ho
      have h3 := blt_const h3
      subst h3
      exact .of c.K (rg2_snd c h1 h2 h4 h5 h6 ha hb) rfl rfl
    · cases h
  · split at h
    · rename_i ho; cases h
      simp only [Bool.and_eq_true] at ho
      obtain ⟨⟨⟨h1, h2⟩, h3⟩, h4⟩ := ho
      exact .of c.K (b2_snd c h1 h2 h3 h4 ha hb) rfl rfl
    · cases h
  · cases h
end
end Pv
-- PvKw
set_option maxRecDepth 100000
namespace Pv
open PySem L2

theorem lookup_append_none {α : Type} : ∀ {a b : List (Str × α)} {n : Str}, a.lookup n = none → (a ++ b).lookup n = b.lookup n
  | [], _, _, _ => rfl
  | (m, v) :: a, b, n, h => by
    rw [List.lookup_cons] at h
    rw [List.cons_append, List.lookup_cons]
    by_cases q : (n == m) = true
    · rw [q] at h; cases h
    · have q : (n == m) = false := by simpa using q
      rw [q] at h ⊢
      exact lookup_append_none h
theorem lookup_none_of {α : Type} : ∀ {a : List (Str × α)} {n : Str}, n ∉ a.map (·.1) → a.lookup n = none
  | [], _, _ => rfl
  | (m, v) :: a, n, h => by
    rw [List.lookup_cons]
    have : (n == m) = false := by
      rw [beq_eq_false_iff_ne]
      exact fun e => h (by rw [e]; exact List.mem_cons_self)
    rw [this]
    exact lookup_none_of fun z => h (List.mem_cons_of_mem _ z)
def plainArgs (a : Arguments) : Bool := match a with
  | ⟨[], _, none, [], [], none, []⟩ => true
  | _ => false
/-- the loop over the keywords -/
theorem kw_loop {γ : Type} (ps : List Str) (fn : Str × Value → List (Str × Value) × γ → Sem (ForInStep (List (Str × Value) × γ)))
    (hf : ∀ k v sl ex, ps.contains k = true → sl.lookup k = none → fn (k, v) (sl, ex) = pure (.yield (sl ++ [(k, v)], ex))) :
    ∀ (kw sl : List (Str × Value)) (ex : γ), (kw.map (·.1)).Nodup → (∀ k ∈ kw.map (·.1), ps.contains k = true) → (∀ k ∈ kw.map (·.1), k ∉ sl.map (·.1)) → forIn kw (sl, ex) fn = pure (sl ++ kw, ex)
  | [], sl, ex, _, _, _ => by rw [List.forIn_nil, List.append_nil]
  | (k, v) :: kw, sl, ex, nd, h1, h2 => by
    obtain ⟨n1, n2⟩ := List.nodup_cons.mp nd
    rw [List.forIn_cons, hf k v sl ex (h1 k List.mem_cons_self) (lookup_none_of (h2 k List.mem_cons_self)), pure_bind]
    show forIn kw _ fn = _
    rw [kw_loop ps fn hf kw (sl ++ [(k, v)]) ex n2 (fun q hq => h1 q (List.mem_cons_of_mem _ hq)) fun q hq z => ?_]
    · rw [List.append_assoc]; rfl
    · rw [List.map_append, List.mem_append] at z
      rcases z with z | z
      · exact h2 q (List.mem_cons_of_mem _ hq) z
      · have : q = k := by simpa using z
        rw [this] at hq
        exact n1 hq
theorem bind_of {α β : Type} {t t' : Sem α} {k : α → Sem β} (h : t = t') : t >>= k = t' >>= k := by rw [h]
theorem binds_kw {x qual : Str} {p : Arguments} {body : List Stmt} {scope : Scope} {kV doc pm cdv ct : Value} {an : Option Addr} {kw : List (Str × Value)} (hp : plainArgs p = true)
    (nd : (kw.map (·.1)).Nodup) (h1 : ∀ k ∈ kw.map (·.1), (p.args.map (·.arg)).contains k = true) (h2 : ∀ n ∈ p.args.map (·.arg), n ∈ kw.map (·.1)) :
    bindArgs (PySem.W.fnOf x qual p body scope .none kV doc pm an cdv ct) ⟨[], kw⟩ = pure ((p.args.map (·.arg)).filterMap fun n => (kw.lookup n).map (n, ·)) := by
  obtain ⟨a1, a2, a3, a4, a5, a6, a7⟩ := p
  unfold plainArgs at hp
  split at hp
  · rename_i heq
    cases heq
    simp only at h1 h2 ⊢
    have hmiss : ((a2.map (·.arg)).filter fun n => (kw.lookup n).isNone) = [] := by
      rw [List.filter_eq_nil_iff]
      intro n hn
      have hk := h2 n hn
      clear nd h1 h2 hn
      induction kw with
      | nil => cases hk
      | cons q kw ih =>
        obtain ⟨m, v⟩ := q
        rw [List.lookup_cons]
        by_cases e : (n == m) = true
        · rw [e]; simp
        · have e' : (n == m) = false := by simpa using e
          rw [e']
          rcases List.mem_cons.mp hk with z | z
          · have z : n = m := z
            rw [z] at e; simp at e
          · exact ih z
    unfold bindArgs
    simp only [PySem.W.fnOf, List.map_nil, List.nil_append, List.append_nil, List.forIn_nil, gt_iff_lt, List.length_nil, Nat.not_lt_zero, List.zip_nil_right]
    refine (bind_of (kw_loop (a2.map (·.arg)) _ (fun k v sl ex hc hl => ?_) kw [] [] nd h1 (fun _ _ z => by cases z))).trans ?_
    · simp only [hc, hl, Bool.true_or, if_true, Option.isSome_none, Bool.false_eq_true, if_false]
    · rw [show seqItems? Value.none = pure none from rfl]
      simp only [pure_bind, Option.getD_none, List.length_nil, List.drop_nil, Nat.sub_zero, List.take_length, List.nil_append, hmiss, List.isEmpty_nil, List.zip_nil_right, List.forIn_nil, decide_false, Bool.false_and, Bool.not_true, Bool.false_eq_true, if_false]
  · cases hp

section
variable {G : Gx} {cf : Nat → List Ob → CR} {lk : List Nat} {cn : Nat → Str} {X : Cx} {C : CI} {W : WX}
theorem PK.imp {kws : List Keyword} {t t' : TA} (h : PK X kws t) (i : ∀ σ H Q, t' σ H Q → t σ H Q) : PK X kws t' := ⟨fun pos pins s σ H Q I q => h.run pos pins s σ H Q I (i σ H Q q)⟩
theorem kfs_nil : PK X [] (tFs G cf lk cn W .nil) := PK.imp pk_nil fun σ H Q ⟨env, Fz, s, p⟩ => by
  rw [evF] at p
  exact p.ok s [] .nil
theorem kfs_cons {n : Option Str} {e : Expr} {kp : Pos} {kws : List Keyword} {io : Bool} {ia : IE} {irs : IEs} (ha : PE X e (tFz G cf lk cn W ia)) (hr : PK X kws (tFs G cf lk cn W irs)) :
    PK X (⟨n, e, kp⟩ :: kws) (tFs G cf lk cn W (.cons io ia irs)) := by
  refine PK.imp (pk_cons ha hr) fun σ H Q ⟨env, Fz, s, p⟩ => ?_
  rw [evF_cons] at p
  refine ⟨env, Fz, s, p.split0.mono fun d env1 Fz1 H1 s1 f1 q x r => ?_⟩
  refine ⟨env1, Fz1, s1, (q.split0.shift f1).mono fun ds env2 Fz2 H2 s2 f2 q xs rs => ?_⟩
  exact q Fz2 H2 s2 (f1.trans f2) (x :: xs) (.cons (r.mono f2.ff) rs)
theorem kw_names : ∀ {kws : List Keyword} {env : Env} {pos : Pos}, kws.all (fun k => k.arg.isSome) = true →
    (backToKw pos (keywordEach kws env)).all (·.1.isSome) = true ∧ (backToKw pos (keywordEach kws env)).filterMap (·.1) = kws.filterMap (·.arg) ∧ (backToKw pos (keywordEach kws env)).any (·.1.isNone) = false
  | [], _, _, _ => ⟨rfl, rfl, rfl⟩
  | ⟨n, e, kp⟩ :: kws, env, pos, h => by
    rw [List.all_cons, Bool.and_eq_true] at h
    obtain ⟨h1, h2, h3⟩ := kw_names (env := env) (pos := pos) h.2
    cases n with
    | none => cases h.1
    | some n =>
      refine ⟨?_, ?_, ?_⟩
      · show ((some n).isSome && (backToKw pos (keywordEach kws env)).all (·.1.isSome)) = true
        rw [h1]; rfl
      · show n :: (backToKw pos (keywordEach kws env)).filterMap (·.1) = n :: kws.filterMap (·.arg)
        rw [h2]
      · show ((some n).isNone || (backToKw pos (keywordEach kws env)).any (·.1.isNone)) = false
        rw [h3]; rfl
/-- the picked values -/
theorem picked {Fz H : Hp} {ds : List PV} {zs : List V} {ws : List Value} (r : RFs G.K Fz zs ds) (rz : Vals zs ws) : ∀ {perm : List Nat} {args : List PV}, pickD ds perm = some args →
    ∃ vs us, Vals vs us ∧ Paired (fun (x : V) (o : Ob) => RO G Fz H o x) vs (args.map .v) ∧ perm.map (fun i => ws[i]?) = us.map some
  | [], args, h => by
    rw [pickD] at h; cases h
    exact ⟨[], [], .nil, .nil, rfl⟩
  | i :: perm, args, h => by
    rw [pickD] at h
    split at h
    · rename_i d l e1 e2
      cases h
      obtain ⟨vs, us, h1, h2, h3⟩ := picked (H := H) r rz e2
      obtain ⟨v, e3, rv⟩ := r.get e1
      obtain ⟨u, e4, ru⟩ := rz.get e3
      exact ⟨v :: vs, u :: us, .cons ru h1, .cons (.v rv) h2, by rw [List.map_cons, List.map_cons, e4, h3]⟩
    · cases h
theorem zip_look {ks : List Str} (nd : ks.Nodup) : ∀ {i : Nat} {n : Str} {ws : List Value} {u : Value}, ks[i]? = some n → ws[i]? = some u → (ks.zip ws).lookup n = some u := by
  induction ks with
  | nil => intro i n ws u h; simp at h
  | cons k ks ih =>
    intro i n ws u h1 h2
    obtain ⟨n1, n2⟩ := List.nodup_cons.mp nd
    cases ws with
    | nil => simp at h2
    | cons w ws =>
      rw [List.zip_cons_cons, List.lookup_cons]
      cases i with
      | zero =>
        simp at h1 h2
        subst h1 h2
        simp
      | succ i =>
        have h1 : ks[i]? = some n := by simpa using h1
        have h2 : ws[i]? = some u := by simpa using h2
        have : (n == k) = false := by
          rw [beq_eq_false_iff_ne]
          exact fun e => n1 (e ▸ List.mem_of_getElem? h1)
        rw [this]
        exact ih n2 h1 h2
theorem bound_is {ks : List Str} (nd : ks.Nodup) {ws : List Value} : ∀ {perm : List Nat} {ps : List Str} {us : List Value}, perm.map (fun i => ks[i]?) = ps.map some → perm.map (fun i => ws[i]?) = us.map some →
    (ps.filterMap fun n => ((ks.zip ws).lookup n).map (n, ·)) = ps.zip us
  | [], [], us, _, _ => by simp
  | [], _ :: _, _, h, _ => by simp at h
  | _ :: _, [], _, h, _ => by simp at h
  | _ :: _, _ :: _, [], _, h => by simp at h
  | i :: perm, p :: ps, u :: us, h1, h2 => by
    simp only [List.map_cons, List.cons.injEq] at h1 h2
    rw [List.filterMap_cons, zip_look nd h1.1 h2.1, List.zip_cons_cons]
    simp only [Option.map_some]
    rw [bound_is nd h1.2 h2.2]
/-- f(k = e, ..) -/
theorem callk_snd {n : Str} {f : Nat} {p pos : Pos} {perm : List Nat} {irs : IEs} {kws : List Keyword} {ps : List Str} (c : Cok G cf cn X C W) (hn : C.nm[f]? = some n) (hg : glB C n = true) (hps : C.kp[f]? = some ps) (hperm : permB ps (kws.filterMap (·.arg)) perm = true)
    (hall : kws.all (fun k => k.arg.isSome) = true) (ha : PK X kws (tFs G cf lk cn W irs)) : PE X (.Call (.Name n p) [] kws pos) (tE G cf lk cn W (.callk f perm irs)) := by
  obtain ⟨a, k, fd, ps', ⟨hps', hkb⟩, hm, hr, hk, hb, F, hl⟩ := c.fn f n hn
  rw [hps] at hps'
  cases hps'
  obtain ⟨g, d, _⟩ := c.gl hg
  obtain ⟨n1, n2, n3⟩ := kw_names (env := X.env) (pos := pos) hall
  unfold permB at hperm
  simp only [Bool.and_eq_true, decide_eq_true_eq] at hperm
  obtain ⟨⟨p1, p2, p3⟩, p4⟩ := hperm
  refine ⟨fun pins s σ H Q I h => ?_⟩
  refine wpAny_Call_Name_kw (ld_glob I g hm ?_ d)
  obtain ⟨env, Fz, st, p⟩ := h
  rw [evE] at p
  have p := p.split0
  refine PySem.W.callWith_KW0 I.ok.mod.kin hk n1 (thn (ha.run pos pins s σ H (fun zs H1 => ∃ env1 Fz1 ds, StOk G env1 σ Fz1 H1 ∧ FrO (Own env σ) (Own env1 σ) Fz H Fz1 H1 ∧ RFs G.K Fz1 zs ds ∧ PostE G cn W env σ Fz H (doCallK cf f perm ds env1) (KV' G Q env σ H)) I
    ⟨env, Fz, st, p.mono fun ds env1 Fz1 H1 s1 f1 q xs rs => ⟨env1, Fz1, ds, s1, f1, rs, q⟩⟩) fun ws s2 ⟨zs, H2, I2, rz, q2⟩ => ⟨I2.kIn, ?_⟩) (by rw [n3]; rfl)
  rw [n2]
  obtain ⟨env1, Fz1, ds, s1, f1, rs, q⟩ := q2
  rw [doCallK] at q
  split at q
  · rename_i args hargs
    split at q
    · rename_i hlen
      have hlen : ds.length = perm.length := by simpa using hlen
      obtain ⟨vs, us, r2, ro, e3⟩ := picked (H := H2) rs rz hargs
      have hkl : (kws.filterMap (·.arg)).length = ws.length := by
        have e1 := rz.length
        have e2 := rs.length
        have e4 := congrArg List.length p4
        rw [List.length_map, List.length_map] at e4
        omega
      have hb2 : BindsTo s2 fd ⟨[], (kws.filterMap (·.arg)).zip ws⟩ (ps.zip us) := by
        have z := hkb s2 ((kws.filterMap (·.arg)).zip ws) (by rw [List.map_fst_zip (by omega)]; exact p1) (fun q hq => by
          rw [List.map_fst_zip (by omega)] at hq
          rw [List.all_eq_true] at p2
          exact p2 q hq) (fun q hq => by
          rw [List.map_fst_zip (by omega)]
          have hq : some q ∈ perm.map (fun i => (kws.filterMap (·.arg))[i]?) := by rw [p4]; exact List.mem_map.mpr ⟨q, hq, rfl⟩
          obtain ⟨i, _, hi⟩ := List.mem_map.mp hq
          exact List.mem_of_getElem? hi)
        rw [bound_is p1 p4 e3] at z
        exact z
      have hcp : CallPost G cn Fz1 H2 (args.map .v) vs (cf f (args.map .v)) Q (fun cls d H' => W cls d σ H') := by
        have nom : ∀ a, ¬ OwnA (args.map Ob.v) vs a := fun a ⟨j, o, h1, h2, _⟩ => by
          rw [List.getElem?_map, Option.map_eq_some_iff] at h1
          obtain ⟨w, _, e⟩ := h1
          subst e
          cases h2
        have ext : ∀ {Fz' H' : Hp}, Same Fz' H' → FrO (OwnA (args.map Ob.v) vs) (OwnA (args.map Ob.v) vs) Fz1 H2 Fz' H' → Ext Fz1 H2 Fz' H' := fun sub g => ⟨fun a o h => g.hh a o h (nom a), g.ff, sub, fun a h z => g.nw a h (nom a) z⟩
        cases e : cf f (args.map .v) with
        | no => rw [e] at q; exact q
        | exc c ys =>
          rw [e] at q
          exact fun cls d Fz' H' sub g x => q cls d Fz' H' (s1.ext (ext sub g)) (f1.trans (.of_ext (ext sub g))) x
        | ret o outs =>
          rw [e, endCall] at q
          intro v Fz' H' sub r ho g fsh
          split at q
          · rename_i env' he
            have : env' = env1 := by
              cases outs with
              | nil => rw [putBack] at he; cases he; rfl
              | cons _ _ => rw [putBack] at he; cases he; all_goals simp
            subst this
            exact opEnd s1 f1 q v Fz' H' (ext sub g) r fsh
          · exact q.elim
      have hsp : spF G cf cn ps.length f vs H2 Q (WE W σ) := by
        refine ⟨?_, Fz1, args.map .v, s1.sub, ro, fun i j a oi oj _ h1 _ m1 => ?_, hcp⟩
        · rw [ro.length]
          exact hl _ fun e => by rw [e] at hcp; exact hcp.elim
        · rw [List.getElem?_map, Option.map_eq_some_iff] at h1
          obtain ⟨w, _, e⟩ := h1
          subst e
          cases m1
      refine wpAny_call (codeAny_mono (F.run X.A X.stack s2 H2 _ us vs Q (WE W σ) hr I2.env0 hb2 r2 hsp) fun r s' hq => ?_)
      cases r with
      | error e => exact passAt c.tk σ pins H2 s2 e s' I2 hq
      | ok fl =>
        cases fl with
        | ret u => exact I2.after hq
        | next => exact False.elim hq
        | brk => exact False.elim hq
        | cont => exact False.elim hq
    · exact q.elim
  · exact q.elim
end
end Pv
-- PvSnd3
set_option maxRecDepth 100000
set_option maxHeartbeats 4000000
namespace Pv
open PySem L2
section
variable {G : Gx} {cf : Nat → List Ob → CR} {lk : List Nat} {cn : Nat → Str}

theorem and2 {a b : Bool} (h : (a && b) = true) : a = true ∧ b = true := by simpa using h
theorem mEs_star {C : CI} : ∀ {irs : IEs} {es : List Expr}, mEs C irs es = true → es.all notStar = true ∧ (es = [] → irs = .nil)
  | .nil, es, h => by
    rw [mEs] at h
    cases es with
    | nil => exact ⟨rfl, fun _ => rfl⟩
    | cons e r => cases h
  | .cons io a r, [], h => by rw [mEs] at h; cases h
  | .cons io a r, e :: es, h => by
    rw [mEs] at h
    obtain ⟨h1, h2⟩ := and2 h
    obtain ⟨h3, h4⟩ := and2 h1
    rw [List.all_cons, h3, (mEs_star h2).1]
    exact ⟨rfl, fun q => by cases q⟩
theorem glob_snd {X : Cx} {C : CI} {W : WX} {n : Str} {d d' : PV} {pos : Pos} (c : Cok G cf cn X C W) (hg : glB C n = true) (hl : C.gc.lookup n = some d') (h : pvEq d d' = true) : PE X (.Name n pos) (tE G cf lk cn W (.c d)) := by
  obtain ⟨u, v, h1, h2, h3⟩ := c.gc n d' hl
  obtain ⟨g, db, _⟩ := c.gl hg
  rw [pvEq_ok h]
  exact tE_c (pe_glob g h1 h2 db) h3

theorem base_ok {o : Expr} {n : Str} {env : Env} (h : baseB o = true) : attributeBase o n env (eval o env) = eval o env := by
  cases o <;> first | rfl | (cases h; done) | skip
  rename_i f args kws pos
  cases args with
  | nil => cases h
  | cons a r => cases f <;> rfl
theorem meth_snd {X : Cx} {C : CI} {W : WX} {m : Mt} {io : Bool} {a : IE} {es : IEs} {o : Expr} {n : Str} {apos cpos : Pos} {args : List Expr} (c : Cok G cf cn X C W) (h0 : (n == (mtName m : Str)) = true) (hb : baseB o = true) (hl : (apos.endLine == cpos.line) = true)
    (hone : (if mtOne m then (match args with
          | [x] => notStar x
          | _ => false) else args.isEmpty) = true) (ha : Snd G cf lk cn W X o a) (hA : PA X args (tFs G cf lk cn W es)) (hz : args = [] → es = .nil) (hes : mEs C es args = true) :
    Snd G cf lk cn W X (.Call (.Attribute o n apos) args [] cpos) (.meth m (.cons io a .nil) es) := by
  have h0 := blt_const h0
  subst h0
  refine .of c.K ?_ rfl rfl
  by_cases h1 : mtOne m = true
  · rw [if_pos h1] at hone
    split at hone
    · exact meth1_snd c.K c.units h1 ha.pa hA hone (base_ok hb) hl
    · cases hone
  · rw [if_neg h1] at hone
    have : args = [] := by simpa using hone
    subst this
    cases hz rfl
    cases m <;> first | (exfalso; exact h1 rfl; done) | skip
    exact words_snd c.K ha.pa (base_ok hb) hl
mutual
theorem mE_ok {X : Cx} {C : CI} {W : WX} (ir : IE) (c : Cok G cf cn X C W) (e : Expr) (h : mE C ir e = true) : Snd G cf lk cn W X e ir := by
  cases ir with
  | c d =>
    rw [mE.eq_def] at h
    simp only at h
    split at h
    · split at h
      · rw [of_decide_eq_true h]
        exact .of c.K (tE_c pe_int fun _ => .int _) rfl rfl
      · cases h
    · split at h
      · obtain ⟨h1, h2⟩ := and2 h
        rw [← of_decide_eq_true h1]
        exact .of c.K (tE_c pe_str fun _ => .str h2) rfl rfl
      · cases h
    · split at h
      · rw [of_decide_eq_true h]
        exact .of c.K (tE_c pe_bl fun _ => .bl _) rfl rfl
      · cases h
    · cases d <;> first | (cases h; done) | skip
      exact .of c.K (tE_c pe_non fun _ => .non) rfl rfl
    · obtain ⟨h1, h2⟩ := and2 h
      split at h2
      · rename_i d' hd
        exact .of c.K (glob_snd c h1 hd h2) rfl rfl
      · cases h2
    · cases h
  | x i =>
    rw [mE.eq_def] at h
    simp only at h
    split at h
    · have hv := c.var h (pos := ‹Pos›)
      exact ⟨tE_x hv, arg_x hv, tT_of c.K (tE_x hv) (plainT_eq rfl), fun q => by cases q⟩
    · cases h
  | f k =>
    rw [mE.eq_def] at h
    simp only at h
    split at h
    · obtain ⟨h1, h2⟩ := and2 h
      obtain ⟨a, _, _, _, _, hm, _⟩ := c.fn k _ (of_decide_eq_true h2)
      obtain ⟨g, d, _⟩ := c.gl h1
      refine .of c.K (tE_f (pe_glob g hm (show RelV (.ref a) (.ref a) from rfl) d) ?_) rfl rfl
      rw [c.nm _ _ (of_decide_eq_true h2), ← c.mg]
      exact hm
    · cases h
  | tup es =>
    rw [mE.eq_def] at h
    simp only at h
    split at h
    · exact .of c.K (tE_tup (mEs_ok es c _ h).2) rfl rfl
    · cases h
  | lst es =>
    rw [mE.eq_def] at h
    simp only at h
    split at h
    · exact .of c.K (tE_lst (mEs_ok es c _ h).2) rfl rfl
    · cases h
  | op o es =>
    rw [mE.eq_def] at h
    simp only at h
    split at h
    · rename_i io a
      split at h
      · rename_i x hx
        exact un1_snd c hx (mE_ok a c x h).pa
      · cases h
    · rename_i i1 a i2 b
      split at h
      · rename_i x y hx
        obtain ⟨h1, h2⟩ := and2 h
        exact bi2_snd c hx (mE_ok a c x h1).pa (mE_ok b c y h2).pa
      · cases h
    · cases h
  | and a b =>
    rw [mE.eq_def] at h
    simp only at h
    split at h
    · obtain ⟨h1, h2⟩ := and2 h
      have ha := mE_ok a c _ h1
      have hb := mE_ok b c _ h2
      have w := tT_and ha.pt (pw_and1 (pos := ‹Pos›) hb.pt)
      have p := tE_and c.K ha.pe (pe_one (op := .And) (pos := ‹Pos›) hb.pe)
      exact ⟨p, arg_of p rfl, w.pt, fun _ => w⟩
    · obtain ⟨h1, h2⟩ := and2 h
      have ha := mE_ok a c _ h1
      have hb := mE_ok b c _ h2
      have w := tT_and ha.pt (hb.pw rfl)
      have p := tE_and c.K ha.pe hb.pe
      exact ⟨p, arg_of p rfl, w.pt, fun _ => w⟩
    · cases h
  | or a b =>
    rw [mE.eq_def] at h
    simp only at h
    split at h
    · obtain ⟨h1, h2⟩ := and2 h
      have ha := mE_ok a c _ h1
      have hb := mE_ok b c _ h2
      have w := tT_or ha.pt (pw_or1 (pos := ‹Pos›) hb.pt)
      have p := tE_or c.K ha.pe (pe_one (op := .Or) (pos := ‹Pos›) hb.pe)
      exact ⟨p, arg_of p rfl, w.pt, fun _ => w⟩
    · obtain ⟨h1, h2⟩ := and2 h
      have ha := mE_ok a c _ h1
      have hb := mE_ok b c _ h2
      have w := tT_or ha.pt (hb.pw rfl)
      have p := tE_or c.K ha.pe hb.pe
      exact ⟨p, arg_of p rfl, w.pt, fun _ => w⟩
    · cases h
  | not a =>
    rw [mE.eq_def] at h
    simp only at h
    split at h
    · have ha := mE_ok a c _ h
      exact .of2 (tE_not c.K ha.pe) rfl (tT_not ha.pt) rfl
    · cases h
  | ite k a b =>
    rw [mE.eq_def] at h
    simp only at h
    split at h
    · obtain ⟨h1, h2⟩ := and2 h
      obtain ⟨h2, h3⟩ := and2 h2
      have hk := mE_ok k c _ h1
      have ha := mE_ok a c _ h2
      have hb := mE_ok b c _ h3
      exact .of2 (tE_ite hk.pt ha.pe hb.pe) rfl (tT_ite hk.pt ha.pt hb.pt) rfl
    · cases h
  | chain o1 o2 a b d =>
    rw [mE.eq_def] at h
    simp only at h
    split at h
    · obtain ⟨h0, h⟩ := and2 h
      obtain ⟨h1, h2⟩ := and2 h
      obtain ⟨h2, h3⟩ := and2 h2
      obtain ⟨q1, q3⟩ := and2 h0
      obtain ⟨q1, q2⟩ := and2 q1
      have q1 := of_decide_eq_true q1
      have q2 := of_decide_eq_true q2
      subst q1 q2
      have ha := mE_ok a c _ h1
      have hb := mE_ok b c _ h2
      have hd := mE_ok d c _ h3
      exact .of2 (tE_chain c.K c.units _ _ ha.pe hb.pe hd.pe q3) rfl (tT_chain c.K c.units _ _ ha.pe hb.pe hd.pe q3) rfl
    · cases h
  | sl2 as lo hi =>
    rw [mE.eq_def] at h
    simp only at h
    split at h
    · rename_i io a
      split at h
      · obtain ⟨h1, h2⟩ := and2 h
        obtain ⟨h2, h3⟩ := and2 h2
        exact .of c.K (tE_sl2 c.K (mE_ok a c _ h1).pa (mE_ok lo c _ h2).pe (mE_ok hi c _ h3).pe) rfl rfl
      · cases h
    · cases h
  | meth m as es =>
    rw [mE.eq_def] at h
    simp only at h
    split at h
    · rename_i io a
      split at h
      · obtain ⟨h0, h⟩ := and2 h
        obtain ⟨h1, h2⟩ := and2 h
        obtain ⟨h0, h3⟩ := and2 h0
        obtain ⟨h0, h4⟩ := and2 h0
        obtain ⟨h0, h5⟩ := and2 h0
        exact meth_snd c h0 h5 h4 h3 (mE_ok a c _ h1) (mEs_ok es c _ h2).2 (mEs_star h2).2 h2
      · cases h
    · cases h
  | call f es =>
    rw [mE.eq_def] at h
    simp only at h
    split at h
    · obtain ⟨h0, h⟩ := and2 h
      obtain ⟨q1, q2⟩ := and2 h0
      obtain ⟨s1, s2⟩ := mEs_star h
      exact .of c.K (call_snd c (of_decide_eq_true q1) q2 s1 s2 (mEs_ok es c _ h).1) rfl rfl
    · cases h
  | callk f perm es =>
    rw [mE.eq_def] at h
    simp only at h
    split at h
    · obtain ⟨h0, h⟩ := and2 h
      obtain ⟨q1, q2⟩ := and2 h0
      obtain ⟨h1, h2⟩ := and2 h
      split at h1
      · rename_i ps hps
        obtain ⟨k1, k2⟩ := mKw_ok es c _ h2
        exact .of c.K (callk_snd c (of_decide_eq_true q1) q2 hps h1 k2 k1) rfl rfl
      · cases h1
    · cases h
  | callx i es => rw [mE.eq_def] at h; cases h
  | pop i =>
    rw [mE.eq_def] at h
    simp only at h
    split at h
    · obtain ⟨h0, h1⟩ := and2 h
      obtain ⟨h2, h3⟩ := and2 h0
      have h2 := blt_const h2
      subst h2
      exact .of c.K (pop_snd c h3 h1) rfl rfl
    · cases h
  | lc own tg it cond elt =>
    rw [mE.eq_def] at h
    simp only at h
    split at h
    · split at h
      · rename_i ow how
        obtain ⟨h0, h⟩ := and2 h
        obtain ⟨hb, h0⟩ := and2 h0
        obtain ⟨ht, ho⟩ := and2 h0
        obtain ⟨hs, h⟩ := and2 h
        obtain ⟨hi, h⟩ := and2 h
        obtain ⟨hc, he⟩ := and2 h
        refine .of c.K (lc_snd c how hb ht ?_ hs (mIt_ok it c _ _ hi) ?_ fun X' c' => (mE_ok elt c' _ he).pe) rfl rfl
        · intro i hi
          cases tg with
          | inr j =>
            have : i = j := by simpa [tgNames] using hi
            subst this
            simpa using ho
          | inl is =>
            have hi : i ∈ is := hi
            have ho : is.all own.contains = true := ho
            rw [List.all_eq_true] at ho
            simpa using ho i hi
        · intro X' c'
          cases cond with
          | nil =>
            have hc : List.isEmpty _ = true := hc
            rw [List.isEmpty_iff] at hc
            subst hc
            refine ⟨fun pins s σ H Q I hw => pts_nil.run pins s σ H Q I ?_⟩
            obtain ⟨env, Fz, st, p⟩ := hw
            rw [evK] at p
            exact p.ok st
          | cons io k r =>
            cases r with
            | cons _ _ _ => simp only at hc; cases hc
            | nil =>
              simp only at hc
              split at hc
              · refine ⟨fun pins s σ H Q I hw => (pts_one (mE_ok k c' _ hc).pt).run pins s σ H Q I ?_⟩
                obtain ⟨env, Fz, st, p⟩ := hw
                rw [evK] at p
                exact ⟨env, Fz, st, p⟩
              · cases hc
      · cases h
    · cases h
theorem mEs_ok {X : Cx} {C : CI} {W : WX} (irs : IEs) (c : Cok G cf cn X C W) (es : List Expr) (h : mEs C irs es = true) : PA X es (tArgs G cf lk cn W irs) ∧ PA X es (tFs G cf lk cn W irs) := by
  cases irs with
  | nil =>
    rw [mEs] at h
    cases es with
    | nil => exact ⟨args_nil, fs_nil⟩
    | cons e r => cases h
  | cons io a r =>
    cases es with
    | nil => rw [mEs] at h; cases h
    | cons e es =>
      rw [mEs] at h
      obtain ⟨h1, h2⟩ := and2 h
      obtain ⟨h3, h4⟩ := and2 h1
      have ha := mE_ok a c e h4
      obtain ⟨r1, r2⟩ := mEs_ok r c es h2
      exact ⟨args_cons (argC_of ha.pe ha.pa) r1 (star_cons h3), fs_cons (fz_of ha.pe) r2 (star_cons h3)⟩
theorem mKw_ok {X : Cx} {C : CI} {W : WX} (irs : IEs) (c : Cok G cf cn X C W) (kws : List Keyword) (h : mKw C irs kws = true) : PK X kws (tFs G cf lk cn W irs) ∧ kws.all (fun k => k.arg.isSome) = true := by
  cases irs with
  | nil =>
    rw [mKw] at h
    cases kws with
    | nil => exact ⟨kfs_nil, rfl⟩
    | cons e r => cases h
  | cons io a r =>
    cases kws with
    | nil => rw [mKw] at h; cases h
    | cons e es =>
      rw [mKw] at h
      obtain ⟨h1, h2⟩ := and2 h
      obtain ⟨h3, h4⟩ := and2 h1
      obtain ⟨n, v, kp⟩ := e
      have ha := mE_ok a c v h4
      obtain ⟨r1, r2⟩ := mKw_ok r c es h2
      exact ⟨kfs_cons (fz_of ha.pe) r1, by rw [List.all_cons, r2]; simpa using h3⟩
theorem mIt_ok {X : Cx} {C : CI} {W : WX} (it : IT) (c : Cok G cf cn X C W) (t e : Expr) (h : mIt C it t e = true) : PI X t e (tIt G cf lk cn W it) := by
  cases it with
  | seq a =>
    rw [mIt.eq_def] at h
    exact it_seq c.K (fz_of (mE_ok a c e h).pe)
  | enum a =>
    rw [mIt.eq_def] at h
    simp only at h
    split at h
    · split at h
      · obtain ⟨h0, h1⟩ := and2 h
        obtain ⟨h0, h2⟩ := and2 h0
        obtain ⟨h0, h3⟩ := and2 h0
        have h0 := blt_const h0
        subst h0
        obtain ⟨g, m, _, _⟩ := c.blt h3
        exact it_enum c.K g m (fz_of (mE_ok a c _ h1).pe) h2
      · cases h
    · cases h
  | zip a b =>
    rw [mIt.eq_def] at h
    simp only at h
    split at h
    · split at h
      · obtain ⟨h0, h1⟩ := and2 h
        obtain ⟨h0, h2⟩ := and2 h0
        obtain ⟨h0, h3⟩ := and2 h0
        obtain ⟨h4, h5⟩ := and2 h2
        obtain ⟨h6, h7⟩ := and2 h1
        have h0 := blt_const h0
        subst h0
        obtain ⟨g, m, _, _⟩ := c.blt h3
        exact it_zip c.K g m (fz_of (mE_ok a c _ h6).pe) (fz_of (mE_ok b c _ h7).pe) h4 h5
      · cases h
    · cases h
  | range es =>
    rw [mIt.eq_def] at h
    simp only at h
    split at h
    · rename_i i1 a
      split at h
      · obtain ⟨h0, h1⟩ := and2 h
        obtain ⟨h0, h2⟩ := and2 h0
        obtain ⟨h0, h3⟩ := and2 h0
        have h0 := blt_const h0
        subst h0
        obtain ⟨g, m, _, _⟩ := c.blt h3
        exact it_range1 g m (fz_of (mE_ok a c _ h1).pe) h2
      · cases h
    · rename_i i1 a i2 b
      split at h
      · obtain ⟨h0, h1⟩ := and2 h
        obtain ⟨h0, h2⟩ := and2 h0
        obtain ⟨h0, h3⟩ := and2 h0
        obtain ⟨h4, h5⟩ := and2 h2
        obtain ⟨h6, h7⟩ := and2 h1
        have h0 := blt_const h0
        subst h0
        obtain ⟨g, m, _, _⟩ := c.blt h3
        exact it_range2 g m (fz_of (mE_ok a c _ h6).pe) (fz_of (mE_ok b c _ h7).pe) h4 h5
      · cases h
    · rename_i i1 a i2 b i3 d
      split at h
      · obtain ⟨h0, h1⟩ := and2 h
        obtain ⟨h0, h2⟩ := and2 h0
        obtain ⟨h0, h3⟩ := and2 h0
        obtain ⟨h4, h5⟩ := and2 h2
        obtain ⟨h5, h8⟩ := and2 h5
        obtain ⟨h6, h7⟩ := and2 h1
        obtain ⟨h7, h9⟩ := and2 h7
        have h0 := blt_const h0
        subst h0
        obtain ⟨g, m, _, _⟩ := c.blt h3
        exact it_range3 g m (fz_of (mE_ok a c _ h6).pe) (fz_of (mE_ok b c _ h7).pe) (fz_of (mE_ok d c _ h9).pe) h4 h5 h8
      · cases h
    · cases h
end
end
end Pv
-- PvStm
set_option maxRecDepth 100000
namespace Pv
open PySem L2

theorem PS.imp {X : Cx} {e : Stmt} {t t' : TS} (h : PS X e t) (i : ∀ D σ H, t' D σ H → t D σ H) : PS X e t' := ⟨fun pins s σ H Q I q => h.run pins s σ H Q I (i Q σ H q)⟩
theorem PSs.imp {X : Cx} {e : List Stmt} {t t' : TS} (h : PSs X e t) (i : ∀ D σ H, t' D σ H → t D σ H) : PSs X e t' := ⟨fun pins s σ H Q I q => h.run pins s σ H Q I (i Q σ H q)⟩

/-- the locked slots stay -/
def Lk (lk : List Nat) (σ σ' : St) : Prop := σ'.length = σ.length ∧ ∀ i ∈ lk, σ'[i]? = σ[i]?
theorem Lk.refl {lk : List Nat} {σ : St} : Lk lk σ σ := ⟨rfl, fun _ _ => rfl⟩
theorem Lk.trans {lk : List Nat} {σ σ1 σ2 : St} (a : Lk lk σ σ1) (b : Lk lk σ1 σ2) : Lk lk σ σ2 := ⟨b.1.trans a.1, fun i h => (b.2 i h).trans (a.2 i h)⟩
theorem Lk.set {lk : List Nat} {σ : St} {i : Nat} {v : Option V} (h : free lk i = true) : Lk lk σ (σ.set i v) := ⟨List.length_set .., fun j hj => by
  have : i ≠ j := fun e => by
    subst e
    unfold free at h
    simp only [Bool.not_eq_true', List.contains_eq_mem, decide_eq_false_iff_not] at h
    exact h hj
  rw [List.getElem?_set_ne this]⟩

/-- what a row of statements says, seen from (env, σ, Fz, H) -/
def PostS (G : Gx) (lk : List Nat) (cn : Nat → Str) (W : WX) (env : En) (σ : St) (Fz H : Hp) (r : Rs Fl) (D : Ends) : Prop := match r with
  | .ok .nx env' => ∀ σ' Fz' H', StOk G env' σ' Fz' H' → FrO (Own env σ) (Own env' σ') Fz H Fz' H' → Lk lk σ σ' → D.nx σ' H'
  | .ok .bk env' => ∀ σ' Fz' H', StOk G env' σ' Fz' H' → FrO (Own env σ) (Own env' σ') Fz H Fz' H' → Lk lk σ σ' → D.bk σ' H'
  | .ok .ct env' => ∀ σ' Fz' H', StOk G env' σ' Fz' H' → FrO (Own env σ) (Own env' σ') Fz H Fz' H' → Lk lk σ σ' → D.ct σ' H'
  | .ok (.rt o) env' => ∀ v σ' Fz' H', StOk G env' σ' Fz' H' → FrO (Own env σ) (Own env' σ') Fz H Fz' H' → Lk lk σ σ' → RO G Fz' H' o v →
      (o.mut = true → ∃ a, v = .ref a ∧ ¬ Own env' σ' a ∧ (Own env σ a ∨ H a = none)) → D.rt v H'
  | .ex c as env' => ∀ cls d σ' Fz' H', StOk G env' σ' Fz' H' → FrO (Own env σ) (Own env' σ') Fz H Fz' H' → Lk lk σ σ' → ExR G cn c as cls d H' → W cls d σ' H'
  | .no => False

section
variable {G : Gx} {lk : List Nat} {cn : Nat → Str} {W : WX} {α : Type}
theorem own_none {env : En} {σ : St} {a : Addr} {Fz H : Hp} (s : StOk G env σ Fz H) (h : Own env σ a) : H a ≠ none := by
  obtain ⟨i, o, e1, e2, e3⟩ := h
  obtain ⟨v, w1, w2⟩ := s.rep i o e1
  rw [e3] at w1
  cases w1
  cases w2 with
  | ml ha _ _ => rw [ha]; simp
  | v _ => cases e2
  | ro _ _ => cases e2
  | fn _ => cases e2
theorem FrO.back {O1 O2 : Addr → Prop} {O : Addr → Prop} {Fz H Fz1 H1 Fz2 H2 : Hp} (f : FrO O O1 Fz H Fz1 H1) (g : FrO O1 O2 Fz1 H1 Fz2 H2) {a : Addr} (h : O1 a ∨ H1 a = none) : O a ∨ H a = none :=
  h.elim (f.ow a) fun z => by
    by_cases q : H a = none
    · exact .inr q
    · exact absurd z (f.dm a q)
/-- seen from a later state -/
theorem PostS.shift {env env1 : En} {σ σ1 : St} {Fz H Fz1 H1 : Hp} (f : FrO (Own env σ) (Own env1 σ1) Fz H Fz1 H1) (l : Lk lk σ σ1) {r : Rs Fl} {D : Ends} (p : PostS G lk cn W env σ Fz H r D) : PostS G lk cn W env1 σ1 Fz1 H1 r D := by
  cases r with
  | ok a env2 =>
    cases a with
    | nx => exact fun σ2 Fz2 H2 s2 f2 l2 => p σ2 Fz2 H2 s2 (f.trans f2) (l.trans l2)
    | bk => exact fun σ2 Fz2 H2 s2 f2 l2 => p σ2 Fz2 H2 s2 (f.trans f2) (l.trans l2)
    | ct => exact fun σ2 Fz2 H2 s2 f2 l2 => p σ2 Fz2 H2 s2 (f.trans f2) (l.trans l2)
    | rt o =>
      intro v σ2 Fz2 H2 s2 f2 l2 r2 m2
      refine p v σ2 Fz2 H2 s2 (f.trans f2) (l.trans l2) r2 fun m => ?_
      obtain ⟨a, h1, h2, h3⟩ := m2 m
      exact ⟨a, h1, h2, f.back f2 h3⟩
  | ex c as env2 => exact fun cls d σ2 Fz2 H2 s2 f2 l2 => p cls d σ2 Fz2 H2 s2 (f.trans f2) (l.trans l2)
  | no => exact p
/-- an expression ahead -/
theorem PostS.expr {env : En} {σ : St} {Fz H : Hp} {r : Rs α} {k : α → En → Rs Fl} {D : Ends} (p : PostS G lk cn W env σ Fz H (r.bind k) D) :
    PostE G cn W env σ Fz H r (fun a env1 _ _ => PostS G lk cn W env σ Fz H (k a env1) D) := by
  cases r with
  | ok a env1 => exact fun _ _ _ _ => p
  | ex c as env1 => exact fun cls d Fz' H' s f e => p cls d σ Fz' H' s f .refl e
  | no => exact p

theorem StOk.putO {env : En} {σ : St} {Fz H : Hp} (s : StOk G env σ Fz H) {i : Nat} {o : Ob} {x : V} (r : RO G Fz H o x) (n : o.mut = true → ∃ a, x = .ref a ∧ ¬ Own env σ a) : StOk G (env.set i (some o)) (σ.set i (some x)) Fz H := by
  refine ⟨by rw [List.length_set, List.length_set]; exact s.len, s.sub, fun j o h => ?_, fun j k a oj ok hne h1 h2 m1 m2 e1 e2 => ?_⟩
  · by_cases e : i = j
    · subst e
      have hl : i < env.length := by
        have := (List.getElem?_eq_some_iff.mp h).1
        rwa [List.length_set] at this
      rw [List.getElem?_set_self hl] at h
      cases h
      exact ⟨x, by rw [List.getElem?_set_self (s.len ▸ hl)], r⟩
    · rw [List.getElem?_set_ne e] at h ⊢
      exact s.rep j _ h
  · have g : ∀ (j : Nat) (o' : Ob) (a : Addr), (env.set i (some o))[j]? = some (some o') → (σ.set i (some x))[j]? = some (some (.ref a)) → (i = j ∧ o' = o ∧ x = .ref a) ∨ (i ≠ j ∧ env[j]? = some (some o') ∧ σ[j]? = some (some (.ref a))) := fun j o' a h e => by
      by_cases q : i = j
      · subst q
        have hl : i < env.length := by
          have := (List.getElem?_eq_some_iff.mp h).1
          rwa [List.length_set] at this
        rw [List.getElem?_set_self hl] at h
        rw [List.getElem?_set_self (s.len ▸ hl)] at e
        cases h; cases e
        exact .inl ⟨rfl, rfl, rfl⟩
      · rw [List.getElem?_set_ne q] at h e
        exact .inr ⟨q, h, e⟩
    rcases g j oj a h1 e1 with ⟨p0, p1, p2⟩ | ⟨p0, p1, p2⟩
    · rcases g k ok a h2 e2 with ⟨q0, q1, q2⟩ | ⟨q0, q1, q2⟩
      · exact hne (p0.symm.trans q0)
      · obtain ⟨b, eb, nb⟩ := n (p1 ▸ m1)
        rw [p2] at eb; cases eb
        exact nb ⟨k, ok, q1, m2, q2⟩
    · rcases g k ok a h2 e2 with ⟨q0, q1, q2⟩ | ⟨q0, q1, q2⟩
      · obtain ⟨b, eb, nb⟩ := n (q1 ▸ m2)
        rw [q2] at eb; cases eb
        exact nb ⟨j, oj, p1, m1, p2⟩
      · exact s.sep j k a oj ok hne p1 q1 m1 m2 p2 q2
theorem own_putO {env : En} {σ : St} {i : Nat} {o : Ob} {x : V} {a : Addr} (hl : env.length = σ.length) (h : Own (env.set i (some o)) (σ.set i (some x)) a) : Own env σ a ∨ (o.mut = true ∧ x = .ref a) := by
  obtain ⟨j, o', h1, h2, h3⟩ := h
  by_cases q : i = j
  · subst q
    have hlt : i < env.length := by
      have := (List.getElem?_eq_some_iff.mp h1).1
      rwa [List.length_set] at this
    rw [List.getElem?_set_self hlt] at h1
    rw [List.getElem?_set_self (hl ▸ hlt)] at h3
    cases h1; cases h3
    exact .inr ⟨h2, rfl⟩
  · rw [List.getElem?_set_ne q] at h1 h3
    exact .inl ⟨j, o', h1, h2, h3⟩
/-- a slot emptied in the machine -/
theorem StOk.drop {env : En} {σ : St} {Fz H : Hp} (s : StOk G env σ Fz H) (i : Nat) : StOk G (env.set i none) σ Fz H := s.wipe [i]
theorem own_drop {env : En} {σ : St} {i : Nat} {a : Addr} (h : Own (env.set i none) σ a) : Own env σ a := wipeL_own (l := [i]) h
/-- behind a store -/
theorem store_fr {env0 env : En} {σ : St} {Fz0 H0 Fz H : Hp} (s : StOk G env σ Fz H) (f : FrO (Own env0 σ) (Own env σ) Fz0 H0 Fz H) {i : Nat} {o : Ob} {x : V} (r : RO G Fz H o x) (n : Fsh o x env σ H0) :
    StOk G (env.set i (some o)) (σ.set i (some x)) Fz H ∧ FrO (Own env0 σ) (Own (env.set i (some o)) (σ.set i (some x))) Fz0 H0 Fz H := by
  refine ⟨s.putO r fun m => ?_, ⟨f.hh, f.dm, f.ff, f.nw, fun a h => ?_⟩⟩
  · obtain ⟨a, e, _, q⟩ := n m
    exact ⟨a, e, q⟩
  · rcases own_putO s.len h with h | ⟨m, e⟩
    · exact f.ow a h
    · obtain ⟨b, eb, hb, _⟩ := n m
      rw [e] at eb; cases eb
      exact .inr hb
end

section
variable (G : Gx) (cf : Nat → List Ob → CR) (lk : List Nat) (cn : Nat → Str) (W : WX)
def tS (ir : IS) : TS := fun D σ H => ∃ env Fz, StOk G env σ Fz H ∧ PostS G lk cn W env σ Fz H (evS cf lk ir env) D
def tSs (ir : ISs) : TS := fun D σ H => ∃ env Fz, StOk G env σ Fz H ∧ PostS G lk cn W env σ Fz H (evSs cf lk ir env) D
end
section
variable {G : Gx} {cf : Nat → List Ob → CR} {lk : List Nat} {cn : Nat → Str} {X : Cx} {C : CI} {W : WX}
theorem ss_nil : PSs X [] (tSs G cf lk cn W .nil) := PSs.imp pss_nil fun D σ H ⟨env, Fz, s, p⟩ => by
  rw [evSs] at p
  exact p σ Fz H s .refl .refl
/-- statements in a row -/
theorem PostS.seq {env : En} {σ : St} {Fz H : Hp} {a : Rs Fl} {k : Fl → En → Rs Fl} {D : Ends} (hk : ∀ fl env', fl ≠ .nx → k fl env' = .ok fl env') (p : PostS G lk cn W env σ Fz H (a.bind k) D) :
    PostS G lk cn W env σ Fz H a { D with nx := fun σ' H' => ∃ env' Fz', StOk G env' σ' Fz' H' ∧ PostS G lk cn W env' σ' Fz' H' (k .nx env') D } := by
  cases a with
  | ok fl env1 =>
    cases fl with
    | nx => exact fun σ1 Fz1 H1 s1 f1 l1 => ⟨env1, Fz1, s1, PostS.shift f1 l1 p⟩
    | rt o =>
      rw [Rs.bind_ok, hk _ _ (by simp)] at p
      exact p
    | bk =>
      rw [Rs.bind_ok, hk _ _ (by simp)] at p
      exact p
    | ct =>
      rw [Rs.bind_ok, hk _ _ (by simp)] at p
      exact p
  | ex c as env1 => exact p
  | no => exact p
theorem ss_cons {st : Stmt} {rest : List Stmt} {a : IS} {r : ISs} (h1 : PS X st (tS G cf lk cn W a)) (h2 : PSs X rest (tSs G cf lk cn W r)) : PSs X (st :: rest) (tSs G cf lk cn W (.cons a r)) :=
  PSs.imp (pss_cons h1 h2) fun D σ H ⟨env, Fz, s, p⟩ => by
    rw [evSs] at p
    refine ⟨env, Fz, s, ?_⟩
    refine PostS.seq (k := fun fl env => match fl with
      | .nx => evSs cf lk r env
      | fl => .ok fl env) (fun fl env' hn => ?_) p
    cases fl <;> first | rfl | exact absurd rfl hn
theorem s_pass {pos : Pos} : PS X (.Pass pos) (tS G cf lk cn W .pass) := PS.imp ps_pass fun D σ H ⟨env, Fz, s, p⟩ => by
  rw [evS] at p
  exact p σ Fz H s .refl .refl
theorem s_brk {pos : Pos} : PS X (.Break pos) (tS G cf lk cn W .brk) := PS.imp ps_break fun D σ H ⟨env, Fz, s, p⟩ => by
  rw [evS] at p
  exact p σ Fz H s .refl .refl
theorem s_cnt {pos : Pos} : PS X (.Continue pos) (tS G cf lk cn W .cnt) := PS.imp ps_continue fun D σ H ⟨env, Fz, s, p⟩ => by
  rw [evS] at p
  exact p σ Fz H s .refl .refl
theorem s_never {st : Stmt} : PS X st (tS G cf lk cn W .never) := PS.imp ps_never fun D σ H ⟨env, Fz, s, p⟩ => by
  rw [evS] at p
  exact p
/-- what has come, given away if one says so -/
theorem fz_if {env0 env : En} {σ : St} {Fz0 H0 Fz H : Hp} {z : Bool} {o : Ob} {v : V} (s : StOk G env σ Fz H) (f : FrO (Own env0 σ) (Own env σ) Fz0 H0 Fz H) (r : RO G Fz H o v) (fs : Fsh o v env σ H0) :
    ∃ Fz', StOk G env σ Fz' H ∧ FrO (Own env0 σ) (Own env σ) Fz0 H0 Fz' H ∧ RO G Fz' H (fzIf z o) v ∧ Fsh (fzIf z o) v env σ H0 := by
  cases z with
  | false => exact ⟨Fz, s, f, r, fs⟩
  | true =>
    cases o with
    | v d => exact ⟨Fz, s, f, r, fs⟩
    | fn d => exact ⟨Fz, s, f, r, fs⟩
    | ml xs =>
      obtain ⟨Fz', s', f', rr⟩ := freezeTmp s f r fs
      exact ⟨Fz', s', f', .v rr, nmut_fsh rfl⟩
/-- name = e, with what comes told -/
theorem asg_tS {z : Bool} {i : Nat} {ir : IE} {D : Ends} {σ : St} {H : Hp} (h : tS G cf lk cn W (.asg z i ir) D σ H) : tE G cf lk cn W ir σ H fun x H1 => gName i x σ H1 D.nx := by
  obtain ⟨env, Fz, s, p⟩ := h
  rw [evS] at p
  split at p
  · rename_i hf
    refine ⟨env, Fz, s, p.expr.mono fun o env1 Fz1 H1 s1 f1 q v r fs => ?_⟩
    obtain ⟨Fz', s', f', r', fs'⟩ := fz_if (z := z) s1 f1 r fs
    obtain ⟨s2, f2⟩ := store_fr s' f' (i := i) r' fs'
    exact q _ _ _ s2 f2 (.set hf)
  · exact p.elim
theorem s_ex {e : Expr} {ir : IE} {pos : Pos} (h : PE X e (tE G cf lk cn W ir)) (hs : swapsWith e none pos.line X.env = pure false) : PS X (.Expr e pos) (tS G cf lk cn W (.ex ir)) :=
  PS.imp (ps_expr h hs) fun D σ H ⟨env, Fz, s, p⟩ => by
    rw [evS] at p
    exact ⟨env, Fz, s, p.expr.mono fun o env1 Fz1 H1 s1 f1 q v r fs => q _ _ _ s1 f1 .refl⟩
theorem s_retn {pos : Pos} : PS X (.Return none pos) (tS G cf lk cn W .retn) := PS.imp ps_retN fun D σ H ⟨env, Fz, s, p⟩ => by
  rw [evS] at p
  exact p .non σ Fz H s .refl .refl (.v .non) fun m => by cases m
theorem s_ite {c : Expr} {a b : List Stmt} {ic : IE} {ia ib : ISs} {pos : Pos} (hc : PT X c (tT G cf lk cn W ic)) (ha : PSs X a (tSs G cf lk cn W ia)) (hb : PSs X b (tSs G cf lk cn W ib)) : PS X (.If c a b pos) (tS G cf lk cn W (.ite ic ia ib)) :=
  PS.imp (ps_if hc ha hb) fun D σ H ⟨env, Fz, s, p⟩ => by
    rw [evS] at p
    refine ⟨env, Fz, s, p.expr.mono fun k env1 Fz1 H1 s1 f1 q => ?_⟩
    cases k with
    | true => exact ⟨env1, Fz1, s1, PostS.shift f1 .refl q⟩
    | false => exact ⟨env1, Fz1, s1, PostS.shift f1 .refl q⟩
/-- a value given back -/
theorem s_ret {e : Expr} {ir : IE} {pos : Pos} (h : PE X e (tE G cf lk cn W ir)) (hx : ir.isX = none) : PS X (.Return (some e) pos) (tS G cf lk cn W (.ret ir)) :=
  PS.imp (ps_ret h) fun D σ H ⟨env, Fz, s, p⟩ => by
    rw [evS, retO, hx] at p
    refine ⟨env, Fz, s, p.expr.mono fun o env1 Fz1 H1 s1 f1 q v r fs => ?_⟩
    refine q v σ Fz1 H1 s1 f1 .refl r fun m => ?_
    obtain ⟨a, h1, h2, h3⟩ := fs m
    exact ⟨a, h1, h3, .inr h2⟩
theorem s_retX {e : Expr} {i : Nat} {pos : Pos} (hv : PE X e (tVar i)) : PS X (.Return (some e) pos) (tS G cf lk cn W (.ret (.x i))) := by
  have old : ∀ D σ H env Fz, StOk G env σ Fz H → PostS G lk cn W env σ Fz H ((readX env i).bind fun o env => .ok (.rt o) env) D → tVar i σ H D.rt := fun D σ H env Fz s p => by
    rw [readX] at p
    split at p
    · rename_i o ho
      cases o with
      | v d =>
        obtain ⟨v, h1, h2⟩ := s.rep i _ ho
        exact ⟨v, h1, p v σ Fz H s .refl .refl h2 fun m => by cases m⟩
      | fn f =>
        obtain ⟨v, h1, h2⟩ := s.rep i _ ho
        exact ⟨v, h1, p v σ Fz H s .refl .refl h2 fun m => by cases m⟩
      | ml xs =>
        obtain ⟨a, vs, h1, ha, hr, s', f', rr⟩ := freezeSt s ho
        exact ⟨_, h1, p _ σ _ _ s' f' .refl (.v rr) fun m => by cases m⟩
    · exact p.elim
  refine PS.imp (ps_ret hv) fun D σ H ⟨env, Fz, s, p⟩ => ?_
  rw [evS, retO] at p
  simp only [IE.isX] at p
  split at p
  · rename_i o ho
    split at p
    · rename_i hm
      obtain ⟨hfr, hmut⟩ := and2 hm
      obtain ⟨v, h1, h2⟩ := s.rep i o ho
      refine ⟨v, h1, p v σ Fz H (s.drop i) (.same fun a h => own_drop h) .refl h2 fun m => ?_⟩
      cases h2 with
      | @ml a vs xs ha hr hf =>
        refine ⟨a, rfl, ?_, .inl ⟨i, _, ho, rfl, h1⟩⟩
        rintro ⟨j, o', q1, q2, q3⟩
        have hlt : i < env.length := (List.getElem?_eq_some_iff.mp ho).1
        by_cases e : i = j
        · subst e
          rw [List.getElem?_set_self hlt] at q1
          cases q1
        · rw [List.getElem?_set_ne e] at q1
          exact s.sep i j a _ o' e ho q1 rfl q2 h1 q3
      | v _ => cases m
      | ro _ _ => cases m
      | fn _ => cases m
    · exact old D σ H env Fz s p
  · exact p.elim
end
end Pv
-- PvStm2
set_option maxRecDepth 100000
namespace Pv
open PySem L2

/-- values in a row, new lists apart -/
inductive Rows (G : Gx) (env : En) (σ : St) (Fz H H0 : Hp) : List Ob → List V → Prop
  | nil : Rows G env σ Fz H H0 [] []
  | cons {o : Ob} {x : V} {os : List Ob} {xs : List V} : RO G Fz H o x → Fsh o x env σ H0 → (∀ a, o.mut = true → x = .ref a → ¬ OwnA os xs a) → Rows G env σ Fz H H0 os xs → Rows G env σ Fz H H0 (o :: os) (x :: xs)
section
variable {G : Gx} {cf : Nat → List Ob → CR} {lk : List Nat} {cn : Nat → Str} {X : Cx} {C : CI} {W : WX}
theorem OwnA.cons {o : Ob} {x : V} {os : List Ob} {xs : List V} {a : Addr} (h : OwnA (o :: os) (x :: xs) a) : (o.mut = true ∧ x = .ref a) ∨ OwnA os xs a := by
  obtain ⟨j, o', h1, h2, h3⟩ := h
  cases j with
  | zero => simp at h1 h3; subst h1 h3; exact .inl ⟨h2, rfl⟩
  | succ j => exact .inr ⟨j, o', by simpa using h1, h2, by simpa using h3⟩
theorem Rows.own {env : En} {σ : St} {Fz H H0 : Hp} : ∀ {os : List Ob} {xs : List V} {a : Addr}, Rows G env σ Fz H H0 os xs → OwnA os xs a → H0 a = none ∧ ¬ Own env σ a
  | _, _, a, .nil, ⟨j, o, h, _, _⟩ => by simp at h
  | _, _, a, .cons r f d t, h => by
    rcases h.cons with ⟨m, e⟩ | h
    · obtain ⟨b, eb, hb, nb⟩ := f m
      rw [e] at eb; cases eb
      exact ⟨hb, nb⟩
    · exact Rows.own t h
theorem Rows.older {env0 env1 env : En} {σ : St} {Fz H Fz1 H1 Fz2 H2 : Hp} (f : FrO (Own env0 σ) (Own env1 σ) Fz H Fz1 H1) : ∀ {os : List Ob} {xs : List V}, Rows G env σ Fz2 H2 H1 os xs → Rows G env σ Fz2 H2 H os xs
  | _, _, .nil => .nil
  | _, _, .cons r fs d t => .cons r (fs.older f) d (Rows.older f t)
section
variable (G : Gx) (cf : Nat → List Ob → CR) (lk : List Nat) (cn : Nat → Str) (W : WX)
def tOs (irs : IEs) : TA := fun σ H Q => ∃ env Fz, StOk G env σ Fz H ∧ PostE G cn W env σ Fz H (evO cf lk irs env) fun os env' Fz' H' => ∀ xs, Rows G env' σ Fz' H' H os xs → Q xs H'
end
theorem os_nil : PA X [] (tOs G cf lk cn W .nil) := PA.imp pa_nil fun σ H Q ⟨env, Fz, s, p⟩ => by
  rw [evO] at p
  exact p.ok s [] .nil
theorem os_cons {e : Expr} {es : List Expr} {io : Bool} {ia : IE} {irs : IEs} (ha : PE X e (tE G cf lk cn W ia)) (hr : PA X es (tOs G cf lk cn W irs)) (hs : starEach (e :: es) X.env = (false, eval e X.env) :: starEach es X.env) :
    PA X (e :: es) (tOs G cf lk cn W (.cons io ia irs)) := by
  refine PA.imp (pa_cons ha hr hs) fun σ H Q ⟨env, Fz, s, p⟩ => ?_
  rw [evO] at p
  refine ⟨env, Fz, s, p.split0.mono fun o env1 Fz1' H1 s1 f1 q x r fs => ?_⟩
  obtain ⟨Fz1, s1, f1, r, fs⟩ := fz_if (z := io) s1 f1 r fs
  refine ⟨env1, Fz1, s1, (q.split0.shift f1).mono fun os env2 Fz2 H2 s2 f2 q xs rs => ?_⟩
  refine q Fz2 H2 s2 (f1.trans f2) (x :: xs) (.cons (r.keep fs f2) (fun m => ?_) (fun a m e t => ?_) (rs.older f1))
  · obtain ⟨a, e, h0, n⟩ := fs m
    refine ⟨a, e, h0, fun q => (f2.ow a q).elim n fun z => ?_⟩
    rw [e] at r
    generalize fzIf io o = o' at r m
    cases r with
    | ml ha _ _ => rw [ha] at z; cases z
    | v _ => cases m
    | ro _ _ => cases m
    | fn _ => cases m
  · have z := (rs.own t).1
    rw [e] at r
    generalize fzIf io o = o' at r m
    cases r with
    | ml ha _ _ => rw [ha] at z; cases z
    | v _ => cases m
    | ro _ _ => cases m
    | fn _ => cases m
/-- stored one after another -/
def setVs (σ : St) : List Nat → List V → St
  | i :: is, x :: xs => setVs (σ.set i (some x)) is xs
  | _, _ => σ
theorem row_fr {Fz H H0 Fz0 : Hp} {O : Addr → Prop} : ∀ {is : List Nat} {os : List Ob} {xs : List V} {env env' : En} {σ : St}, (∀ i ∈ is, free lk i = true) → StOk G env σ Fz H → FrO O (Own env σ) Fz0 H0 Fz H → Rows G env σ Fz H H0 os xs → setObs env is os = some env' →
    StOk G env' (setVs σ is xs) Fz H ∧ FrO O (Own env' (setVs σ is xs)) Fz0 H0 Fz H ∧ Lk lk σ (setVs σ is xs)
  | [], os, xs, env, env', σ, hl, s, f, r, h => by
    cases r with
    | nil => rw [setObs] at h; cases h; exact ⟨s, f, .refl⟩
    | cons _ _ _ _ => rw [setObs] at h; cases h; all_goals simp
  | i :: is, os, xs, env, env', σ, hl, s, f, r, h => by
    cases r with
    | nil => rw [setObs] at h; cases h; all_goals simp
    | @cons o x os xs r fs d t =>
      rw [setObs] at h
      rw [setVs]
      have hown : ∀ a, Own (env.set i (some o)) (σ.set i (some x)) a → Own env σ a ∨ (o.mut = true ∧ x = .ref a) := fun a => own_putO s.len
      have s2 : StOk G (env.set i (some o)) (σ.set i (some x)) Fz H := s.putO r fun m => by
        obtain ⟨a, e, _, q⟩ := fs m
        exact ⟨a, e, q⟩
      have f2 : FrO O (Own (env.set i (some o)) (σ.set i (some x))) Fz0 H0 Fz H := ⟨f.hh, f.dm, f.ff, f.nw, fun a h => by
        rcases hown a h with h | ⟨m, e⟩
        · exact f.ow a h
        · obtain ⟨b, eb, hb, _⟩ := fs m
          rw [e] at eb; cases eb
          exact .inr hb⟩
      have t2 : Rows G (env.set i (some o)) (σ.set i (some x)) Fz H H0 os xs := by
        clear h
        induction t with
        | nil => exact .nil
        | @cons o' x' os' xs' r' fs' d' t' ih =>
          refine .cons r' (fun m => ?_) d' (ih fun a m e h => d a m e ?_)
          · obtain ⟨b, eb, hb, nb⟩ := fs' m
            refine ⟨b, eb, hb, fun z => ?_⟩
            rcases hown b z with z | ⟨m2, e2⟩
            · exact nb z
            · exact d b m2 e2 ⟨0, o', rfl, m, by rw [eb]; rfl⟩
          · obtain ⟨j, p, h1, h2, h3⟩ := h
            exact ⟨j + 1, p, by simpa using h1, h2, by simpa using h3⟩
      obtain ⟨a1, a2, a3⟩ := row_fr (fun j hj => hl j (List.mem_cons_of_mem _ hj)) s2 f2 t2 h
      exact ⟨a1, a2, (Lk.set (hl i List.mem_cons_self)).trans a3⟩
theorem setObs_len : ∀ {is : List Nat} {os : List Ob} {env env' : En}, setObs env is os = some env' → os.length = is.length
  | [], [], _, _, _ => rfl
  | [], _ :: _, _, _, h => by rw [setObs] at h; cases h; all_goals simp
  | _ :: _, [], _, _, h => by rw [setObs] at h; cases h; all_goals simp
  | _ :: is, _ :: os, _, _, h => by
    rw [setObs] at h
    rw [List.length_cons, List.length_cons, setObs_len h]
theorem Rows.length {env : En} {σ : St} {Fz H H0 : Hp} : ∀ {os : List Ob} {xs : List V}, Rows G env σ Fz H H0 os xs → xs.length = os.length
  | _, _, .nil => rfl
  | _, _, .cons _ _ _ t => by rw [List.length_cons, List.length_cons, Rows.length t]
theorem par_tS {is : List Nat} {es : IEs} {D : Ends} {σ : St} {H : Hp} (h : tS G cf lk cn W (.par is es) D σ H) : is.Nodup ∧ tOs G cf lk cn W es σ H fun xs H1 => xs.length = is.length ∧ D.nx (setVs σ is xs) H1 := by
  obtain ⟨env, Fz, s, p⟩ := h
  rw [evS] at p
  split at p
  · rename_i hf
    obtain ⟨hf, hn⟩ := and2 hf
    refine ⟨of_decide_eq_true hn, env, Fz, s, ?_⟩
    refine p.expr.mono fun os env1 Fz1 H1 s1 f1 q xs rs => ?_
    cases e : setObs env1 is os with
    | none => rw [e] at q; exact q.elim
    | some env2 =>
      rw [e] at q
      have q : PostS G lk cn W env σ Fz H (.ok .nx env2) D := q
      obtain ⟨a1, a2, a3⟩ := row_fr (lk := lk) (by simpa using hf) s1 f1 rs e
      exact ⟨rs.length.trans (setObs_len e), q _ _ _ a1 a2 a3⟩
  · exact p.elim

theorem sw2 {x y : Str} {px py pt : Pos} {a b : Expr} {kt k2 : Nat} {pt2 : Pos} {env : Env} (hk : env.blockKind = .function) (hx : env.kindOf x = some .local) (hy : env.kindOf y = some .local) (hl : (py.line == px.line) = true) (hne : (x == y) = false)
    (h1 : notStar a = true) (h2 : notStar b = true) (hf : [a, b].all (foldedForSure 8) = false) (hc : [a, b].all (constantsAlone 8) = false) :
    swappedStores [.Tuple [.Name x px, .Name y py] kt pt] (.Tuple [a, b] k2 pt2) env = pure (some [x, y]) := by
  have hne' : (y == x) = false := by
    rw [beq_eq_false_iff_ne] at hne ⊢
    exact fun e => hne e.symm
  unfold swappedStores
  simp only [hk, hf, hc, hx, hy, hl]
  simp [List.filterMap, hx, hy, hl, Expr.pos, List.eraseDups, List.eraseDupsBy, List.eraseDupsBy.loop, hne, hne']
  intro h
  rcases h with h | h
  · cases a <;> first | (cases h1; done) | (cases h; done)
  · cases b <;> first | (cases h2; done) | (cases h; done)
theorem sw3 {x y z : Str} {px py pz pt : Pos} {a b c : Expr} {kt k2 : Nat} {pt2 : Pos} {env : Env} (hk : env.blockKind = .function) (hx : env.kindOf x = some .local) (hy : env.kindOf y = some .local) (hz : env.kindOf z = some .local) (hl : (py.line == px.line) = true) (hl2 : (pz.line == px.line) = true)
    (n1 : (x == y) = false) (n2 : (x == z) = false) (n3 : (y == z) = false)
    (h1 : notStar a = true) (h2 : notStar b = true) (h3 : notStar c = true) (hf : [a, b, c].all (foldedForSure 8) = false) (hc : [a, b, c].all (constantsAlone 8) = false) :
    swappedStores [.Tuple [.Name x px, .Name y py, .Name z pz] kt pt] (.Tuple [a, b, c] k2 pt2) env = pure (some [x, y, z]) := by
  have m1 : (y == x) = false := by
    rw [beq_eq_false_iff_ne] at n1 ⊢
    exact fun e => n1 e.symm
  have m2 : (z == x) = false := by
    rw [beq_eq_false_iff_ne] at n2 ⊢
    exact fun e => n2 e.symm
  have m3 : (z == y) = false := by
    rw [beq_eq_false_iff_ne] at n3 ⊢
    exact fun e => n3 e.symm
  unfold swappedStores
  simp only [hk, hf, hc, hx, hy, hz, hl]
  simp [List.filterMap, hx, hy, hz, hl, hl2, Expr.pos, List.eraseDups, List.eraseDupsBy, List.eraseDupsBy.loop, n1, n2, n3, m1, m2, m3]
  intro h
  rcases h with h | h | h
  · cases a <;> first | (cases h1; done) | (cases h; done)
  · cases b <;> first | (cases h2; done) | (cases h; done)
  · cases c <;> first | (cases h3; done) | (cases h; done)
/-- no change of places -/
def notLoc (sc : Scope) : Expr → Bool
  | .Name n _ => !(sc.names.lookup n == some .local)
  | _ => false
def swNo (sc : Scope) (ts : List Expr) : Expr → Bool
  | .Tuple vs _ _ => (!(ts.length == 2 || ts.length == 3) || (vs.length != ts.length) || vs.all (foldedForSure 8)) || ts.any (notLoc sc)
  | _ => true
theorem not_of' {b : Bool} (h : (!b) = true) : b = false := by simpa using h
theorem fm_len {α β : Type} {f : α → Option β} : ∀ (l : List α), (l.filterMap f).length ≤ l.length ∧ ((∃ a ∈ l, f a = none) → (l.filterMap f).length < l.length)
  | [] => ⟨Nat.le_refl _, fun ⟨_, h, _⟩ => by cases h⟩
  | a :: l => by
    obtain ⟨h1, h2⟩ := fm_len (f := f) l
    rw [List.filterMap_cons]
    cases e : f a with
    | none =>
      simp only [List.length_cons]
      exact ⟨by omega, fun _ => by omega⟩
    | some b =>
      simp only [List.length_cons]
      refine ⟨by omega, fun ⟨c, hc, e2⟩ => ?_⟩
      rcases List.mem_cons.mp hc with q | q
      · rw [q, e] at e2; cases e2
      · have := h2 ⟨c, q, e2⟩
        omega
theorem swN {ts : List Expr} {v : Expr} {k : Nat} {p : Pos} {env : Env} (h : swNo env.scope ts v = true) : swappedStores [.Tuple ts k p] v env = pure none := by
  cases v <;> first | rfl | skip
  rename_i vs k2 p2
  unfold swNo at h
  rw [Bool.or_eq_true] at h
  unfold swappedStores
  rcases h with h | hany
  case inr =>
    rw [List.any_eq_true] at hany
    obtain ⟨t, ht, hn⟩ := hany
    have hlt := (fm_len (f := fun x => match x with
        | Expr.Name id pos => if (env.kindOf id == some NameKind.local && pos.line == (Option.map (fun x => x.pos.line) ts.head?).getD 0) = true then some id else none
        | x => none) ts).2 ⟨t, ht, by
          cases t <;> first | (cases hn; done) | skip
          rename_i n q
          have : (env.kindOf n == some NameKind.local) = false := by
            unfold notLoc at hn
            exact not_of' hn
          simp only [this, Bool.false_and, Bool.false_eq_true, if_false]⟩
    simp only
    split
    · rfl
    · split
      · rfl
      · split
        · rfl
        · rename_i hq
          exfalso
          apply hq
          rw [Bool.or_eq_true]
          left
          simp only [bne_iff_ne, ne_eq]
          intro hh
          exact absurd hh (Nat.ne_of_lt hlt)
  by_cases h1 : (!(ts.length == 2 || ts.length == 3) || vs.length != ts.length || env.blockKind != .function) = true
  · simp only [h1]; rfl
  · have hf : vs.all (foldedForSure 8) = true := by
      simp only [Bool.or_eq_true] at h h1
      rcases h with h | h
      · exact absurd (.inl h) h1
      · exact h
    have h1 : (!(ts.length == 2 || ts.length == 3) || vs.length != ts.length || env.blockKind != .function) = false := by simpa using h1
    simp only [h1, hf, if_true, ite_self, Bool.false_eq_true, if_false]
theorem Rows.ext {env : En} {σ : St} {Fz H H0 Fz' H' : Hp} (e : Ext Fz H Fz' H') : ∀ {os : List Ob} {xs : List V}, Rows G env σ Fz H H0 os xs → Rows G env σ Fz' H' H0 os xs
  | _, _, .nil => .nil
  | _, _, .cons r fs d t => .cons (by
      cases r with
      | v r => exact .v (r.mono e.ff)
      | ro a b => exact .ro (SqL.mono e.ff a) (b.mono e.ff)
      | ml a b c => exact .ml (e.hh _ _ a) (b.mono e.ff) (e.nw _ (ne_of_some a) c)
      | fn a => exact .fn a) fs d (Rows.ext e t)
theorem gTgs_set {Q : St → Hp → Prop} {H : Hp} : ∀ {is : List Nat} {xs : List V} {σ : St}, xs.length = is.length → Q (setVs σ is xs) H → gTgs is xs σ H Q
  | [], [], σ, _, q => ⟨rfl, q⟩
  | [], _ :: _, _, h, _ => by cases h
  | _ :: _, [], _, h, _ => by cases h
  | i :: is, x :: xs, σ, h, q => ⟨x, xs, rfl, gTgs_set (by simpa using h) q⟩
/-- names = values, one after another -/
theorem s_parT {ts es : List Expr} {is : List Nat} {irs : IEs} {k k2 : Nat} {p p2 pos : Pos} (c : Cok G cf cn X C W) (hl : is.length = ts.length) (ht : ((is.zip ts).all fun p => match p.2 with
    | .Name n _ => asB C n p.1
    | _ => false) = true) (hw : swNo X.env.scope ts (.Tuple es k2 p2) = true) (hsz : is.length ≤ lim) (ha : PA X es (tOs G cf lk cn W irs)) :
    PS X (.Assign [.Tuple ts k p] (.Tuple es k2 p2) pos) (tS G cf lk cn W (.par is irs)) := by
  obtain ⟨h1, h2⟩ := pgs_names c hl ht
  refine PS.imp (ps_asg (pe_tup ha) (pg_tup c.calm h1 (n := is.length) (by rw [asEach_len]; exact hl.symm) (asEach_no _ _ h2)) rfl (swN hw) rfl) fun D σ H ⟨env, Fz, s, p⟩ => ?_
  rw [evS] at p
  split at p
  · rename_i hf
    obtain ⟨hf, _⟩ := and2 hf
    refine ⟨env, Fz, s, p.expr.mono fun os env1 Fz1 H1 s1 f1 q xs rs => ?_⟩
    cases e : setObs env1 is os with
    | none => rw [e] at q; exact q.elim
    | some env2 =>
      rw [e] at q
      have q : PostS G lk cn W env σ Fz H (.ok .nx env2) D := q
      have hlen : xs.length = is.length := rs.length.trans (setObs_len e)
      refine ⟨by rw [hlen]; exact hsz, fun a ha => ?_⟩
      have ex : Ext Fz1 H1 Fz1 (upd H1 a (.tup xs)) := Ext.newL s1.sub ha
      obtain ⟨a1, a2, a3⟩ := row_fr (lk := lk) (by simpa using hf) (s1.ext ex) (f1.trans (.of_ext ex)) (rs.ext ex) e
      exact ⟨a, xs, rfl, SqT.of upd_same, hlen, gTgs_set hlen (q _ _ _ a1 a2 a3)⟩
  · exact p.elim
end
end Pv
-- PvStm3
set_option maxRecDepth 100000
namespace Pv
open PySem L2
section
variable {G : Gx} {cf : Nat → List Ob → CR} {lk : List Nat} {cn : Nat → Str} {X : Cx} {C : CI} {W : WX}
theorem s_whl {c : Expr} {b : List Stmt} {ic : IE} {ib : ISs} {pos : Pos} (hp : PassesOwn (model X.prog X.w) X.A X.env X.xe) (hc : PT X c (tT G cf lk cn W ic)) (hb : PSs X b (tSs G cf lk cn W ib)) : PS X (.While c b [] pos) (tS G cf lk cn W (.whl ic ib)) :=
  PS.imp (ps_while hp hc hb) fun D σ H ⟨env, Fz, s, p⟩ => by
    rw [evS] at p
    refine ⟨fun m σ' H' => ∃ env' Fz', StOk G env' σ' Fz' H' ∧ PostS G lk cn W env' σ' Fz' H' (whileN (fun env => evT cf lk ic env) (fun env => evSs cf lk ib env) m env') D, ⟨wfuel, env, Fz, s, p⟩, ?_⟩
    rintro m σ' H' ⟨env', Fz', s', p'⟩
    cases m with
    | zero => rw [whileN] at p'; exact p'.elim
    | succ m =>
      rw [whileN] at p'
      refine ⟨env', Fz', s', p'.expr.mono fun k env1 Fz1 H1 s1 f1 q => ?_⟩
      have q := q.shift f1 .refl
      cases k with
      | false => exact q σ' Fz1 H1 s1 .refl .refl
      | true =>
        simp only [if_true] at q ⊢
        refine ⟨_, fun σ2 H2 h => ⟨m, Nat.lt_succ_self m, h⟩, env1, Fz1, s1, ?_⟩
        cases e : evSs cf lk ib env1 with
        | ok fl env2 =>
          rw [e] at q
          cases fl with
          | nx => exact fun σ2 Fz2 H2 s2 f2 l2 => ⟨env2, Fz2, s2, PostS.shift f2 l2 q⟩
          | ct => exact fun σ2 Fz2 H2 s2 f2 l2 => ⟨env2, Fz2, s2, PostS.shift f2 l2 q⟩
          | bk => exact q
          | rt o => exact q
        | ex c as env2 => rw [e] at q; exact q
        | no => rw [e] at q; exact q
theorem free_tg {tg : List Nat ⊕ Nat} (h : freeTg lk tg = true) : ∀ i ∈ lk, i ∉ tgNames tg := fun i hi ht => by
  cases tg with
  | inr j =>
    have : i = j := by simpa [tgNames] using ht
    subst this
    have h : free lk i = true := h
    unfold free at h
    simp [hi] at h
  | inl is =>
    have ht : i ∈ is := ht
    have h : is.all (free lk) = true := h
    rw [List.all_eq_true] at h
    have := h i ht
    unfold free at this
    simp [hi] at this
theorem s_for {tg iter : Expr} {b : List Stmt} {it : IT} {itg : List Nat ⊕ Nat} {ib : ISs} {pos : Pos} (hK : X.K = G.K) (hp : PassesOwn (model X.prog X.w) X.A X.env X.xe) (hc : X.calm = true) (hi : PI X tg iter (tIt G cf lk cn W it)) (hg : PG X tg (gTg X.K itg)) (hb : PSs X b (tSs G cf lk cn W ib))
    (hs : notSet iter = true) : PS X (.For tg iter b [] pos) (tS G cf lk cn W (.for_ itg it ib)) := by
  refine PS.imp (ps_for hp hc hi hg hb (fun x => by cases iter <;> first | rfl | (cases hs))) fun D σ H ⟨env, Fz, s, p⟩ => ?_
  rw [evS] at p
  split at p
  · rename_i hfr
    refine ⟨env, Fz, s, p.expr.mono fun ds env1 Fz1 H1 s1 f1 q J w => ?_⟩
    have q := q.shift f1 .refl
    refine for_it w (fun i σ' H' => ∃ env' Fz', StOk G env' σ' Fz' H' ∧ Same Fz1 Fz' ∧ PostS G lk cn W env' σ' Fz' H' (forL (fun d env => match setTg env itg d with
      | some env => evSs cf lk ib env
      | none => .no) (ds.drop i) env') D) ⟨env1, Fz1, s1, .refl _, q⟩ (fun i σ' H' hi ⟨env', Fz', s', ss, _⟩ => fun a o h => s'.sub a o (ss a o h)) ?_ ?_
    · rintro i x σ' H' H2 hi ⟨env', Fz', s', ss, p'⟩ y
      obtain ⟨Fz3, e, d, hd, r⟩ := y Fz' ss s'.sub
      have s3 := s'.ext e
      rw [drop_cons hd, forL] at p'
      cases hset : setTg env' itg d with
      | none => rw [hset] at p'; exact p'.elim
      | some env2 =>
        rw [hset] at p'
        simp only at p'
        rw [hK]
        refine gTg_ok s3 r hset fun σ2 s2 ho hl hk => ⟨env2, Fz3, s2, ?_⟩
        have f2 : FrO (Own env' σ') (Own env2 σ2) Fz' H' Fz3 H2 := (FrO.of_ext e).trans (.same ho)
        have l2 : Lk lk σ' σ2 := ⟨hl, fun j hj => hk j (free_tg hfr j hj)⟩
        have p' := p'.shift f2 l2
        have ss3 : Same Fz1 Fz3 := fun a o h => e.ff a o (ss a o h)
        cases e4 : evSs cf lk ib env2 with
        | ok fl env3 =>
          rw [e4] at p'
          cases fl with
          | nx => exact fun σ4 Fz4 H4 s4 f4 l4 => ⟨env3, Fz4, s4, fun a o h => f4.ff a o (ss3 a o h), PostS.shift f4 l4 p'⟩
          | ct => exact fun σ4 Fz4 H4 s4 f4 l4 => ⟨env3, Fz4, s4, fun a o h => f4.ff a o (ss3 a o h), PostS.shift f4 l4 p'⟩
          | bk => exact p'
          | rt o => exact p'
        | ex c as env3 => rw [e4] at p'; exact p'
        | no => rw [e4] at p'; exact p'
    · rintro σ' H' ⟨env', Fz', s', ss, p'⟩
      rw [List.drop_length, forL] at p'
      exact p' σ' Fz' H' s' .refl .refl
  · exact p.elim

theorem ml_at {env : En} {i : Nat} (h : isMl env i = true) : ∃ xs, env[i]? = some (some (.ml xs)) := by
  unfold isMl at h
  split at h
  · rename_i xs e; exact ⟨xs, e⟩
  · cases h
theorem few_one {e : Expr} {cpos : Pos} {env : Env} (h : notStar e = true) : ((backTo cpos (starEach [e] env)).all (fun x => !x.1) && (backToKw cpos (keywordEach [] env)).all (fun x => x.1.isSome)
      && decide (([e] : List Expr).length + ([] : List Keyword).length + (if ([] : List Keyword).isEmpty then 0 else 1) < 30)) = true := by
  rw [star_cons h]
  rfl
theorem s_ap {n : Str} {i : Nat} {e : Expr} {ir : IE} {p apos cpos pos : Pos} (hv : PE X (.Name n p) (tVar i)) (he : PE X e (tE G cf lk cn W ir)) (hs : notStar e = true) (hl : (apos.endLine == cpos.line) = true) :
    PS X (.Expr (.Call (.Attribute (.Name n p) "append" apos) [e] [] cpos) pos) (tS G cf lk cn W (.ap i ir)) := by
  refine PS.imp (ps_expr (pe_bm PySem.F.plainAttrs_list PySem.F.slot_list_append PySem.F.type_list_append mt_append hv (pa_cons (fz_of he) pa_nil (star_cons hs)) rfl (few_one hs) hl (star_cons hs) rfl) rfl) fun D σ H ⟨env, Fz, s, p⟩ => ?_
  rw [evS] at p
  split at p
  · rename_i hm
    obtain ⟨xs0, h0⟩ := ml_at hm
    obtain ⟨v0, h1, h2⟩ := s.rep i _ h0
    cases h2 with
    | @ml a vs0 _ ha0 hr0 hf0 =>
      rw [← Rs.assoc] at p
      refine ⟨.ref a, h1, .inl ⟨rfl, _, SqL.of ha0⟩, env, Fz, s, ?_⟩
      refine PostE.mono (PostS.expr (r := evZ cf lk ir env) p) fun d env1 Fz1 H1 s1 f1 q x r => ?_
      split at q
      · rename_i xs ho
        split at q
        · rename_i hlen
          obtain ⟨v, e1, e2⟩ := s1.rep i _ ho
          rw [h1] at e1
          cases e1
          cases e2 with
          | @ml _ vs _ ha hr hf =>
            refine ⟨a, vs, x, rfl, rfl, ha, by rw [hr.length]; exact hlen, ?_⟩
            obtain ⟨s', f'⟩ := upL s1 ho h1 ha hf (hr.append (.one r))
            exact q σ _ _ s' (f1.trans f') .refl
        · exact q.elim
      · exact q.elim
  · exact p.elim
theorem s_ext {n : Str} {i : Nat} {e : Expr} {ir : IE} {p apos cpos pos : Pos} (hv : PE X (.Name n p) (tVar i)) (he : PE X e (tE G cf lk cn W ir)) (hs : notStar e = true) (hl : (apos.endLine == cpos.line) = true) :
    PS X (.Expr (.Call (.Attribute (.Name n p) "extend" apos) [e] [] cpos) pos) (tS G cf lk cn W (.ext i ir)) := by
  refine PS.imp (ps_expr (pe_bm PySem.F.plainAttrs_list PySem.F.slot_list_extend PySem.F.type_list_extend mt_extend hv (pa_cons he pa_nil (star_cons hs)) rfl (few_one hs) hl (star_cons hs) rfl) rfl) fun D σ H ⟨env, Fz, s, p⟩ => ?_
  rw [evS] at p
  split at p
  · rename_i hm
    obtain ⟨xs0, h0⟩ := ml_at hm
    obtain ⟨v0, h1, h2⟩ := s.rep i _ h0
    cases h2 with
    | @ml a vs0 _ ha0 hr0 hf0 =>
      refine ⟨.ref a, h1, .inl ⟨rfl, _, SqL.of ha0⟩, env, Fz, s, ?_⟩
      refine p.expr.mono fun o env1 Fz1 H1 s1 f1 q x r fs => ?_
      split at q
      · rename_i xs ys ho hv
        split at q
        · rename_i hlen
          obtain ⟨v, e1, e2⟩ := s1.rep i _ ho
          rw [h1] at e1
          cases e1
          cases e2 with
          | @ml _ vs _ ha hr hf =>
            obtain ⟨b, ws, rfl, hb, hrs⟩ := (r.view hv).list s1.sub
            refine ⟨a, b, vs, ws, rfl, rfl, ha, hb, by rw [hr.length, hrs.length]; exact hlen, ?_⟩
            obtain ⟨s', f'⟩ := upL s1 ho h1 ha hf (hr.append hrs)
            exact q σ _ _ s' (f1.trans f') .refl
        · exact q.elim
      · exact q.elim
  · exact p.elim
end
end Pv
-- PvStm4
set_option maxRecDepth 100000
namespace Pv
open PySem L2
def notComp : Expr → Bool
  | .ListComp _ _ _ _ => false
  | .SetComp _ _ _ _ => false
  | .DictComp _ _ _ _ _ => false
  | _ => true
section
variable {G : Gx} {cf : Nat → List Ob → CR} {lk : List Nat} {cn : Nat → Str} {X : Cx} {C : CI} {W : WX}
theorem sw_not {e : Expr} {t : Option Expr} {l : Nat} {env : Env} (h : notComp e = true) : swapsWith e t l env = pure false := by
  cases e <;> first | rfl | (cases h)
theorem sw_lc {elt : Expr} {gs : List Comprehension} {scope : Scope} {pos py : Pos} {y : Str} {l : Nat} {env : Env} : swapsWith (.ListComp elt gs scope pos) (some (.Name y py)) l env =
    pure (env.blockKind == .function && env.kindOf y == some .local && py.line == pos.line && !(scope.names.any fun (n, k) => n == y && (k == .local || k == .cell))) := rfl
theorem s_asg {z : Bool} {n : Str} {i : Nat} {e : Expr} {ir : IE} {p pos : Pos} (c : Cok G cf cn X C W) (ha : asB C n i = true) (hs : swapsWith e (some (.Name n p)) pos.line X.env = pure false) (he : PE X e (tE G cf lk cn W ir)) :
    PS X (.Assign [.Name n p] e pos) (tS G cf lk cn W (.asg z i ir)) := by
  obtain ⟨h1, h2, h3⟩ := c.as ha
  exact PS.imp (ps_set c.nd h1 h2 he hs h3) fun D σ H h => asg_tS h
theorem s_asgLc {z : Bool} {y : Str} {i : Nat} {own : List Nat} {tg : List Nat ⊕ Nat} {it : IT} {cond : IEs} {elt : IE} {el t iter : Expr} {ifs : List Expr} {scope : Scope} {py pos spos : Pos} {ow : List (Str × Nat)} (c : Cok G cf cn X C W) (ha : asB C y i = true)
    (hsw : swapsWith (.ListComp el [⟨t, iter, ifs, 0⟩] scope pos) (some (.Name y py)) spos.line X.env = pure true) (hyl : X.env.scope.names.lookup y = some .local) (h1 : ownB C own = some ow) (h2 : blkC C.N C.sc scope ow = true)
    (h3 : tgB (C.blk scope) tg t = true) (h4 : ∀ i ∈ tgNames tg, i ∈ own) (hs : notSet iter = true) (hi : PI X t iter (tIt G cf lk cn W it))
    (hc : ∀ X', Cok G cf cn X' (C.blk scope) WF → PTs X' ifs (tK G cf lk cn WF cond)) (he : ∀ X', Cok G cf cn X' (C.blk scope) WF → PE X' el (tE G cf lk cn WF elt)) :
    PS X (.Assign [.Name y py] (.ListComp el [⟨t, iter, ifs, 0⟩] scope pos) spos) (tS G cf lk cn W (.asg z i (.lc own tg it cond elt))) := by
  obtain ⟨q1, q2, q3⟩ := c.as ha
  have eo := ownB_ok h1
  have ok : BlkOk X.N X.env.scope scope ow := by rw [c.N, c.sc]; exact blkOk_by h2
  refine PS.imp (ps_setLc (g := gTg X.K tg) (tt := tK G cf lk cn WF cond) (te := tFz G cf lk cn WF elt) c.calm c.nd q1 hyl hsw hi ok (fun s H D cl fp => tg_snd (c.blk s H scope D cl fp) h3) (fun s H D cl fp => hc _ (c.blk s H scope D cl fp))
    (fun s H D cl fp => fz_of (he _ (c.blk s H scope D cl fp))) (fun x => ?_)) fun D σ H q => ?_
  · cases iter <;> first | rfl | (cases hs)
  · rw [eo]
    have q := asg_tS q
    exact lc_ok c.K h4 q
/-- x[i] = e -/
theorem s_sub {n : Str} {i : Nat} {e ix : Expr} {ir ii : IE} {p p2 pos : Pos} (hv : PE X (.Name n p) (tVar i)) (he : PE X e (tE G cf lk cn W ir)) (hi : PE X ix (tE G cf lk cn W ii)) (hs : notSlice ix = true) :
    PS X (.Assign [.Subscript (.Name n p) ix p2] e pos) (tS G cf lk cn W (.sub i ii ir)) := by
  refine PS.imp (ps_asg (fz_of he) (pg_sub hv hi set_list (fun v => ?_)) (by cases e <;> rfl) (by cases e <;> rfl)) fun D σ H ⟨env, Fz, s, p⟩ => ?_
  · cases ix <;> first | rfl | (cases hs)
  · rw [evS, ← Rs.assoc] at p
    refine ⟨env, Fz, s, (PostS.expr (r := evZ cf lk ir env) p).mono fun d env1 Fz1 H1 s1 f1 q x r => ?_⟩
    have q := q.shift f1 .refl
    split at q
    · rename_i hm
      obtain ⟨xs0, h0⟩ := ml_at hm
      obtain ⟨v0, h1, h2⟩ := s1.rep i _ h0
      cases h2 with
      | @ml a vs0 _ ha0 hr0 hf0 =>
        refine ⟨.ref a, h1, env1, Fz1, s1, q.expr.mono fun oi env2 Fz2 H2 s2 f2 q y ri fi => ?_⟩
        split at q
        · rename_i xs k ho
          split at q
          · rename_i j hj
            obtain ⟨v, e1, e2⟩ := s2.rep i _ ho
            rw [h1] at e1
            cases e1
            cases e2 with
            | @ml _ vs _ ha hr hf =>
              have hy : y = .int k := (ri.view rfl).int
              refine ⟨a, vs, k, j, rfl, hy, ha, by rw [hr.length]; exact hj, ?_⟩
              obtain ⟨s', f'⟩ := upL s2 ho h1 ha hf (hr.set (r.mono f2.ff) j)
              exact q σ _ _ s' (f2.trans f') .refl
          · exact q.elim
        · exact q.elim
    · exact q.elim
/-- x[ix] = a value, seen from the layer -/
theorem stI_ok {i : Nat} {ii : IE} {env : En} {σ : St} {Fz H : Hp} {d : PV} {x : V} {Q : St → Hp → Prop} (s : StOk G env σ Fz H) (r : RF G.K Fz x d) (p : PostE G cn W env σ Fz H (stI cf lk i ii d env) fun _ _ _ H' => Q σ H') :
    gSub (tVar i) (tE G cf lk cn W ii) rSetL x σ H Q := by
  unfold stI at p
  split at p
  · rename_i hm
    obtain ⟨xs0, h0⟩ := ml_at hm
    obtain ⟨v0, h1, h2⟩ := s.rep i _ h0
    cases h2 with
    | @ml a vs0 _ ha0 hr0 hf0 =>
      refine ⟨.ref a, h1, env, Fz, s, p.split.mono fun oi env2 Fz2 H2 s2 f2 q y ri fi => ?_⟩
      split at q
      · rename_i xs k ho
        split at q
        · rename_i j hj
          obtain ⟨v, e1, e2⟩ := s2.rep i _ ho
          rw [h1] at e1
          cases e1
          cases e2 with
          | @ml _ vs _ ha hr hf =>
            have hy : y = .int k := (ri.view rfl).int
            refine ⟨a, vs, k, j, rfl, hy, ha, by rw [hr.length]; exact hj, ?_⟩
            obtain ⟨s', f'⟩ := upL s2 ho h1 ha hf (hr.set (r.mono f2.ff) j)
            exact q _ _ s' f'
        · exact q.elim
      · exact q.elim
  · exact p.elim
theorem sw_sub {a b a2 b2 v : Expr} {k : Nat} {p p2 pt : Pos} {env : Env} : swappedStores [.Tuple [.Subscript a b p, .Subscript a2 b2 p2] k pt] v env = pure none := by
  cases v <;> first | rfl | skip
  unfold swappedStores
  simp
/-- x[i], x[j] = values -/
theorem s_swp {n : Str} {i : Nat} {a b x1 x2 : Expr} {e1 e2 i1 i2 : IE} {p1 p2 p3 p4 p5 p6 pos : Pos} {k k2 : Nat} (hc : X.calm = true) (hK : X.K = G.K) (hv1 : PE X (.Name n p1) (tVar i)) (hv2 : PE X (.Name n p2) (tVar i)) (ha : PA X [a, b] (tFs G cf lk cn W (.cons false e1 (.cons false e2 .nil)))) (h1 : PE X x1 (tE G cf lk cn W i1)) (h2 : PE X x2 (tE G cf lk cn W i2)) (hs1 : notSlice x1 = true) (hs2 : notSlice x2 = true) :
    PS X (.Assign [.Tuple [.Subscript (.Name n p1) x1 p3, .Subscript (.Name n p2) x2 p4] k p5] (.Tuple [a, b] k2 p6) pos) (tS G cf lk cn W (.swp i i1 i2 e1 e2)) := by
  refine PS.imp (ps_asg (pe_tup ha) (pg_tup hc (pgs_cons (pg_sub hv1 h1 set_list (fun v => ?_)) (pgs_cons (pg_sub hv2 h2 set_list (fun v => ?_)) pgs_nil))) rfl sw_sub) fun D σ H ⟨env, Fz, s, p⟩ => ?_
  · cases x1 <;> first | rfl | (cases hs1)
  · cases x2 <;> first | rfl | (cases hs2)
  · rw [evS] at p
    refine ⟨env, Fz, s, (PostS.expr p).mono fun ds env1 Fz1 H1 s1 f1 q xs rs => ?_⟩
    split at q
    · rename_i d1 d2
      cases rs with
      | cons r1 rs =>
        cases rs with
        | cons r2 rs =>
          cases rs
          rename_i v1 v2
          refine ⟨by rw [sizeLine_eq]; simp, fun q0 hq0 => ?_⟩
          have ex : Ext Fz1 H1 Fz1 (upd H1 q0 (.tup [v1, v2])) := Ext.newL s1.sub hq0
          refine ⟨q0, [v1, v2], rfl, SqT.of upd_same, rfl, v1, [v2], rfl, ?_⟩
          have s1' := s1.ext ex
          have q := q.shift (f1.trans (.of_ext ex)) .refl
          refine stI_ok s1' r1 ((PostS.expr q).split.mono fun _ env2 Fz2 H2 s2 f2 q => ⟨v2, [], rfl, ?_⟩)
          refine stI_ok s2 (r2.mono f2.ff) (q.mono fun _ env3 Fz3 H3 s3 f3 q => ⟨rfl, ?_⟩)
          exact q σ Fz3 H3 s3 (f2.trans f3) .refl
    · exact q.elim
/-- names = a tuple -/
theorem s_unp {es : List Expr} {e : Expr} {is : List Nat} {ir : IE} {k : Nat} {p pos : Pos} (hc : X.calm = true) (c : Cok G cf cn X C W) (hl : is.length = es.length) (ht : ((is.zip es).all fun p => match p.2 with
    | .Name n _ => asB C n p.1
    | _ => false) = true) (hw : swNo X.env.scope es e = true) (he : PE X e (tE G cf lk cn W ir)) :
    PS X (.Assign [.Tuple es k p] e pos) (tS G cf lk cn W (.unp is ir)) := by
  obtain ⟨h1, h2⟩ := pgs_names c hl ht
  refine PS.imp (ps_asg he (pg_tup c.calm h1 (n := is.length) (by rw [asEach_len]; exact hl.symm) (asEach_no _ _ h2)) (by cases e <;> rfl) (swN hw) rfl) fun D σ H ⟨env, Fz, s, p⟩ => ?_
  rw [evS] at p
  split at p
  · rename_i hf
    refine ⟨env, Fz, s, p.expr.mono fun o env1 Fz1 H1 s1 f1 q v r fs => ?_⟩
    have q := q.shift f1 .refl
    split at q
    · rename_i ds _
      cases e1 : setTgs env1 is ds with
      | none => rw [e1] at q; exact q.elim
      | some env2 =>
        rw [e1] at q
        cases r with
        | v r =>
          show gTup X.K is.length (gTgs is) v σ H1 D.nx
          rw [c.K]
          refine gTg_ok (tg := .inl is) (d := .tuple ds) s1 r e1 fun σ' s' ho hl' hk => ?_
          exact q σ' Fz1 H1 s' (.same ho) ⟨hl', fun j hj => hk j fun hin => free_tg (tg := .inl is) hf j hj hin⟩
    · exact q.elim
  · exact p.elim
/-- names = values, side by side -/
theorem s_par2 {x y : Str} {i j : Nat} {a b : Expr} {es : IEs} {px py pt pt2 pos : Pos} {kt k2 : Nat} (c : Cok G cf cn X C W) (hk : X.env.blockKind = .function) (hi : X.N[i]? = some x) (hj : X.N[j]? = some y) (hx : X.env.scope.names.lookup x = some .local) (hy : X.env.scope.names.lookup y = some .local)
    (hl : (py.line == px.line) = true) (hne : (x == y) = false) (h1 : notStar a = true) (h2 : notStar b = true) (hf : [a, b].all (foldedForSure 8) = false) (hc : [a, b].all (constantsAlone 8) = false) (ha : PA X [a, b] (tOs G cf lk cn W es)) :
    PS X (.Assign [.Tuple [.Name x px, .Name y py] kt pt] (.Tuple [a, b] k2 pt2) pos) (tS G cf lk cn W (.par [i, j] es)) := by
  have hij : i ≠ j := fun e => by
    subst e
    rw [hi] at hj
    cases hj
    simp at hne
  refine PS.imp (ps_par c.calm c.nd hi hj hij hx hy ha (sw2 hk hx hy hl hne h1 h2 hf hc) rfl) fun D σ H h => ?_
  obtain ⟨env, Fz, s, p⟩ := (par_tS h).2
  refine ⟨env, Fz, s, p.mono fun os env1 Fz1 H1 s1 f1 q xs r => ?_⟩
  obtain ⟨h1, h2⟩ := q xs r
  match xs, h1 with
  | [v, w], _ => exact ⟨v, w, rfl, h2⟩
theorem s_par3 {x y z : Str} {i j l : Nat} {a b d : Expr} {es : IEs} {px py pz pt pt2 pos : Pos} {kt k2 : Nat} (c : Cok G cf cn X C W) (hk : X.env.blockKind = .function) (hi : X.N[i]? = some x) (hj : X.N[j]? = some y) (hz : X.N[l]? = some z) (hx : X.env.scope.names.lookup x = some .local) (hy : X.env.scope.names.lookup y = some .local) (hzl : X.env.scope.names.lookup z = some .local)
    (hl : (py.line == px.line) = true) (hl2 : (pz.line == px.line) = true) (n1 : (x == y) = false) (n2 : (x == z) = false) (n3 : (y == z) = false) (h1 : notStar a = true) (h2 : notStar b = true) (h3 : notStar d = true) (hf : [a, b, d].all (foldedForSure 8) = false) (hc : [a, b, d].all (constantsAlone 8) = false) (ha : PA X [a, b, d] (tOs G cf lk cn W es)) :
    PS X (.Assign [.Tuple [.Name x px, .Name y py, .Name z pz] kt pt] (.Tuple [a, b, d] k2 pt2) pos) (tS G cf lk cn W (.par [i, j, l] es)) := by
  have ne : ∀ {i j : Nat} {x y : Str}, X.N[i]? = some x → X.N[j]? = some y → (x == y) = false → i ≠ j := fun hi hj hne e => by
    subst e
    rw [hi] at hj
    cases hj
    simp at hne
  refine PS.imp (ps_par3 c.calm c.nd hi hj hz (ne hi hj n1) (ne hi hz n2) (ne hj hz n3) hx hy hzl ha (sw3 hk hx hy hzl hl hl2 n1 n2 n3 h1 h2 h3 hf hc) rfl) fun D σ H h => ?_
  obtain ⟨env, Fz, s, p⟩ := (par_tS h).2
  refine ⟨env, Fz, s, p.mono fun os env1 Fz1 H1 s1 f1 q xs r => ?_⟩
  obtain ⟨h1, h2⟩ := q xs r
  match xs, h1 with
  | [u, v, w], _ => exact ⟨u, v, w, rfl, h2⟩
end
end Pv
-- PvSchk
set_option maxRecDepth 100000
set_option maxHeartbeats 4000000
namespace Pv
open PySem L2
def fnK (C : CI) : Bool := match C.sc.kind with
  | .function => true
  | _ => false
def locB (C : CI) (n : Str) : Bool := decide (C.sc.names.lookup n = some .local)
def nAt (C : CI) (n : Str) (i : Nat) : Bool := decide (C.N[i]? = some n) && locB C n
def swB (C : CI) (n : Str) (p p2 : Pos) (scope : Scope) : Bool := locB C n && (p.line == p2.line) && !(scope.names.any fun (m, k) => m == n && (k == .local || k == .cell))
def isLcE : IE → Bool
  | .lc _ _ _ _ _ => true
  | _ => false

def mPT (C : CI) (is : List Nat) (irs : IEs) (st : Stmt) : Bool := match st with
  | .Assign [.Tuple ts _ _] (.Tuple es k p) _ => ((is.length == ts.length) && decide (is.length ≤ 10)) && (((is.zip ts).all fun p => match p.2 with
    | .Name n _ => asB C n p.1
    | _ => false) && (swNo C.sc ts (.Tuple es k p) && mEs C irs es))
  | _ => false
mutual
def mS (C : CI) : IS → Stmt → Bool
  | .asg _ i e, st => (match st with
    | .Assign [.Name n p] v _ => (asB C n i && fnK C) && (match v with
      | .ListComp _ _ scope p2 => (isLcE e || !swB C n p p2 scope) && mE C e v
      | v => notComp v && mE C e v)
    | _ => false)
  | .par is es, st => mPT C is es st || (match st with
    | .Assign [.Tuple [.Name x px, .Name y py] _ _] (.Tuple [a, b] _ _) _ => (match is with
      | [i, j] => (fnK C && nAt C x i && nAt C y j && (py.line == px.line) && !(x == y)) && ((notStar a && notStar b && ![a, b].all (foldedForSure 8) && ![a, b].all (constantsAlone 8)) && mEs C es [a, b])
      | _ => false)
    | .Assign [.Tuple [.Name x px, .Name y py, .Name z pz] _ _] (.Tuple [a, b, c] _ _) _ => (match is with
      | [i, j, l] => (fnK C && nAt C x i && nAt C y j && nAt C z l && (py.line == px.line) && (pz.line == px.line) && !(x == y) && !(x == z) && !(y == z)) && ((notStar a && notStar b && notStar c && ![a, b, c].all (foldedForSure 8) && ![a, b, c].all (constantsAlone 8)) && mEs C es [a, b, c])
      | _ => false)
    | _ => false)
  | .unp is e, st => (match st with
    | .Assign [.Tuple es _ _] v _ => (is.length == es.length) && (((is.zip es).all fun p => match p.2 with
      | .Name n _ => asB C n p.1
      | _ => false) && (swNo C.sc es v && mE C e v))
    | _ => false)
  | .sub i ix e, st => (match st with
    | .Assign [.Subscript (.Name n _) x _] v _ => (visB C n i && notSlice x) && (mE C ix x && mE C e v)
    | _ => false)
  | .swp i i1 i2 e1 e2, st => (match st with
    | .Assign [.Tuple [.Subscript (.Name n _) x1 _, .Subscript (.Name m _) x2 _] _ _] (.Tuple [a, b] _ _) _ => ((visB C n i && decide (m = n)) && (notSlice x1 && notSlice x2)) && ((mE C i1 x1 && mE C i2 x2) && mEs C (.cons false e1 (.cons false e2 .nil)) [a, b])
    | _ => false)
  | .ap i e, st => (match st with
    | .Expr (.Call (.Attribute (.Name n _) m apos) [x] [] cpos) _ => ((m == ("append" : Str)) && visB C n i && notStar x && (apos.endLine == cpos.line)) && mE C e x
    | _ => false)
  | .ext i e, st => (match st with
    | .Expr (.Call (.Attribute (.Name n _) m apos) [x] [] cpos) _ => ((m == ("extend" : Str)) && visB C n i && notStar x && (apos.endLine == cpos.line)) && mE C e x
    | _ => false)
  | .ex e, st => (match st with
    | .Expr x _ => notComp x && mE C e x
    | _ => false)
  | .ret e, st => (match st with
    | .Return (some x) _ => mE C e x
    | _ => false)
  | .retn, st => (match st with
    | .Return none _ => true
    | _ => false)
  | .ite c a b, st => (match st with
    | .If x p q _ => mE C c x && (mSs C a p && mSs C b q)
    | _ => false)
  | .whl c b, st => (match st with
    | .While x p [] _ => mE C c x && mSs C b p
    | _ => false)
  | .for_ tg it b, st => (match st with
    | .For t iter p [] _ => (notSet iter && tgB C tg t) && (mIt C it t iter && mSs C b p)
    | _ => false)
  | .raise _ _, _ => false
  | .brk, st => (match st with
    | .Break _ => true
    | _ => false)
  | .cnt, st => (match st with
    | .Continue _ => true
    | _ => false)
  | .pass, st => (match st with
    | .Pass _ => true
    | .Expr (.Constant (.str _) _ _) _ => true
    | _ => false)
  | .never, _ => true
def mSs (C : CI) : ISs → List Stmt → Bool
  | .nil, sts => sts.isEmpty
  | .cons s r, sts => (match sts with
    | st :: sts => mS C s st && mSs C r sts
    | [] => false)
end

section
variable {G : Gx} {cf : Nat → List Ob → CR} {lk : List Nat} {cn : Nat → Str} {X : Cx} {C : CI} {W : WX}
theorem Cok.blockF (c : Cok G cf cn X C W) (h : fnK C = true) : X.env.blockKind = .function := by
  have : C.sc.kind = .function := by
    unfold fnK at h
    split at h
    · assumption
    · cases h
  unfold Env.blockKind
  rw [c.sc, this]
  rfl
def condB (C : CI) (cond : IEs) (ifs : List Expr) : Bool := match cond with
  | .nil => ifs.isEmpty
  | .cons _ c .nil => (match ifs with
    | [x] => mE C c x
    | _ => false)
  | _ => false
theorem mE_lc {own : List Nat} {tg : List Nat ⊕ Nat} {it : IT} {cond : IEs} {elt : IE} {el : Expr} {gs : List Comprehension} {scope : Scope} {pos : Pos} (h : mE C (.lc own tg it cond elt) (.ListComp el gs scope pos) = true) :
    ∃ t iter ifs ow, gs = [⟨t, iter, ifs, 0⟩] ∧ ownB C own = some ow ∧ blkC C.N C.sc scope ow = true ∧ tgB (C.blk scope) tg t = true ∧ (∀ i ∈ tgNames tg, i ∈ own) ∧ notSet iter = true ∧ mIt C it t iter = true ∧
      condB (C.blk scope) cond ifs = true ∧ mE (C.blk scope) elt el = true := by
  rw [mE.eq_def] at h
  simp only at h
  split at h
  · rename_i el' t iter ifs scope' pos' heq
    cases heq
    split at h
    · rename_i ow how
      obtain ⟨h0, h⟩ := and2 h
      obtain ⟨hb, h0⟩ := and2 h0
      obtain ⟨ht, ho⟩ := and2 h0
      obtain ⟨hs, h⟩ := and2 h
      obtain ⟨hi, h⟩ := and2 h
      obtain ⟨hc, he⟩ := and2 h
      refine ⟨t, iter, ifs, ow, rfl, how, hb, ht, ?_, hs, hi, ?hc, he⟩
      case hc =>
        cases cond with
        | nil => exact hc
        | cons _ c r => cases r <;> exact hc
      intro i hi
      cases tg with
      | inr j =>
        have : i = j := by simpa [tgNames] using hi
        subst this
        simpa using ho
      | inl is =>
        have hi : i ∈ is := hi
        have ho : is.all own.contains = true := ho
        rw [List.all_eq_true] at ho
        simpa using ho i hi
    · cases h
  · cases h
theorem cond_ok (lk : List Nat) {cond : IEs} {ifs : List Expr} {scope : Scope} (hc : condB (C.blk scope) cond ifs = true) (X' : Cx) (c' : Cok G cf cn X' (C.blk scope) WF) : PTs X' ifs (tK G cf lk cn WF cond) := by
  cases cond with
  | nil =>
    have hc : List.isEmpty _ = true := hc
    rw [List.isEmpty_iff] at hc
    subst hc
    refine ⟨fun pins s σ H Q I hw => pts_nil.run pins s σ H Q I ?_⟩
    obtain ⟨env, Fz, st, p⟩ := hw
    rw [evK] at p
    exact p.ok st
  | cons io k r =>
    cases r with
    | cons _ _ _ => cases hc
    | nil =>
      unfold condB at hc
      simp only at hc
      split at hc
      · refine ⟨fun pins s σ H Q I hw => (pts_one (mE_ok (lk := lk) k c' _ hc).pt).run pins s σ H Q I ?_⟩
        obtain ⟨env, Fz, st, p⟩ := hw
        rw [evK] at p
        exact ⟨env, Fz, st, p⟩
      · cases hc
theorem asg_snd {z : Bool} {n : Str} {i : Nat} {v : Expr} {e : IE} {p pos : Pos} (c : Cok G cf cn X C W) (ha : asB C n i = true) (hk : fnK C = true) (h : (match v with
      | .ListComp _ _ scope p2 => (isLcE e || !swB C n p p2 scope) && mE C e v
      | v => notComp v && mE C e v) = true) : PS X (.Assign [.Name n p] v pos) (tS G cf lk cn W (.asg z i e)) := by
  split at h
  · rename_i v el gs scope p2
    obtain ⟨h1, h2⟩ := and2 h
    have hb := c.blockF hk
    by_cases hs : swB C n p p2 scope = true
    · cases e <;> first | (exfalso; simp [isLcE, hs] at h1; done) | skip
      obtain ⟨t, iter, ifs, ow, rfl, g1, g2, g3, g4, g5, g6, g7, g8⟩ := mE_lc h2
      unfold swB at hs
      obtain ⟨q1, q2⟩ := and2 hs
      obtain ⟨q1, q3⟩ := and2 q1
      have hl : X.env.scope.names.lookup n = some .local := by rw [c.sc]; exact of_decide_eq_true q1
      refine s_asgLc c ha ?_ hl g1 g2 g3 g4 g5 (mIt_ok _ c _ _ g6) (cond_ok lk g7) fun X' c' => (mE_ok _ c' _ g8).pe
      rw [sw_lc, hb, show X.env.kindOf n = some .local from hl, q3, q2]
      rfl
    · refine s_asg c ha ?_ (mE_ok e c _ h2).pe
      rw [sw_lc, hb]
      congr 1
      have hs : swB C n p p2 scope = false := by simpa using hs
      unfold swB locB at hs
      show ((ScopeKind.function == ScopeKind.function) && (X.env.scope.names.lookup n == some .local) && (p.line == p2.line) && _) = false
      rw [c.sc]
      by_cases hl : C.sc.names.lookup n = some .local
      · rw [hl] at hs ⊢
        simpa using hs
      · have : (C.sc.names.lookup n == some NameKind.local) = false := by simpa using hl
        rw [this]; rfl
  · obtain ⟨h1, h2⟩ := and2 h
    exact s_asg c ha (sw_not h1) (mE_ok e c _ h2).pe
theorem os_ok : ∀ {irs : IEs} {es : List Expr} (c : Cok G cf cn X C W), mEs C irs es = true → PA X es (tOs G cf lk cn W irs)
  | .nil, es, c, h => by
    rw [mEs] at h
    cases es with
    | nil => exact os_nil
    | cons e r => cases h
  | .cons io a r, [], c, h => by rw [mEs] at h; cases h
  | .cons io a r, e :: es, c, h => by
    rw [mEs] at h
    obtain ⟨h1, h2⟩ := and2 h
    obtain ⟨h3, h4⟩ := and2 h1
    exact os_cons (mE_ok a c e h4).pe (os_ok c h2) (star_cons h3)
theorem Cok.nat (c : Cok G cf cn X C W) {n : Str} {i : Nat} (h : nAt C n i = true) : X.N[i]? = some n ∧ X.env.scope.names.lookup n = some .local := by
  obtain ⟨h1, h2⟩ := and2 h
  exact ⟨by rw [c.N]; exact of_decide_eq_true h1, by rw [c.sc]; exact of_decide_eq_true h2⟩
theorem not_of {b : Bool} (h : (!b) = true) : b = false := by simpa using h
theorem par_snd {is : List Nat} {es : IEs} {st : Stmt} (c : Cok G cf cn X C W) (h : mS C (.par is es) st = true) : PS X st (tS G cf lk cn W (.par is es)) := by
  rw [mS.eq_def] at h
  simp only at h
  rw [Bool.or_eq_true] at h
  rcases h with h | h
  case inl =>
    unfold mPT at h
    split at h
    · obtain ⟨h1, h2⟩ := and2 h
      obtain ⟨h1, h3⟩ := and2 h1
      obtain ⟨h2, h4⟩ := and2 h2
      obtain ⟨h4, h5⟩ := and2 h4
      refine s_parT c (by simpa using h1) h2 (by rw [c.sc]; exact h4) ?_ (os_ok c h5)
      have := of_decide_eq_true h3
      have e : lim = 2 ^ 24 := by unfold lim; exact sizeLine_eq
      omega
    · cases h
  split at h
  · split at h
    · obtain ⟨h1, h2⟩ := and2 h
      obtain ⟨h2, h3⟩ := and2 h2
      obtain ⟨h1, a1⟩ := and2 h1
      obtain ⟨h1, a2⟩ := and2 h1
      obtain ⟨h1, a3⟩ := and2 h1
      obtain ⟨h1, a4⟩ := and2 h1
      obtain ⟨h2, b1⟩ := and2 h2
      obtain ⟨h2, b2⟩ := and2 h2
      obtain ⟨h2, b3⟩ := and2 h2
      obtain ⟨n1, n2⟩ := c.nat a4
      obtain ⟨n3, n4⟩ := c.nat a3
      exact s_par2 c (c.blockF h1) n1 n3 n2 n4 a2 (not_of a1) h2 b3 (not_of b2) (not_of b1) (os_ok c h3)
    · cases h
  · split at h
    · obtain ⟨h1, h2⟩ := and2 h
      obtain ⟨h2, h3⟩ := and2 h2
      obtain ⟨h1, a1⟩ := and2 h1
      obtain ⟨h1, a2⟩ := and2 h1
      obtain ⟨h1, a3⟩ := and2 h1
      obtain ⟨h1, a4⟩ := and2 h1
      obtain ⟨h1, a5⟩ := and2 h1
      obtain ⟨h1, a6⟩ := and2 h1
      obtain ⟨h1, a7⟩ := and2 h1
      obtain ⟨h1, a8⟩ := and2 h1
      obtain ⟨h2, b1⟩ := and2 h2
      obtain ⟨h2, b2⟩ := and2 h2
      obtain ⟨h2, b3⟩ := and2 h2
      obtain ⟨h2, b4⟩ := and2 h2
      obtain ⟨n1, n2⟩ := c.nat a8
      obtain ⟨n3, n4⟩ := c.nat a7
      obtain ⟨n5, n6⟩ := c.nat a6
      exact s_par3 c (c.blockF h1) n1 n3 n5 n2 n4 n6 a5 a4 (not_of a3) (not_of a2) (not_of a1) h2 b4 b3 (not_of b2) (not_of b1) (os_ok c h3)
    · cases h
  · cases h

mutual
theorem mS_ok (hp : PassesOwn (model X.prog X.w) X.A X.env X.xe) (ir : IS) (c : Cok G cf cn X C W) (st : Stmt) (h : mS C ir st = true) : PS X st (tS G cf lk cn W ir) := by
  cases ir with
  | asg z i e =>
    rw [mS.eq_def] at h
    simp only at h
    split at h
    · obtain ⟨h1, h2⟩ := and2 h
      obtain ⟨h1, h3⟩ := and2 h1
      exact asg_snd c h1 h3 h2
    · cases h
  | par is es => exact par_snd c h
  | unp is e =>
    rw [mS.eq_def] at h
    simp only at h
    split at h
    · obtain ⟨h1, h2⟩ := and2 h
      obtain ⟨h2, h3⟩ := and2 h2
      obtain ⟨h3, h4⟩ := and2 h3
      exact s_unp c.calm c (by simpa using h1) h2 (by rw [c.sc]; exact h3) (mE_ok e c _ h4).pe
    · cases h
  | sub i ix e =>
    rw [mS.eq_def] at h
    simp only at h
    split at h
    · obtain ⟨h1, h2⟩ := and2 h
      obtain ⟨h1, h3⟩ := and2 h1
      obtain ⟨h4, h5⟩ := and2 h2
      exact s_sub (c.var h1) (mE_ok e c _ h5).pe (mE_ok ix c _ h4).pe h3
    · cases h
  | swp i i1 i2 e1 e2 =>
    rw [mS.eq_def] at h
    simp only at h
    split at h
    · obtain ⟨h1, h2⟩ := and2 h
      obtain ⟨h1, h3⟩ := and2 h1
      obtain ⟨h1, h4⟩ := and2 h1
      obtain ⟨h5, h6⟩ := and2 h3
      obtain ⟨h2, h7⟩ := and2 h2
      obtain ⟨h8, h9⟩ := and2 h2
      have h4 := of_decide_eq_true h4
      subst h4
      exact s_swp c.calm c.K (c.var h1) (c.var h1) (mEs_ok _ c _ h7).2 (mE_ok i1 c _ h8).pe (mE_ok i2 c _ h9).pe h5 h6
    · cases h
  | ap i e =>
    rw [mS.eq_def] at h
    simp only at h
    split at h
    · obtain ⟨h1, h2⟩ := and2 h
      obtain ⟨h1, h3⟩ := and2 h1
      obtain ⟨h1, h4⟩ := and2 h1
      obtain ⟨h1, h5⟩ := and2 h1
      have h1 := blt_const h1
      subst h1
      exact s_ap (c.var h5) (mE_ok e c _ h2).pe h4 h3
    · cases h
  | ext i e =>
    rw [mS.eq_def] at h
    simp only at h
    split at h
    · obtain ⟨h1, h2⟩ := and2 h
      obtain ⟨h1, h3⟩ := and2 h1
      obtain ⟨h1, h4⟩ := and2 h1
      obtain ⟨h1, h5⟩ := and2 h1
      have h1 := blt_const h1
      subst h1
      exact s_ext (c.var h5) (mE_ok e c _ h2).pe h4 h3
    · cases h
  | ex e =>
    rw [mS.eq_def] at h
    simp only at h
    split at h
    · obtain ⟨h1, h2⟩ := and2 h
      exact s_ex (mE_ok e c _ h2).pe (sw_not h1)
    · cases h
  | ret e =>
    rw [mS.eq_def] at h
    simp only at h
    split at h
    · cases hx : e.isX with
      | none => exact s_ret (mE_ok e c _ h).pe hx
      | some i =>
        cases e <;> first | (cases hx; done) | skip
        rw [mE.eq_def] at h
        simp only at h
        split at h
        · exact s_retX (c.var h)
        · cases h
    · cases h
  | retn =>
    rw [mS.eq_def] at h
    simp only at h
    split at h
    · exact s_retn
    · cases h
  | ite k a b =>
    rw [mS.eq_def] at h
    simp only at h
    split at h
    · obtain ⟨h1, h2⟩ := and2 h
      obtain ⟨h2, h3⟩ := and2 h2
      exact s_ite (mE_ok k c _ h1).pt (mSs_ok hp a c _ h2) (mSs_ok hp b c _ h3)
    · cases h
  | whl k b =>
    rw [mS.eq_def] at h
    simp only at h
    split at h
    · obtain ⟨h1, h2⟩ := and2 h
      exact s_whl hp (mE_ok k c _ h1).pt (mSs_ok hp b c _ h2)
    · cases h
  | for_ tg it b =>
    rw [mS.eq_def] at h
    simp only at h
    split at h
    · obtain ⟨h1, h2⟩ := and2 h
      obtain ⟨h1, h3⟩ := and2 h1
      obtain ⟨h2, h4⟩ := and2 h2
      exact s_for c.K hp c.calm (mIt_ok it c _ _ h2) (tg_snd c h3) (mSs_ok hp b c _ h4) h1
    · cases h
  | raise k es => rw [mS.eq_def] at h; cases h
  | brk =>
    rw [mS.eq_def] at h
    simp only at h
    split at h
    · exact s_brk
    · cases h
  | cnt =>
    rw [mS.eq_def] at h
    simp only at h
    split at h
    · exact s_cnt
    · cases h
  | pass =>
    rw [mS.eq_def] at h
    simp only at h
    split at h
    · exact s_pass
    · refine PS.imp ps_doc fun D σ H ⟨env, Fz, s, p⟩ => ?_
      rw [evS] at p
      exact p σ Fz H s .refl .refl
    · cases h
  | never => exact s_never
theorem mSs_ok (hp : PassesOwn (model X.prog X.w) X.A X.env X.xe) (ir : ISs) (c : Cok G cf cn X C W) (st : List Stmt) (h : mSs C ir st = true) : PSs X st (tSs G cf lk cn W ir) := by
  cases ir with
  | nil =>
    rw [mSs] at h
    cases st with
    | nil => exact ss_nil
    | cons e r => cases h
  | cons s r =>
    cases st with
    | nil => rw [mSs] at h; cases h
    | cons e es =>
      rw [mSs] at h
      obtain ⟨h1, h2⟩ := and2 h
      exact ss_cons (mS_ok hp s c e h1) (mSs_ok hp r c es h2)
end
end
end Pv
-- PvFn
set_option maxRecDepth 100000
namespace Pv
open PySem L2

theorem fm_congr {α β : Type} {f g : α → Option β} : ∀ {l : List α}, (∀ a ∈ l, f a = g a) → l.filterMap f = l.filterMap g
  | [], _ => rfl
  | a :: l, h => by
    rw [List.filterMap_cons, List.filterMap_cons, h a List.mem_cons_self, fm_congr fun b hb => h b (List.mem_cons_of_mem _ hb)]
theorem lookup_zip {α : Type} : ∀ {ps : List Str} {us : List α}, ps.Nodup → us.length = ps.length → (ps.filterMap fun n => ((ps.zip us).lookup n).map (n, ·)) = ps.zip us ∧ (ps.filter fun n => ((ps.zip us).lookup n).isNone) = []
  | [], us, _, h => by
    have : us = [] := List.length_eq_zero_iff.mp h
    subst this
    exact ⟨rfl, rfl⟩
  | p :: ps, [], _, h => by cases h
  | p :: ps, u :: us, nd, h => by
    obtain ⟨h1, h2⟩ := List.nodup_cons.mp nd
    obtain ⟨i1, i2⟩ := lookup_zip h2 (us := us) (by simpa using h)
    have ne : ∀ n ∈ ps, (n == p) = false := fun n hn => by
      rw [beq_eq_false_iff_ne]
      exact fun e => h1 (e ▸ hn)
    constructor
    · rw [List.zip_cons_cons, List.filterMap_cons]
      simp only [List.lookup_cons, beq_self_eq_true, Option.map_some]
      congr 1
      exact (fm_congr fun n hn => by rw [ne n hn]).trans i1
    · rw [List.zip_cons_cons, List.filter_cons]
      simp only [List.lookup_cons, beq_self_eq_true, Option.isNone_some, Bool.false_eq_true, if_false]
      rw [← i2]
      refine List.filter_congr fun n hn => ?_
      rw [ne n hn]
theorem binds_plain {x qual : Str} {p : Arguments} {body : List Stmt} {scope : Scope} {kV doc pm cdv ct : Value} {an : Option Addr} {us : List Value} (hp : plainArgs p = true) (nd : (p.args.map (·.arg)).Nodup) (hl : us.length = (p.args.map (·.arg)).length) :
    bindArgs (PySem.W.fnOf x qual p body scope .none kV doc pm an cdv ct) ⟨us, []⟩ = pure ((p.args.map (·.arg)).zip us) := by
  obtain ⟨a1, a2, a3, a4, a5, a6, a7⟩ := p
  unfold plainArgs at hp
  split at hp
  · rename_i heq
    cases heq
    obtain ⟨l1, l2⟩ := lookup_zip nd hl
    simp only at l1 l2 hl ⊢
    unfold bindArgs
    simp only [PySem.W.fnOf, List.map_nil, List.nil_append, List.append_nil, List.forIn_nil, hl, gt_iff_lt, Nat.lt_irrefl]
    rw [show seqItems? Value.none = pure none from rfl]
    simp only [pure_bind, Option.getD_none, List.length_nil, List.drop_nil, Nat.sub_zero, List.take_length, l1, l2, List.isEmpty_nil, List.zip_nil_right, List.forIn_nil, decide_false, Bool.false_and, Bool.not_true, Bool.false_eq_true, if_false]
  · cases hp

theorem start_get {N : List Str} {vs : List V} {i : Nat} {v : V} (h : (L2.start N vs)[i]? = some (some v)) : vs[i]? = some v := by
  unfold L2.start at h
  by_cases hi : i < vs.length
  · rw [List.getElem?_append_left (by simpa using hi), List.getElem?_map] at h
    cases e : vs[i]? with
    | none => rw [e] at h; cases h
    | some a => rw [e] at h; cases h; rfl
  · rw [List.getElem?_append_right (by simpa using hi), List.getElem?_replicate] at h
    split at h <;> cases h
theorem start_of {N : List Str} {vs : List V} {i : Nat} {v : V} (h : vs[i]? = some v) : (L2.start N vs)[i]? = some (some v) := by
  have hi : i < vs.length := (List.getElem?_eq_some_iff.mp h).1
  unfold L2.start
  rw [List.getElem?_append_left (by simpa using hi), List.getElem?_map, h]
  rfl
theorem env_get {obs : List Ob} {n i : Nat} {o : Ob} (h : (obs.map some ++ List.replicate n none)[i]? = some (some o)) : obs[i]? = some o := by
  by_cases hi : i < obs.length
  · rw [List.getElem?_append_left (by simpa using hi), List.getElem?_map] at h
    cases e : obs[i]? with
    | none => rw [e] at h; cases h
    | some a => rw [e] at h; cases h; rfl
  · rw [List.getElem?_append_right (by simpa using hi), List.getElem?_replicate] at h
    split at h <;> cases h
theorem env_of {obs : List Ob} {n i : Nat} {o : Ob} (h : obs[i]? = some o) : (obs.map some ++ List.replicate n none)[i]? = some (some o) := by
  have hi : i < obs.length := (List.getElem?_eq_some_iff.mp h).1
  rw [List.getElem?_append_left (by simpa using hi), List.getElem?_map, h]
  rfl
section
variable {G : Gx}
theorem own_start {obs : List Ob} {N : List Str} {vs : List V} {n : Nat} {a : Addr} : Own (obs.map some ++ List.replicate n none) (L2.start N vs) a ↔ OwnA obs vs a :=
  ⟨fun ⟨i, o, h1, h2, h3⟩ => ⟨i, o, env_get h1, h2, start_get h3⟩, fun ⟨i, o, h1, h2, h3⟩ => ⟨i, o, env_of h1, h2, start_of h3⟩⟩
theorem paired_get {α β : Type} {R : α → β → Prop} : ∀ {xs : List α} {ys : List β}, Paired R xs ys → ∀ {i : Nat} {y : β}, ys[i]? = some y → ∃ x, xs[i]? = some x ∧ R x y
  | _, _, .nil, i, y, h => by simp at h
  | _, _, .cons r t, 0, y, h => by simp at h; subst h; exact ⟨_, rfl, r⟩
  | _, _, .cons r t, i + 1, y, h => by
    obtain ⟨x, h1, h2⟩ := paired_get t (i := i) (by simpa using h)
    exact ⟨x, by simpa using h1, h2⟩
theorem outs_ok {Fz' H' : Hp} {env' : En} {σ' : St} {io : List Nat} (s' : StOk G env' σ' Fz' H') : ∀ {obs : List Ob} {vs : List V} {i : Nat} {outs : List Ob}, vs.length = obs.length → ioOk io i obs = true →
    (∀ (j : Nat) (v : V), io.contains (i + j) = true → vs[j]? = some v → σ'[i + j]? = some (some v)) →
    outsOf env' ((List.range' i obs.length).filter fun j => io.contains j) = some outs → Outs G Fz' H' obs vs outs
  | [], [], i, outs, _, _, _, h => by
    simp [outsOf] at h
    exact h
  | [], _ :: _, _, _, h, _, _, _ => by cases h
  | _ :: _, [], _, _, h, _, _, _ => by cases h
  | o :: os, v :: vs, i, outs, hl, hi, hs, h => by
    rw [ioOk] at hi
    obtain ⟨h1, h2⟩ := and2 hi
    have h1 : o.mut = io.contains i := by simpa using h1
    rw [Outs_cons]
    have hs2 : ∀ (j : Nat) (w : V), io.contains (i + 1 + j) = true → vs[j]? = some w → σ'[i + 1 + j]? = some (some w) := fun j w hj hw => by
      have := hs (j + 1) w (by rw [show i + (j + 1) = i + 1 + j by omega]; exact hj) (by simpa using hw)
      rwa [show i + (j + 1) = i + 1 + j by omega] at this
    rw [List.length_cons, List.range'_succ, List.filter_cons] at h
    by_cases hm : o.mut = true
    · rw [if_pos hm]
      rw [if_pos (h1 ▸ hm), outsOf] at h
      split at h
      · rename_i out outs' e1 e2
        cases h
        have e3 := hs 0 v (by rw [Nat.add_zero, ← h1]; exact hm) rfl
        rw [Nat.add_zero] at e3
        obtain ⟨w, w1, w2⟩ := s'.rep i out e1
        rw [e3] at w1
        cases w1
        exact ⟨out, outs', rfl, w2, outs_ok s' (by simpa using hl) h2 hs2 e2⟩
      · cases h
    · rw [if_neg hm]
      rw [if_neg (by rw [← h1]; exact hm)] at h
      exact outs_ok s' (by simpa using hl) h2 hs2 h
theorem outs_mut {env' : En} : ∀ {l : List Nat} {outs : List Ob}, outsOf env' l = some outs → outs.all Ob.mut = true → ∀ j ∈ l, ∃ out, env'[j]? = some (some out) ∧ out.mut = true
  | [], _, _, _, j, hj => by cases hj
  | i :: l, outs, h, hm, j, hj => by
    rw [outsOf] at h
    split at h
    · rename_i out outs' e1 e2
      cases h
      rw [List.all_cons] at hm
      obtain ⟨m1, m2⟩ := and2 hm
      rcases List.mem_cons.mp hj with e | hj
      · subst e; exact ⟨out, e1, m1⟩
      · exact outs_mut e2 m2 j hj
    · cases h
theorem io_at {io : List Nat} : ∀ {obs : List Ob} {i j : Nat} {o : Ob}, ioOk io i obs = true → obs[j]? = some o → o.mut = io.contains (i + j)
  | [], _, _, _, _, h => by simp at h
  | o :: os, i, 0, o', hi, h => by
    rw [ioOk] at hi
    simp at h
    subst h
    simpa using (and2 hi).1
  | o :: os, i, j + 1, o', hi, h => by
    rw [ioOk] at hi
    have := io_at (j := j) (and2 hi).2 (by simpa using h)
    rwa [show i + 1 + j = i + (j + 1) by omega] at this
def ioB (d : FD) : Bool := decide (d.io = (List.range' 0 d.np).filter fun j => d.io.contains j)
/-- the body's promise, from the call's -/
theorem body_post {cn : Nat → Str} {cf : Nat → List Ob → CR} {Fz H : Hp} {obs : List Ob} {vs : List V} {N : List Str} {d : FD} {Q : VK} {E : XK} (hio : ioB d = true) (hns : d.ns = N.length) (hlen : vs.length = obs.length) (sub : Same Fz H)
    (rp : Paired (fun (x : V) (o : Ob) => RO G Fz H o x) vs obs)
    (ap : ∀ (i j : Nat) (a : Addr) (oi oj : Ob), i ≠ j → obs[i]? = some oi → obs[j]? = some oj → oi.mut = true → oj.mut = true → vs[i]? = some (.ref a) → vs[j]? = some (.ref a) → False) (hle : d.np ≤ d.ns)
    (p : CallPost G cn Fz H obs vs (if obs.length == d.np && ioOk d.io 0 obs then (match evSs cf d.io d.body (obs.map some ++ List.replicate (d.ns - d.np) none) with
      | .ok fl env => (match outsOf env d.io, fl with
        | some outs, .nx => if outs.all Ob.mut then .ret (.v .none) outs else .no
        | some outs, .rt o => if outs.all Ob.mut then .ret o outs else .no
        | _, _ => .no)
      | .ex c as _ => .exc c as
      | .no => .no) else .no) Q E) :
    tSs G cf d.io cn (fun cls d _ H' => E cls d H') d.body { nx := fun _ H' => Q .non H', rt := Q } (L2.start N vs) H := by
  split at p
  · rename_i hc
    obtain ⟨c1, c2⟩ := and2 hc
    have c1 : obs.length = d.np := by simpa using c1
    have hio : d.io = (List.range' 0 obs.length).filter fun j => d.io.contains j := by rw [c1]; exact of_decide_eq_true hio
    have s : StOk G (obs.map some ++ List.replicate (d.ns - d.np) none) (L2.start N vs) Fz H := by
      refine ⟨?_, sub, fun i o h => ?_, fun i j a oi oj hne h1 h2 m1 m2 e1 e2 => ap i j a oi oj hne (env_get h1) (env_get h2) m1 m2 (start_get e1) (start_get e2)⟩
      · unfold L2.start
        rw [List.length_append, List.length_map, List.length_replicate, List.length_append, List.length_map, List.length_replicate, hns, ← c1, hlen]
      · obtain ⟨v, h1, h2⟩ := paired_get rp (env_get h)
        exact ⟨v, start_of h1, h2⟩
    refine ⟨_, Fz, s, ?_⟩
    have own : ∀ a, Own (obs.map some ++ List.replicate (d.ns - d.np) none) (L2.start N vs) a ↔ OwnA obs vs a := fun a => own_start
    generalize obs.map some ++ List.replicate (d.ns - d.np) none = env0 at p s own ⊢
    have fr : ∀ {O : Addr → Prop} {Fz' H' : Hp}, FrO (Own env0 (L2.start N vs)) O Fz H Fz' H' → FrO (OwnA obs vs) (OwnA obs vs) Fz H Fz' H' := fun f =>
      ⟨fun a o h n => f.hh a o h fun z => n ((own a).mp z), f.dm, f.ff, fun a h n z => f.nw a h (fun y => n ((own a).mp y)) z, fun a h => .inl h⟩
    have outs : ∀ {env' : En} {σ' : St} {Fz' H' : Hp} {os : List Ob}, StOk G env' σ' Fz' H' → Lk d.io (L2.start N vs) σ' → outsOf env' d.io = some os → Outs G Fz' H' obs vs os := fun {env' σ' Fz' H' os} s' l h => by
      rw [hio] at h
      refine outs_ok s' hlen c2 (fun j v hj hv => ?_) h
      have hj : d.io.contains (0 + j) = true := hj
      rw [l.2 (0 + j) (by simpa using hj)]
      rw [Nat.zero_add]
      exact start_of hv
    cases e : evSs cf d.io d.body env0 with
    | no => rw [e] at p; exact p
    | ex c as env' =>
      rw [e] at p
      exact fun cls dd σ' Fz' H' s' f l x => p cls dd Fz' H' s'.sub (fr f) x
    | ok fl env' =>
      rw [e] at p
      simp only at p
      cases eo : outsOf env' d.io with
      | none =>
        rw [eo] at p
        cases fl <;> exact p.elim
      | some os =>
        rw [eo] at p
        cases fl with
        | bk => exact p.elim
        | ct => exact p.elim
        | nx =>
          simp only at p
          split at p
          · rename_i hm
            exact fun σ' Fz' H' s' f l => p .non Fz' H' s'.sub (.v .non) (outs s' l eo) (fr f) fun m => by cases m
          · exact p.elim
        | rt o =>
          simp only at p
          split at p
          · rename_i hm
            intro v σ' Fz' H' s' f l r m
            refine p v Fz' H' s'.sub r (outs s' l eo) (fr f) fun q => ?_
            obtain ⟨a, h1, h2, h3⟩ := m q
            refine ⟨a, h1, h3.resolve_left fun z => ?_⟩
            obtain ⟨j, oj, z1, z2, z3⟩ := (own a).mp z
            have hj : d.io.contains j = true := by
              have := io_at c2 z1
              rw [Nat.zero_add] at this
              rw [← this]; exact z2
            have hj : j ∈ d.io := by simpa using hj
            obtain ⟨out, w1, w2⟩ := outs_mut eo hm j hj
            exact h2 ⟨j, out, w1, w2, by rw [l.2 j hj]; exact start_of z3⟩
          · exact p.elim
  · exact p.elim
end
end Pv
-- PvTab
set_option maxRecDepth 100000
namespace Pv
open PySem L2

structure Ent where
  at_ : Str
  name : Str
  params : Arguments
  body : List Stmt
  scope : Scope
  N : List Str
  fd : FD
def Ent.ps (E : Ent) : List Str := E.params.args.map (·.arg)
def Ent.d (E : Ent) : He.DefD := ⟨(E.at_, none), E.name, E.name, E.params, E.body, E.scope, [], []⟩
structure Tab where
  ents : List Ent
  cI : List (Str × Int)
  cS : List (Str × Str)
  bt : List Str
def Tab.nm (T : Tab) : List Str := T.ents.map (·.at_)
def Tab.gc (T : Tab) : List (Str × PV) := T.cI.map (fun p => (p.1, .int p.2)) ++ T.cS.map (fun p => (p.1, .str p.2))
def Tab.fa (T : Tab) : List He.Fa := T.nm.map .glo ++ (T.cI.map (fun p => .int p.1 p.2) ++ (T.cS.map (fun p => .str p.1 p.2) ++ T.bt.map .free))
def Tab.fns (T : Tab) : List He.DefD := T.ents.map Ent.d
def Tab.fd (T : Tab) (f : Nat) : Option FD := (T.ents[f]?).map (·.fd)
def scB (N ps : List Str) (sc : Scope) : Bool := (match sc.kind with
  | .function => true
  | _ => false) && !sc.isCoroutine && !sc.isGenerator && decide N.Nodup && decide (N.take ps.length = ps) && (ps.all fun x => isLoc (sc.names.lookup x)) && sc.names.all fun y => decide (y.2 ≠ .free)
theorem scB_ok {N ps : List Str} {sc : Scope} (h : scB N ps sc = true) : FnScope N ps sc := by
  unfold scB at h
  obtain ⟨h, h7⟩ := and2 h
  obtain ⟨h, h6⟩ := and2 h
  obtain ⟨h, h5⟩ := and2 h
  obtain ⟨h, h4⟩ := and2 h
  obtain ⟨h, h3⟩ := and2 h
  obtain ⟨h1, h2⟩ := and2 h
  refine ⟨?_, not_of h2, not_of h3, of_decide_eq_true h4, of_decide_eq_true h5, fun x hx => ?_, fun y hy => ?_⟩
  · split at h1
    · assumption
    · cases h1
  · rw [List.all_eq_true] at h6
    exact loc_of (h6 x hx)
  · rw [List.all_eq_true] at h7
    exact of_decide_eq_true (h7 y hy)
def Tab.ci (T : Tab) (E : Ent) : CI := { N := E.N, sc := E.scope, asc := E.scope, nm := T.nm, gc := T.gc, bt := T.bt, ex := [], kp := T.ents.map Ent.ps }
def entB (T : Tab) (E : Ent) : Bool := (plainArgs E.params && scB E.N E.ps E.scope && (E.fd.np == E.ps.length) && (E.fd.ns == E.N.length) && ioB E.fd) && mSs (T.ci E) E.fd.body E.body
def Tab.ok (T : Tab) : Bool := (T.cS.all fun p => PyData.strOk p.2) && T.ents.all (entB T)
def Tab.gx (T : Tab) (K : PySem.W.Frag) (mg : Str → Option Value) : Gx := ⟨K, mg, fun f => (T.nm[f]?).getD Str.empty⟩

section
variable {P : Program} {w : World} {K : PySem.W.Frag} {mg : Str → Option Value} {base h : Heap} {T : Tab} {cn : Nat → Str}
theorem SaysD_mem {fa : List He.Fa} {fn : List He.DefD} (c : He.SaysD fa fn K) {f : He.Fa} (hf : f ∈ fa) : f.ok K = true := by
  obtain ⟨i, hi⟩ := List.getElem?_of_mem hf
  exact c.fact i hi
theorem lookup_mem {β : Type} : ∀ {l : List (Str × β)} {n : Str} {d : β}, l.lookup n = some d → (n, d) ∈ l
  | [], _, _, h => by cases h
  | (m, e) :: l, n, d, h => by
    rw [List.lookup_cons] at h
    by_cases q : (n == m) = true
    · rw [q] at h
      cases h
      have : n = m := by simpa using q
      rw [this]
      exact List.mem_cons_self
    · have q : (n == m) = false := by simpa using q
      rw [q] at h
      exact List.mem_cons_of_mem _ (lookup_mem h)
/-- what the head tells of a def -/
def Says (T : Tab) (K : PySem.W.Frag) (f : Nat) (E : Ent) (fd : FuncData) : Prop := FunD K E.name E.name E.params E.body E.scope [] [] (He.fAd K (E.at_, none)) fd
theorem says_at (c : He.SaysD T.fa T.fns K) (f : Nat) (E : Ent) (h : T.ents[f]? = some E) : ∃ fd, Says T K f E fd := by
  have : T.fns[f]? = some E.d := by
    unfold Tab.fns
    rw [List.getElem?_map, h]
    rfl
  exact c.def_ f this
theorem binds_at {f : Nat} {E : Ent} {fd : FuncData} (hok : entB T E = true) (F : Says T K f E fd) : Binds K fd E.ps [] := by
  unfold entB at hok
  obtain ⟨h1, _⟩ := and2 hok
  obtain ⟨h1, _⟩ := and2 h1
  obtain ⟨h1, _⟩ := and2 h1
  obtain ⟨h1, h2⟩ := and2 h1
  obtain ⟨h1, h3⟩ := and2 h1
  refine F.bindsN fun kV doc pm an cdv ct us hl => binds_plain h1 ?_ hl
  have S := scB_ok h3
  have := S.nd.sublist (List.take_sublist E.ps.length E.N)
  rw [S.pre] at this
  exact this
theorem kwb_at {f : Nat} {E : Ent} {fd : FuncData} (hok : entB T E = true) (F : Says T K f E fd) : KwB K fd E.ps := by
  unfold entB at hok
  obtain ⟨h1, _⟩ := and2 hok
  obtain ⟨h1, _⟩ := and2 h1
  obtain ⟨h1, _⟩ := and2 h1
  obtain ⟨h1, h2⟩ := and2 h1
  obtain ⟨h1, h3⟩ := and2 h1
  obtain ⟨oc, od, dV, kV, doc, pm, an, cdv, ct, osl, rfl, lk, hcd, hD, hK⟩ := F.ex
  rcases hD with ⟨_, rfl⟩ | ⟨e, _⟩
  · exact fun s kw nd h1' h2' => .of_eq (binds_kw h1 nd h1' h2')
  · exact absurd rfl e
theorem nm_at {f : Nat} {n : Str} (h : T.nm[f]? = some n) : ∃ E, T.ents[f]? = some E ∧ E.at_ = n := by
  unfold Tab.nm at h
  rw [List.getElem?_map, Option.map_eq_some_iff] at h
  exact h
theorem ent_mem {f : Nat} {E : Ent} (h : T.ents[f]? = some E) : E ∈ T.ents := List.mem_of_getElem? h
theorem runF_len {T : Nat → Option FD} {k f : Nat} {d : FD} (h : T f = some d) : ∀ obs, runF T k f obs ≠ .no → obs.length = d.np := fun obs hn => by
  cases k with
  | zero => exact absurd rfl hn
  | succ k =>
    rw [runF, h] at hn
    by_cases q : obs.length = d.np
    · exact q
    · exfalso
      apply hn
      have : (obs.length == d.np) = false := by simpa using q
      simp only [this, Bool.false_and, Bool.false_eq_true, if_false]
/-- every def of the table keeps its promise, at every level -/
theorem tab_ok (X : K.In h) (Gn : h.Ns mainGlobals mg) (c : He.SaysD T.fa T.fns K) (ok : T.ok = true) (fdO : Nat → FuncData) (hfd : ∀ f E, T.ents[f]? = some E → Says T K f E (fdO f)) :
    ∀ (k f : Nat) (E : Ent), T.ents[f]? = some E → FnOk P w K mg base (L2.CX P w) k (He.fAd K (E.at_, none)) (fdO f) E.ps (spF (T.gx K mg) (runF T.fd k) cn E.ps.length f)
  | 0, f, E, hE => ⟨fun vs H Q E' q => q.1, fun A outer s H args us vs Q E' hr e0 hb hv q => by
      obtain ⟨_, Fz, obs, _, _, _, p⟩ := q
      rw [runF] at p
      exact p.elim⟩
  | k + 1, f, E, hE => by
    unfold Tab.ok at ok
    obtain ⟨okS, okE⟩ := and2 ok
    rw [List.all_eq_true] at okE okS
    have hE' := okE E (ent_mem hE)
    have hE2 := hE'
    unfold entB at hE2
    obtain ⟨h1, hm⟩ := and2 hE2
    obtain ⟨h1, hio⟩ := and2 h1
    obtain ⟨h1, hns⟩ := and2 h1
    obtain ⟨h1, hnp⟩ := and2 h1
    obtain ⟨h1, hsc⟩ := and2 h1
    have hnp : E.fd.np = E.ps.length := by simpa using hnp
    have hns : E.fd.ns = E.N.length := by simpa using hns
    have S := scB_ok hsc
    refine (hfd f E hE).ok S (fun vs H Q E' q => q.1) fun cdv A outer s H vs Q E' hr q => ?_
    obtain ⟨hl, Fz, obs, sub, rp, ap, p⟩ := q
    refine ⟨tSs (T.gx K mg) (runF T.fd k) E.fd.io cn (fun cls d _ H' => E' cls d H') E.fd.body, ?_, ?_⟩
    · have ck : Cok (T.gx K mg) (runF T.fd k) cn (cxOf (L2.CX P w) P w K mg base E.N E.name E.scope (He.fAd K (E.at_, none)) cdv A outer s H E') (T.ci E) (fun cls d _ H' => E' cls d H') := by
        refine ⟨rfl, rfl, rfl, S.nd, rfl, rfl, fun g n hn => ?_, takes_of rfl rfl rfl rfl, ⟨k, hr⟩, fun x hx => ⟨hx, .inl rfl⟩, fun n d hd => ?_, fun n hn => ?_, fun g n hn => ?_⟩
        · have hn : T.nm[g]? = some n := hn
          show (T.nm[g]?).getD Str.empty = n
          rw [hn]; rfl
        · have hd := lookup_mem hd
          rcases List.mem_append.mp hd with hd | hd
          · obtain ⟨q, hq, e⟩ := List.mem_map.mp hd
            cases e
            have := SaysD_mem c (f := .int q.1 q.2) (List.mem_append_right _ (List.mem_append_left _ (List.mem_map.mpr ⟨q, hq, rfl⟩)))
            obtain ⟨t, ht⟩ := He.int_ok X Gn this
            exact ⟨_, .int q.2, ht, ⟨t, rfl⟩, fun _ => .int _⟩
          · obtain ⟨q, hq, e⟩ := List.mem_map.mp hd
            cases e
            have := SaysD_mem c (f := .str q.1 q.2) (List.mem_append_right _ (List.mem_append_right _ (List.mem_append_left _ (List.mem_map.mpr ⟨q, hq, rfl⟩))))
            obtain ⟨t, ht⟩ := He.str_ok X Gn this
            exact ⟨_, .str q.2, ht, ⟨t, rfl⟩, fun _ => .str (okS q hq)⟩
        · exact He.free_ok X Gn (SaysD_mem c (f := .free n) (List.mem_append_right _ (List.mem_append_right _ (List.mem_append_right _ (List.mem_map.mpr ⟨n, hn, rfl⟩)))))
        · obtain ⟨E2, hE2, rfl⟩ := nm_at hn
          have hg : mg E2.at_ = some (.ref (He.ga K E2.at_)) := He.glo_ok X Gn (SaysD_mem c (f := .glo E2.at_) (List.mem_append_left _ (List.mem_map.mpr ⟨E2.at_, List.mem_of_getElem? hn, rfl⟩)))
          have hE3 := okE E2 (ent_mem hE2)
          refine ⟨He.ga K E2.at_, k, fdO g, E2.ps, ⟨by show (T.ents.map Ent.ps)[g]? = _; rw [List.getElem?_map, hE2]; rfl, kwb_at hE3 (hfd g E2 hE2)⟩, hg, hr, (hfd g E2 hE2).kp, binds_at hE3 (hfd g E2 hE2), tab_ok X Gn c ok fdO hfd k g E2 hE2, ?_⟩
          have : E2.fd.np = E2.ps.length := by
            unfold entB at hE3
            obtain ⟨h1, _⟩ := and2 hE3
            obtain ⟨h1, _⟩ := and2 h1
            obtain ⟨h1, _⟩ := and2 h1
            obtain ⟨_, h1⟩ := and2 h1
            simpa using h1
          rw [← this]
          refine runF_len ?_
          unfold Tab.fd
          rw [hE2]; rfl
      exact mSs_ok (passes_of rfl) E.fd.body ck E.body hm
    · have hTf : T.fd f = some E.fd := by
        unfold Tab.fd
        rw [hE]; rfl
      rw [runF, hTf] at p
      refine body_post hio hns (paired_flip rp) sub rp ap ?_ p
      rw [hnp, hns]
      have := congrArg List.length S.pre
      rw [List.length_take] at this
      omega
end
end Pv
-- PvLaw
set_option maxRecDepth 100000
namespace Pv
open PySem L2
/-- what a call may let out, in some world -/
def CXany (P : Program) : CXT := fun outer H s E u s' => ∃ w, L2.CX P w outer H s E u s'
theorem CXany_no (P : Program) : ∀ (H : Hp) (s : Shared) (e : Value) (s' : Shared), CXany P [] H s (fun _ _ _ => False) e s' → False := fun H s e s' ⟨w, a, B, H', cls, d, _, _, _, _, _, _, _, z⟩ => z
theorem fnok_any {P : Program} {w : World} {K : PySem.W.Frag} {mg : Str → Option Value} {base : Heap} {k : Nat} {f : Addr} {fd : FuncData} {ps : List Str} {sp : Sp} (F : FnOk P w K mg base (L2.CX P w) k f fd ps sp) : FnOk P w K mg base (CXany P) k f fd ps sp :=
  ⟨F.len, fun A outer s H args us vs Q E hr e0 hb hv q => codeAny_mono (F.run A outer s H args us vs Q E hr e0 hb hv q) fun r s' h => by
    cases r with
    | error e => exact ⟨w, h⟩
    | ok fl => cases fl <;> exact h⟩
theorem law_F {P : Program} {T : Tab} {n fi k : Nat} {E : Ent} {x : Str} (ok : T.ok = true) (hE : T.ents[fi]? = some E) (hps : E.ps = [x])
    (hlaw : ∀ ns : List Int, ns.length ≤ n → runF T.fd k fi [.v (ro (ns.map .int))] = .ret (.v (.bool true)) []) (w : World) (mg : Str → Option Value) (fa : Addr) (h : Heap) (Y : ∃ K : PySem.W.Frag, K.In h ∧ He.SaysD T.fa T.fns K) (G : h.Ns mainGlobals mg) (hm : mg E.at_ = some (.ref fa)) :
    ∃ (K : PySem.W.Frag) (fd : FuncData) (sp : Sp), K.In h ∧ (∀ (s : Shared) (u : Value), BindsTo s fd ⟨[u], []⟩ [(x, u)]) ∧
        (∀ (H : Hp) (a : Addr) (ns : List Int), ns.length ≤ n → Only H → SqL K H a (ns.map V.int) → sp [.ref a] H (fun v _ => v = .bl true) fun _ _ _ => False) ∧
        ∀ base : Heap, K.In base → base.Ns mainGlobals mg → FnOk P w K mg base (CXany P) k fa fd [x] sp := by
  obtain ⟨K, X, c⟩ := Y
  have all : ∀ f : Nat, ∃ fd, ∀ E, T.ents[f]? = some E → Says T K f E fd := fun f => by
    cases e : T.ents[f]? with
    | none => exact ⟨default, fun E h => by cases h⟩
    | some E' =>
      obtain ⟨fd, hfd⟩ := says_at c f E' e
      exact ⟨fd, fun E h => by cases h; exact hfd⟩
  have hfd : ∀ f E, T.ents[f]? = some E → Says T K f E ((fun f => Classical.choose (all f)) f) := fun f => Classical.choose_spec (all f)
  generalize (fun f => Classical.choose (all f)) = fdO at hfd
  have hg : mg E.at_ = some (.ref (He.ga K E.at_)) := by
    refine He.glo_ok X G (SaysD_mem c (f := .glo E.at_) (List.mem_append_left _ (List.mem_map.mpr ⟨E.at_, ?_, rfl⟩)))
    exact List.mem_map.mpr ⟨E, List.mem_of_getElem? hE, rfl⟩
  rw [hm] at hg
  cases hg
  have hEok : entB T E = true := by
    unfold Tab.ok at ok
    have := (and2 ok).2
    rw [List.all_eq_true] at this
    exact this E (List.mem_of_getElem? hE)
  refine ⟨K, fdO fi, spF (T.gx K mg) (runF T.fd k) (fun _ => Str.empty) 1 fi, X, fun s u => ?_, fun H a ns hl hO hS => ?_, fun base _ _ => ?_⟩
  · unfold entB at hEok
    obtain ⟨h1, _⟩ := and2 hEok
    obtain ⟨h1, _⟩ := and2 h1
    obtain ⟨h1, _⟩ := and2 h1
    obtain ⟨h1, h2⟩ := and2 h1
    obtain ⟨h1, h3⟩ := and2 h1
    have b := FunD.bindsA (ps := E.ps) (hfd fi E hE) (fun kV doc pm an cdv ct us hl => binds_plain h1 (by
      have S := scB_ok h3
      have := S.nd.sublist (List.take_sublist E.ps.length E.N)
      rw [S.pre] at this
      exact this) hl) s [u] (by rw [hps]; rfl)
    rw [hps] at b
    exact b
  · refine ⟨rfl, H, [.v (ro (ns.map .int))], Same.refl _, .cons (.ro hS (RFs.of_ints ns)) .nil, fun i j a oi oj _ h1 _ m1 => ?_, ?_⟩
    · cases i with
      | zero => simp at h1; subst h1; cases m1
      | succ i => simp at h1
    · rw [hlaw ns hl]
      intro v Fz' H' _ r _ _ _
      cases r with
      | v r => cases r; rfl
  · have := tab_ok (base := base) (P := P) (w := w) (cn := fun _ => Str.empty) X G c ok fdO hfd k fi E hE
    rw [hps] at this
    exact fnok_any this
end Pv
-- PvSym
set_option maxRecDepth 100000
namespace Pv
open PySem L2
/-- a while's test, its turn -/
def whlC (cf : Nat → List Ob → CR) (lk : List Nat) (c : IE) (env : En) : Rs Bool := evT cf lk c env
def whlB (cf : Nat → List Ob → CR) (lk : List Nat) (b : ISs) (env : En) : Rs Fl := evSs cf lk b env
/-- a turn of a for -/
def forT (cf : Nat → List Ob → CR) (lk : List Nat) (tg : List Nat ⊕ Nat) (b : ISs) (d : PV) (env : En) : Rs Fl := match setTg env tg d with
  | some env => evSs cf lk b env
  | none => .no
section
variable {cf : Nat → List Ob → CR} {lk : List Nat} {env : En}
@[simp] theorem y_c {d : PV} : evE cf lk (.c d) env = .ok (.v d) env := by rw [evE]
@[simp] theorem y_f {n : Nat} : evE cf lk (.f n) env = .ok (.fn n) env := by rw [evE]
@[simp] theorem y_x {i : Nat} : evE cf lk (.x i) env = readX env i := by rw [evE]
@[simp] theorem y_tup {es : IEs} : evE cf lk (.tup es) env = (evF cf lk es env).bind fun ds env => if ds.length ≤ lim then .ok (.v (.tuple ds)) env else .no := by rw [evE]
@[simp] theorem y_lst {es : IEs} : evE cf lk (.lst es) env = (evF cf lk es env).bind fun ds env => if ds.length ≤ lim then .ok (.ml ds) env else .no := by rw [evE]
@[simp] theorem y_op {o : Op} {es : IEs} : evE cf lk (.op o es) env = (evA cf lk es env).bind fun as env => optR (((resolve env (as.map (·.2))).bind views).bind (opf o)) env := by rw [evE]
@[simp] theorem y_and {a b : IE} : evE cf lk (.and a b) env = (evE cf lk a env).bind fun o env => (truR o env).bind fun k env => if k then evE cf lk b env else .ok o env := by rw [evE]
@[simp] theorem y_or {a b : IE} : evE cf lk (.or a b) env = (evE cf lk a env).bind fun o env => (truR o env).bind fun k env => if k then .ok o env else evE cf lk b env := by rw [evE]
@[simp] theorem y_not {a : IE} : evE cf lk (.not a) env = (evE cf lk a env).bind fun o env => (truR o env).bind fun k env => .ok (.v (.bool (!k))) env := by rw [evE]
@[simp] theorem y_ite {c a b : IE} : evE cf lk (.ite c a b) env = (evE cf lk c env).bind fun o env => (truR o env).bind fun k env => if k then evE cf lk a env else evE cf lk b env := by rw [evE]
@[simp] theorem y_chain {o1 o2 : Op} {a b c : IE} : evE cf lk (.chain o1 o2 a b c) env = (evE cf lk a env).bind fun oa env => (evE cf lk b env).bind fun ob env =>
      match oa.view, ob.view with
      | some da, some db => (match cmpf o1 da db with
        | some true => (evE cf lk c env).bind fun oc env => optR ((oc.view.bind fun dc => cmpf o2 db dc).map fun k => .v (.bool k)) env
        | some false => .ok (.v (.bool false)) env
        | none => .no)
      | _, _ => .no := by
  rw [evE]
  all_goals congr 1
@[simp] theorem y_sl2 {a : IEs} {lo hi : IE} : evE cf lk (.sl2 a lo hi) env = (evA cf lk a env).bind fun as env => (evE cf lk lo env).bind fun ol env => match ol with
      | .v (.int i) => (evE cf lk hi env).bind fun oh env => (match oh with
        | .v (.int j) => optR (((resolve env (as.map (·.2))).bind views).bind fun ds => match ds with
          | [d] => slicef d (some i) (some j)
          | _ => none) env
        | _ => .no)
      | _ => .no := by rw [evE] <;> rfl
@[simp] theorem y_meth {m : Mt} {a es : IEs} : evE cf lk (.meth m a es) env = (evA cf lk a env).bind fun l env => if methL m env l then (evF cf lk es env).bind fun ds env => optR (((resolve env (l.map (·.2))).bind views).bind (methG m ds)) env else .no := by rw [evE]
@[simp] theorem y_call {f : Nat} {es : IEs} : evE cf lk (.call f es) env = (evC cf lk es env).bind fun as env => doCall cf f as env := by rw [evE]
@[simp] theorem y_callk {f : Nat} {p : List Nat} {es : IEs} : evE cf lk (.callk f p es) env = (evF cf lk es env).bind fun ds env => doCallK cf f p ds env := by rw [evE]
@[simp] theorem y_pop {i : Nat} : evE cf lk (.pop i) env = match env[i]? with
    | some (some (.ml xs)) => (match xs.getLast? with
      | some d => .ok (.v d) (env.set i (some (.ml xs.dropLast)))
      | none => .no)
    | _ => .no := by rw [evE] <;> rfl
theorem y_lc {own : List Nat} {tg : List Nat ⊕ Nat} {it : IT} {cond : IEs} {elt : IE} : evE cf lk (.lc own tg it cond elt) env = if own.any (fun i => lk.contains i) then .no else (evIt cf lk it env).bind fun ds env0 =>
      (loopL (turnL own tg (fun env => evK cf lk cond env) (fun env => evE cf lk elt env)) ds [] (wipeL env0 own)).bind fun acc env1 => .ok (.ml acc) (restore env0 env1 own) := by rw [evE]
@[simp] theorem y_k0 : evK cf lk .nil env = .ok true env := by rw [evK]
@[simp] theorem y_k1 {io : Bool} {e : IE} {r : IEs} : evK cf lk (.cons io e r) env = (evE cf lk e env).bind truR := by rw [evK]
@[simp] theorem y_f0 : evF cf lk .nil env = .ok [] env := by rw [evF]
@[simp] theorem y_f1 {io : Bool} {e : IE} {es : IEs} : evF cf lk (.cons io e es) env = (evE cf lk e env).bind fun o env => (fzR o env).bind fun d env => (evF cf lk es env).bind fun ds env => .ok (d :: ds) env := by rw [evF]
@[simp] theorem y_o0 : evO cf lk .nil env = .ok [] env := by rw [evO]
@[simp] theorem y_o1 {io : Bool} {e : IE} {es : IEs} : evO cf lk (.cons io e es) env = (evE cf lk e env).bind fun o env => (evO cf lk es env).bind fun os env => .ok (fzIf io o :: os) env := by rw [evO]
@[simp] theorem y_a0 : evA cf lk .nil env = .ok [] env := by rw [evA]
@[simp] theorem y_a1 {io : Bool} {e : IE} {es : IEs} : evA cf lk (.cons io e es) env = (evA1 cf lk e env).bind fun ag env => (evA cf lk es env).bind fun as env => .ok ((io, ag) :: as) env := evA_cons ..
@[simp] theorem y_C0 : evC cf lk .nil env = .ok [] env := by rw [evC]
@[simp] theorem y_C1 {io : Bool} {e : IE} {es : IEs} : evC cf lk (.cons io e es) env = (evC1 cf lk io e env).bind fun ag env => (evC cf lk es env).bind fun as env => .ok ((io, ag) :: as) env := evC_cons ..
@[simp] theorem y_Ct {e : IE} : evC1 cf lk true e env = evA1 cf lk e env := rfl
@[simp] theorem y_Cf {e : IE} : evC1 cf lk false e env = (evE cf lk e env).bind fun o env => .ok (.inr o.frozen) env := rfl
@[simp] theorem y_A1x {i : Nat} : evA1 cf lk (.x i) env = match env[i]? with
    | some (some _) => .ok (.inl i) env
    | _ => .no := by rw [evA1]; simp only [IE.isX] <;> rfl
theorem y_A1n {e : IE} (h : e.isX = none) : evA1 cf lk e env = (evE cf lk e env).bind fun o env => .ok (.inr o) env := by rw [evA1, h]
@[simp] theorem y_A1c {d : PV} : evA1 cf lk (.c d) env = .ok (.inr (.v d)) env := by rw [y_A1n rfl]; simp
@[simp] theorem y_A1f {n : Nat} : evA1 cf lk (.f n) env = .ok (.inr (.fn n)) env := by rw [y_A1n rfl]; simp
@[simp] theorem y_A1tup {es : IEs} : evA1 cf lk (.tup es) env = (evE cf lk (.tup es) env).bind fun o env => .ok (.inr o) env := y_A1n rfl
@[simp] theorem y_A1lst {es : IEs} : evA1 cf lk (.lst es) env = (evE cf lk (.lst es) env).bind fun o env => .ok (.inr o) env := y_A1n rfl
@[simp] theorem y_A1op {o : Op} {es : IEs} : evA1 cf lk (.op o es) env = (evE cf lk (.op o es) env).bind fun o env => .ok (.inr o) env := y_A1n rfl
@[simp] theorem y_A1and {a b : IE} : evA1 cf lk (.and a b) env = (evE cf lk (.and a b) env).bind fun o env => .ok (.inr o) env := y_A1n rfl
@[simp] theorem y_A1or {a b : IE} : evA1 cf lk (.or a b) env = (evE cf lk (.or a b) env).bind fun o env => .ok (.inr o) env := y_A1n rfl
@[simp] theorem y_A1not {a : IE} : evA1 cf lk (.not a) env = (evE cf lk (.not a) env).bind fun o env => .ok (.inr o) env := y_A1n rfl
@[simp] theorem y_A1ite {a b c : IE} : evA1 cf lk (.ite a b c) env = (evE cf lk (.ite a b c) env).bind fun o env => .ok (.inr o) env := y_A1n rfl
@[simp] theorem y_A1chain {o1 o2 : Op} {a b c : IE} : evA1 cf lk (.chain o1 o2 a b c) env = (evE cf lk (.chain o1 o2 a b c) env).bind fun o env => .ok (.inr o) env := y_A1n rfl
@[simp] theorem y_A1sl2 {as : IEs} {b c : IE} : evA1 cf lk (.sl2 as b c) env = (evE cf lk (.sl2 as b c) env).bind fun o env => .ok (.inr o) env := y_A1n rfl
@[simp] theorem y_A1meth {m : Mt} {as es : IEs} : evA1 cf lk (.meth m as es) env = (evE cf lk (.meth m as es) env).bind fun o env => .ok (.inr o) env := y_A1n rfl
@[simp] theorem y_A1call {f : Nat} {es : IEs} : evA1 cf lk (.call f es) env = (evE cf lk (.call f es) env).bind fun o env => .ok (.inr o) env := y_A1n rfl
@[simp] theorem y_A1callk {f : Nat} {p : List Nat} {es : IEs} : evA1 cf lk (.callk f p es) env = (evE cf lk (.callk f p es) env).bind fun o env => .ok (.inr o) env := y_A1n rfl
@[simp] theorem y_A1pop {i : Nat} : evA1 cf lk (.pop i) env = (evE cf lk (.pop i) env).bind fun o env => .ok (.inr o) env := y_A1n rfl
@[simp] theorem y_A1lc {own : List Nat} {tg : List Nat ⊕ Nat} {it : IT} {cond : IEs} {elt : IE} : evA1 cf lk (.lc own tg it cond elt) env = (evE cf lk (.lc own tg it cond elt) env).bind fun o env => .ok (.inr o) env := y_A1n rfl
@[simp] theorem y_seq {e : IE} : evIt cf lk (.seq e) env = (evE cf lk e env).bind fun o env => (fzR o env).bind fun d env => optR (itemsOf d) env := by rw [evIt]
@[simp] theorem y_enum {e : IE} : evIt cf lk (.enum e) env = (evE cf lk e env).bind fun o env => (fzR o env).bind fun d env => optR ((listOf d).map (enumL 0)) env := by rw [evIt]
@[simp] theorem y_zip {a b : IE} : evIt cf lk (.zip a b) env = (evE cf lk a env).bind fun oa env => (fzR oa env).bind fun da env => (evE cf lk b env).bind fun ob env => (fzR ob env).bind fun db env => optR (zipOf da db) env := by rw [evIt]
@[simp] theorem y_range {es : IEs} : evIt cf lk (.range es) env = (evF cf lk es env).bind fun ds env => optR (rangeV ds) env := by rw [evIt]
@[simp] theorem y_T {e : IE} : evT cf lk e env = (evE cf lk e env).bind truR := rfl
@[simp] theorem y_z0 {o : Ob} : fzIf false o = o := rfl
@[simp] theorem y_z1 {o : Ob} : fzIf true o = o.frozen := rfl
@[simp] theorem y_read {i : Nat} : readX env i = match env[i]? with
  | some (some o) => .ok o.frozen (if o.mut then env.set i (some o.frozen) else env)
  | _ => .no := rfl
theorem y_fzv {d : PV} (h : isD d = false) : fzR (.v d) env = .ok d env := by cases d <;> first | rfl | (cases h)
@[simp] theorem y_fzi {i : Int} : fzR (.v (.int i)) env = .ok (.int i) env := rfl
@[simp] theorem y_fzb {i : Bool} : fzR (.v (.bool i)) env = .ok (.bool i) env := rfl
@[simp] theorem y_fzs {i : Str} : fzR (.v (.str i)) env = .ok (.str i) env := rfl
@[simp] theorem y_fzn : fzR (.v .none) env = .ok .none env := rfl
@[simp] theorem y_fzl {i : List PV} : fzR (.v (.list i)) env = .ok (.list i) env := rfl
@[simp] theorem y_fzt {i : List PV} : fzR (.v (.tuple i)) env = .ok (.tuple i) env := rfl
@[simp] theorem y_fzm {xs : List PV} : fzR (.ml xs) env = .ok (.list xs) env := rfl
@[simp] theorem y_dn : isD .none = false := rfl
@[simp] theorem y_db {b : Bool} : isD (.bool b) = false := rfl
@[simp] theorem y_di {b : Int} : isD (.int b) = false := rfl
@[simp] theorem y_ds {b : Str} : isD (.str b) = false := rfl
@[simp] theorem y_dl {b : List PV} : isD (.list b) = false := rfl
@[simp] theorem y_dt {b : List PV} : isD (.tuple b) = false := rfl
@[simp] theorem y_truv {d : PV} : truR (.v d) env = optR (truth d) env := rfl
@[simp] theorem y_trum {xs : List PV} : truR (.ml xs) env = .ok (!xs.isEmpty) env := rfl
@[simp] theorem y_tb {b : Bool} : truth (.bool b) = some b := rfl
@[simp] theorem y_tn : truth .none = some false := rfl
@[simp] theorem y_ti {i : Int} : truth (.int i) = some (i != 0) := rfl
@[simp] theorem y_tl {xs : List PV} : truth (.list xs) = some (!xs.isEmpty) := rfl
@[simp] theorem y_tt {xs : List PV} : truth (.tuple xs) = some (!xs.isEmpty) := rfl
@[simp] theorem y_mv {d : PV} : (Ob.v d).mut = false := rfl
@[simp] theorem y_mm {xs : List PV} : (Ob.ml xs).mut = true := rfl
@[simp] theorem y_mf {f : Nat} : (Ob.fn f).mut = false := rfl
@[simp] theorem y_vv {d : PV} : (Ob.v d).view = some d := rfl
@[simp] theorem y_vm {xs : List PV} : (Ob.ml xs).view = some (.list xs) := rfl
@[simp] theorem y_vf {f : Nat} : (Ob.fn f).view = none := rfl
@[simp] theorem y_zv {d : PV} : (Ob.v d).frozen = .v d := rfl
@[simp] theorem y_zm {xs : List PV} : (Ob.ml xs).frozen = .v (.list xs) := rfl
@[simp] theorem y_zf {f : Nat} : (Ob.fn f).frozen = .fn f := rfl
@[simp] theorem y_r0 : resolve env [] = some [] := rfl
@[simp] theorem y_rl {i : Nat} {r : List Ag} : resolve env (.inl i :: r) = match env[i]?, resolve env r with
    | some (some o), some os => some (o :: os)
    | _, _ => none := rfl
@[simp] theorem y_rr {o : Ob} {r : List Ag} : resolve env (.inr o :: r) = (resolve env r).map (o :: ·) := rfl
@[simp] theorem y_w0 : views [] = some [] := rfl
@[simp] theorem y_w1 {o : Ob} {r : List Ob} : views (o :: r) = match o.view, views r with
    | some d, some ds => some (d :: ds)
    | _, _ => none := rfl
@[simp] theorem y_o1' {o : Op} {a : PV} : opf o [a] = opf1 o a := rfl
@[simp] theorem y_o2' {o : Op} {a b : PV} : opf o [a, b] = opf2 o a b := rfl
@[simp] theorem y_ss0 : evSs cf lk .nil env = .ok .nx env := by rw [evSs]
@[simp] theorem y_ss1 {s : IS} {r : ISs} : evSs cf lk (.cons s r) env = (evS cf lk s env).bind fun fl env => match fl with
    | .nx => evSs cf lk r env
    | fl => .ok fl env := by rw [evSs] <;> rfl
@[simp] theorem y_asg {z : Bool} {i : Nat} {e : IE} : evS cf lk (.asg z i e) env = if free lk i then (evE cf lk e env).bind fun o env => .ok .nx (env.set i (some (fzIf z o))) else .no := by rw [evS]
@[simp] theorem y_par {is : List Nat} {es : IEs} : evS cf lk (.par is es) env = if is.all (free lk) && decide is.Nodup then (evO cf lk es env).bind fun os env => (optR (setObs env is os) env).bind fun env' _ => .ok .nx env' else .no := by rw [evS]
@[simp] theorem y_unp {is : List Nat} {e : IE} : evS cf lk (.unp is e) env = if is.all (free lk) then (evE cf lk e env).bind fun o env => (match o with
      | .v (.tuple ds) => (optR (setTgs env is ds) env).bind fun env' _ => .ok .nx env'
      | _ => .no) else .no := by rw [evS] <;> rfl
@[simp] theorem y_sub {i : Nat} {ix e : IE} : evS cf lk (.sub i ix e) env = (evE cf lk e env).bind fun o env => (fzR o env).bind fun d env => if isMl env i then (evE cf lk ix env).bind fun oi env => (match env[i]?, oi with
      | some (some (.ml xs)), .v (.int k) => (match ixN xs.length k with
        | some j => .ok .nx (env.set i (some (.ml (xs.set j d))))
        | none => .no)
      | _, _ => .no) else .no := by rw [evS] <;> rfl
@[simp] theorem y_ap {i : Nat} {e : IE} : evS cf lk (.ap i e) env = if isMl env i then (evE cf lk e env).bind fun o env => (fzR o env).bind fun d env => match env[i]? with
      | some (some (.ml xs)) => if xs.length < lim then .ok .nx (env.set i (some (.ml (xs ++ [d])))) else .no
      | _ => .no else .no := by rw [evS] <;> rfl
@[simp] theorem y_ext {i : Nat} {e : IE} : evS cf lk (.ext i e) env = if isMl env i then (evE cf lk e env).bind fun o env => match env[i]?, o.view with
      | some (some (.ml xs)), some (.list ys) => if xs.length + ys.length ≤ lim then .ok .nx (env.set i (some (.ml (xs ++ ys)))) else .no
      | _, _ => .no else .no := by rw [evS] <;> rfl
@[simp] theorem y_ex {e : IE} : evS cf lk (.ex e) env = (evE cf lk e env).bind fun _ env => .ok .nx env := by rw [evS]
@[simp] theorem y_ret {e : IE} : evS cf lk (.ret e) env = (retO cf lk e env).bind fun o env => .ok (.rt o) env := by rw [evS]
@[simp] theorem y_retn : evS cf lk .retn env = .ok (.rt (.v .none)) env := by rw [evS]
@[simp] theorem y_ifs {c : IE} {a b : ISs} : evS cf lk (.ite c a b) env = (evT cf lk c env).bind fun k env => if k then evSs cf lk a env else evSs cf lk b env := by rw [evS]
@[simp] theorem y_whl {c : IE} {b : ISs} : evS cf lk (.whl c b) env = whileN (whlC cf lk c) (whlB cf lk b) wfuel env := by rw [evS] <;> rfl
@[simp] theorem y_for {tg : List Nat ⊕ Nat} {it : IT} {b : ISs} : evS cf lk (.for_ tg it b) env = if freeTg lk tg then (evIt cf lk it env).bind fun ds env => forL (forT cf lk tg b) ds env else .no := by rw [evS] <;> rfl
@[simp] theorem y_brk : evS cf lk .brk env = .ok .bk env := by rw [evS]
@[simp] theorem y_cnt : evS cf lk .cnt env = .ok .ct env := by rw [evS]
@[simp] theorem y_pass : evS cf lk .pass env = .ok .nx env := by rw [evS]
@[simp] theorem y_never : evS cf lk .never env = .no := by rw [evS]
@[simp] theorem y_retx {i : Nat} : retO cf lk (.x i) env = match env[i]? with
    | some (some o) => if free lk i && o.mut then .ok o (env.set i none) else readX env i
    | _ => .no := by rw [retO] <;> rfl
theorem y_retE {e : IE} (h : e.isX = none) : retO cf lk e env = evE cf lk e env := by rw [retO, h]
@[simp] theorem y_rc {d : PV} : retO cf lk (.c d) env = .ok (.v d) env := by rw [y_retE rfl]; simp
@[simp] theorem y_rtup {es : IEs} : retO cf lk (.tup es) env = evE cf lk (.tup es) env := y_retE rfl
@[simp] theorem y_rlst {es : IEs} : retO cf lk (.lst es) env = evE cf lk (.lst es) env := y_retE rfl
@[simp] theorem y_rop {o : Op} {es : IEs} : retO cf lk (.op o es) env = evE cf lk (.op o es) env := y_retE rfl
@[simp] theorem y_rand {a b : IE} : retO cf lk (.and a b) env = evE cf lk (.and a b) env := y_retE rfl
@[simp] theorem y_ror {a b : IE} : retO cf lk (.or a b) env = evE cf lk (.or a b) env := y_retE rfl
@[simp] theorem y_rnot {a : IE} : retO cf lk (.not a) env = evE cf lk (.not a) env := y_retE rfl
@[simp] theorem y_rite {a b c : IE} : retO cf lk (.ite a b c) env = evE cf lk (.ite a b c) env := y_retE rfl
@[simp] theorem y_rchain {o1 o2 : Op} {a b c : IE} : retO cf lk (.chain o1 o2 a b c) env = evE cf lk (.chain o1 o2 a b c) env := y_retE rfl
@[simp] theorem y_rsl2 {as : IEs} {b c : IE} : retO cf lk (.sl2 as b c) env = evE cf lk (.sl2 as b c) env := y_retE rfl
@[simp] theorem y_rmeth {m : Mt} {as es : IEs} : retO cf lk (.meth m as es) env = evE cf lk (.meth m as es) env := y_retE rfl
@[simp] theorem y_rcall {f : Nat} {es : IEs} : retO cf lk (.call f es) env = evE cf lk (.call f es) env := y_retE rfl
@[simp] theorem y_rcallk {f : Nat} {p : List Nat} {es : IEs} : retO cf lk (.callk f p es) env = evE cf lk (.callk f p es) env := y_retE rfl
@[simp] theorem y_rlc {own : List Nat} {tg : List Nat ⊕ Nat} {it : IT} {cond : IEs} {elt : IE} : retO cf lk (.lc own tg it cond elt) env = evE cf lk (.lc own tg it cond elt) env := y_retE rfl
@[simp] theorem y_doCall {f : Nat} {as : List (Bool × Ag)} : doCall cf f as env = match resolve env (as.map (·.2)) with
  | some os => if handsOk as os && decide (ioNames as).Nodup then endCall as env (cf f os) else .no
  | none => .no := rfl
@[simp] theorem y_doCallK {f : Nat} {p : List Nat} {ds : List PV} : doCallK cf f p ds env = match pickD ds p with
  | some args => if ds.length == p.length then endCall [] env (cf f (args.map .v)) else .no
  | none => .no := rfl
@[simp] theorem y_endR {as : List (Bool × Ag)} {o : Ob} {outs : List Ob} : endCall as env (.ret o outs) = match putBack env as outs with
    | some env' => .ok o env'
    | none => .no := rfl
@[simp] theorem y_endE {as : List (Bool × Ag)} {c : Nat} {xs : List PV} : endCall as env (.exc c xs) = .ex c xs (wipeL env (ioNames as)) := rfl
end
/-- a call's start -/
theorem y_run {T : Nat → Option FD} {k f : Nat} {d : FD} {args : List Ob} (hT : T f = some d) : runF T (k + 1) f args = if args.length == d.np && ioOk d.io 0 args then (match evSs (runF T k) d.io d.body (args.map some ++ List.replicate (d.ns - d.np) none) with
      | .ok fl env => (match outsOf env d.io, fl with
        | some outs, .nx => if outs.all Ob.mut then .ret (.v .none) outs else .no
        | some outs, .rt o => if outs.all Ob.mut then .ret o outs else .no
        | _, _ => .no)
      | .ex c as _ => .exc c as
      | .no => .no) else .no := by rw [runF, hT] <;> rfl
@[simp] theorem lim_nat : lim = 16777216 := by unfold lim; exact sizeLine_eq
@[simp] theorem eqf_tnil {xs : List PV} : eqf (.tuple xs) (.tuple []) = some xs.isEmpty := by
  cases xs <;> simp [eqf, eqOk, PyData.depth, PyData.depthAll, PyData.eqv, PyData.eqvAll]
@[simp] theorem eqf_lnil {xs : List PV} : eqf (.list xs) (.list []) = some xs.isEmpty := by
  cases xs <;> simp [eqf, eqOk, PyData.depth, PyData.depthAll, PyData.eqv, PyData.eqvAll]
@[simp] theorem eqf_ii {i j : Int} : eqf (.int i) (.int j) = some (i == j) := by simp [eqf, eqOk, PyData.depth, PyData.eqv]
@[simp] theorem nef_ii {i j : Int} : nef (.int i) (.int j) = some (i != j) := by simp [nef, eqOk, PyData.depth, PyData.eqv, bne]
@[simp] theorem nef_tnil {xs : List PV} : nef (.tuple xs) (.tuple []) = some (!xs.isEmpty) := by
  cases xs <;> simp [nef, eqOk, PyData.depth, PyData.depthAll, PyData.eqv, PyData.eqvAll]
@[simp] theorem nef_lnil {xs : List PV} : nef (.list xs) (.list []) = some (!xs.isEmpty) := by
  cases xs <;> simp [nef, eqOk, PyData.depth, PyData.depthAll, PyData.eqv, PyData.eqvAll]
end Pv
-- PvSym2
set_option maxRecDepth 100000
namespace Pv
open PySem L2
section
variable {cf : Nat → List Ob → CR} {lk : List Nat} {own : List Nat} {tg : List Nat ⊕ Nat}
theorem wipeL_some' : ∀ (l : List Nat) (env : En) (i : Nat), (wipeL env l)[i]? = if i ∈ l then (env[i]?).map (fun _ => none) else env[i]?
  | [], env, i => by simp [wipeL]
  | j :: l, env, i => by
    have : wipeL env (j :: l) = wipeL (env.set j none) l := rfl
    rw [this, wipeL_some' l]
    by_cases h : j = i
    · subst h
      by_cases hl : j < env.length
      · simp [List.getElem?_set_self hl, List.getElem?_eq_getElem hl]
      · simp [List.getElem?_eq_none (Nat.le_of_not_lt hl), List.getElem?_eq_none (l := env.set j none) (by rw [List.length_set]; exact Nat.le_of_not_lt hl)]
    · rw [List.getElem?_set_ne h]
      have : ¬ i = j := fun e => h e.symm
      simp [this]
theorem wipeL_idem (env : En) : wipeL (wipeL env own) own = wipeL env own := by
  apply List.ext_getElem?
  intro i
  rw [wipeL_some', wipeL_some']
  by_cases h : i ∈ own
  · simp only [h, if_true]
    cases env[i]? <;> rfl
  · simp only [h, if_false]
theorem turn_wipe {cnd : En → Rs Bool} {elt : En → Rs Ob} {d : PV} {acc : List PV} {env env0 : En} (h : wipeL env own = env0) (h0 : wipeL env0 own = env0) : turnL own tg cnd elt d acc env = turnL own tg cnd elt d acc env0 := by
  unfold turnL
  rw [h, h0]
theorem restore_out : ∀ (l : List Nat) (env0 env : En) (i : Nat), i ∉ l → (restore env0 env l)[i]? = env[i]?
  | [], _, _, _, _ => rfl
  | j :: l, env0, env, i, h => by
    simp only [List.mem_cons, not_or] at h
    rw [restore, restore_out l _ _ i h.2]
    split <;> rw [List.getElem?_set_ne (fun e => h.1 e.symm)]
theorem restore_in : ∀ (l : List Nat) (env0 env : En) (i : Nat), i ∈ l → i < env.length → env0[i]? = some none → (restore env0 env l)[i]? = some none
  | [], _, _, _, h, _, _ => by cases h
  | j :: l, env0, env, i, h, hl, h0 => by
    rw [restore]
    by_cases hi : i ∈ l
    · refine restore_in l env0 _ i hi ?_ h0
      split <;> (rw [List.length_set]; exact hl)
    · have e : i = j := by
        rcases List.mem_cons.mp h with e | e
        · exact e
        · exact absurd e hi
      subst e
      rw [restore_out l _ _ i hi]
      split
      · rename_i q
        rw [h0] at q; cases q
      · rw [List.getElem?_set_self hl]
theorem restore_same {env0 env : En} (h : wipeL env own = env0) : restore env0 env own = env0 := by
  have hlen : env.length = env0.length := by rw [← h, wipeL_length]
  apply List.ext_getElem?
  intro i
  by_cases hi : i ∈ own
  · by_cases hl : i < env.length
    · have h0 : env0[i]? = some none := by
        rw [← h, wipeL_some', if_pos hi, List.getElem?_eq_getElem hl]
        rfl
      rw [restore_in own env0 env i hi hl h0, h0]
    · have e1 : (restore env0 env own).length = env.length := restore_length ..
      rw [List.getElem?_eq_none (by rw [e1]; exact Nat.le_of_not_lt hl), List.getElem?_eq_none (by rw [← hlen]; exact Nat.le_of_not_lt hl)]
  · rw [restore_out own env0 env i hi, ← h, wipeL_some', if_neg hi]
/-- a comprehension's turns, told by g -/
theorem loop_fm {cnd : En → Rs Bool} {elt : En → Rs Ob} {env0 : En} (h0 : wipeL env0 own = env0) (g : PV → Option PV) :
    ∀ (ds acc : List PV) (env : En), wipeL env own = env0 → acc.length + ds.length ≤ lim → (∀ d ∈ ds, ∃ e1, setTg env0 tg d = some e1 ∧ match g d with
      | none => ∃ e2, cnd e1 = .ok false e2 ∧ wipeL e2 own = env0
      | some y => ∃ e2 o e3, cnd e1 = .ok true e2 ∧ elt e2 = .ok o e3 ∧ fzR o e3 = .ok y e3 ∧ wipeL e3 own = env0) →
    ∃ e', loopL (turnL own tg cnd elt) ds acc env = .ok (acc ++ ds.filterMap g) e' ∧ wipeL e' own = env0
  | [], acc, env, hw, _, _ => ⟨env, by rw [loopL]; simp, hw⟩
  | d :: ds, acc, env, hw, hl, h => by
    obtain ⟨e1, h1, h2⟩ := h d List.mem_cons_self
    rw [List.length_cons] at hl
    rw [loopL, turn_wipe hw h0]
    unfold turnL
    rw [h0, h1]
    cases e : g d with
    | none =>
      rw [e] at h2
      obtain ⟨e2, q1, q2⟩ := h2
      simp only [q1, Rs.bind_ok, Bool.false_eq_true, if_false]
      obtain ⟨e', r1, r2⟩ := loop_fm h0 g ds acc e2 q2 (by omega) fun d hd => h d (List.mem_cons_of_mem _ hd)
      unfold turnL at r1
      exact ⟨e', by rw [r1, List.filterMap_cons, e], r2⟩
    | some y =>
      rw [e] at h2
      obtain ⟨e2, o, e3, q1, q2, q3, q4⟩ := h2
      have hlt : acc.length < lim := by omega
      simp only [q1, q2, q3, Rs.bind_ok, if_true, hlt]
      obtain ⟨e', r1, r2⟩ := loop_fm h0 g ds (acc ++ [y]) e3 q4 (by rw [List.length_append, List.length_singleton]; omega) fun d hd => h d (List.mem_cons_of_mem _ hd)
      unfold turnL at r1
      exact ⟨e', by rw [r1, List.filterMap_cons, e, List.append_assoc]; rfl, r2⟩
theorem lc_fm {it : IT} {cond : IEs} {elt : IE} {env env0 : En} {ds : List PV} (g : PV → Option PV) (hlk : own.any (fun i => lk.contains i) = false) (hit : evIt cf lk it env = .ok ds env0) (h0 : wipeL env0 own = env0) (hl : ds.length ≤ lim)
    (h : ∀ d ∈ ds, ∃ e1, setTg env0 tg d = some e1 ∧ match g d with
      | none => ∃ e2, evK cf lk cond e1 = .ok false e2 ∧ wipeL e2 own = env0
      | some y => ∃ e2 o e3, evK cf lk cond e1 = .ok true e2 ∧ evE cf lk elt e2 = .ok o e3 ∧ fzR o e3 = .ok y e3 ∧ wipeL e3 own = env0) :
    evE cf lk (.lc own tg it cond elt) env = .ok (.ml (ds.filterMap g)) env0 := by
  rw [y_lc, hlk, hit]
  simp only [Bool.false_eq_true, if_false, Rs.bind_ok, h0]
  obtain ⟨e', r1, r2⟩ := loop_fm (cnd := fun env => evK cf lk cond env) (elt := fun env => evE cf lk elt env) h0 g ds [] env0 h0 (by simpa using hl) h
  rw [r1]
  simp only [Rs.bind_ok, List.nil_append]
  rw [restore_same r2]
/-- without a test -/
theorem lc_map {it : IT} {elt : IE} {env env0 : En} {ds : List PV} (f : PV → PV) (hlk : own.any (fun i => lk.contains i) = false) (hit : evIt cf lk it env = .ok ds env0) (h0 : wipeL env0 own = env0) (hl : ds.length ≤ lim)
    (h : ∀ d ∈ ds, ∃ e1 o e3, setTg env0 tg d = some e1 ∧ evE cf lk elt e1 = .ok o e3 ∧ fzR o e3 = .ok (f d) e3 ∧ wipeL e3 own = env0) :
    evE cf lk (.lc own tg it .nil elt) env = .ok (.ml (ds.map f)) env0 := by
  have := lc_fm (cf := cf) (tg := tg) (cond := .nil) (elt := elt) (fun d => some (f d)) hlk hit h0 hl fun d hd => by
    obtain ⟨e1, o, e3, q1, q2, q3, q4⟩ := h d hd
    exact ⟨e1, q1, e1, o, e3, by simp, q2, q3, q4⟩
  rw [this]
  congr 2
  clear h hl hit this
  induction ds with
  | nil => rfl
  | cons d ds ih => rw [List.filterMap_cons, List.map_cons, ih]
/-- a for, its turns told by a state -/
theorem for_fold {S : Type} (envOf : S → En) (step : S → PV → S) {turn : PV → En → Rs Fl} : ∀ (ds : List PV) (s : S), (∀ s, ∀ d ∈ ds, turn d (envOf s) = .ok .nx (envOf (step s d))) → forL turn ds (envOf s) = .ok .nx (envOf (ds.foldl step s))
  | [], s, _ => by rw [forL]; rfl
  | d :: ds, s, h => by
    rw [forL, h s d List.mem_cons_self]
    exact for_fold envOf step ds (step s d) fun s q hq => h s q (List.mem_cons_of_mem _ hq)
/-- over encoded items -/
theorem loop_fmE {α : Type} (en : α → PV) {cnd : En → Rs Bool} {elt : En → Rs Ob} {env0 : En} (h0 : wipeL env0 own = env0) (g : α → Option PV) :
    ∀ (ds : List α) (acc : List PV) (env : En), wipeL env own = env0 → acc.length + ds.length ≤ lim → (∀ d ∈ ds, ∃ e1, setTg env0 tg (en d) = some e1 ∧ match g d with
      | none => ∃ e2, cnd e1 = .ok false e2 ∧ wipeL e2 own = env0
      | some y => ∃ e2 o e3, cnd e1 = .ok true e2 ∧ elt e2 = .ok o e3 ∧ fzR o e3 = .ok y e3 ∧ wipeL e3 own = env0) →
    ∃ e', loopL (turnL own tg cnd elt) (ds.map en) acc env = .ok (acc ++ ds.filterMap g) e' ∧ wipeL e' own = env0
  | [], acc, env, hw, _, _ => ⟨env, by rw [List.map_nil, loopL]; simp, hw⟩
  | d :: ds, acc, env, hw, hl, h => by
    obtain ⟨e1, h1, h2⟩ := h d List.mem_cons_self
    rw [List.length_cons] at hl
    rw [List.map_cons, loopL, turn_wipe hw h0]
    unfold turnL
    rw [h0, h1]
    cases e : g d with
    | none =>
      rw [e] at h2
      obtain ⟨e2, q1, q2⟩ := h2
      simp only [q1, Rs.bind_ok, Bool.false_eq_true, if_false]
      obtain ⟨e', r1, r2⟩ := loop_fmE en h0 g ds acc e2 q2 (by omega) fun d hd => h d (List.mem_cons_of_mem _ hd)
      unfold turnL at r1
      exact ⟨e', by rw [r1, List.filterMap_cons, e], r2⟩
    | some y =>
      rw [e] at h2
      obtain ⟨e2, o, e3, q1, q2, q3, q4⟩ := h2
      have hlt : acc.length < lim := by omega
      simp only [q1, q2, q3, Rs.bind_ok, if_true, hlt]
      obtain ⟨e', r1, r2⟩ := loop_fmE en h0 g ds (acc ++ [y]) e3 q4 (by rw [List.length_append, List.length_singleton]; omega) fun d hd => h d (List.mem_cons_of_mem _ hd)
      unfold turnL at r1
      exact ⟨e', by rw [r1, List.filterMap_cons, e, List.append_assoc]; rfl, r2⟩
theorem lc_fmE {α : Type} (en : α → PV) {it : IT} {cond : IEs} {elt : IE} {env env0 : En} {ds : List α} (g : α → Option PV) (hlk : own.any (fun i => lk.contains i) = false) (hit : evIt cf lk it env = .ok (ds.map en) env0) (h0 : wipeL env0 own = env0) (hl : ds.length ≤ lim)
    (h : ∀ d ∈ ds, ∃ e1, setTg env0 tg (en d) = some e1 ∧ match g d with
      | none => ∃ e2, evK cf lk cond e1 = .ok false e2 ∧ wipeL e2 own = env0
      | some y => ∃ e2 o e3, evK cf lk cond e1 = .ok true e2 ∧ evE cf lk elt e2 = .ok o e3 ∧ fzR o e3 = .ok y e3 ∧ wipeL e3 own = env0) :
    evE cf lk (.lc own tg it cond elt) env = .ok (.ml (ds.filterMap g)) env0 := by
  rw [y_lc, hlk, hit]
  simp only [Bool.false_eq_true, if_false, Rs.bind_ok, h0]
  obtain ⟨e', r1, r2⟩ := loop_fmE (cnd := fun env => evK cf lk cond env) (elt := fun env => evE cf lk elt env) en h0 g ds [] env0 h0 (by simpa using hl) h
  rw [r1]
  simp only [Rs.bind_ok, List.nil_append]
  rw [restore_same r2]
theorem lc_mapE {α : Type} (en : α → PV) {it : IT} {elt : IE} {env env0 : En} {ds : List α} (f : α → PV) (hlk : own.any (fun i => lk.contains i) = false) (hit : evIt cf lk it env = .ok (ds.map en) env0) (h0 : wipeL env0 own = env0) (hl : ds.length ≤ lim)
    (h : ∀ d ∈ ds, ∃ e1 o e3, setTg env0 tg (en d) = some e1 ∧ evE cf lk elt e1 = .ok o e3 ∧ fzR o e3 = .ok (f d) e3 ∧ wipeL e3 own = env0) :
    evE cf lk (.lc own tg it .nil elt) env = .ok (.ml (ds.map f)) env0 := by
  have := lc_fmE (cf := cf) (tg := tg) en (cond := .nil) (elt := elt) (fun d => some (f d)) hlk hit h0 hl fun d hd => by
    obtain ⟨e1, o, e3, q1, q2, q3, q4⟩ := h d hd
    exact ⟨e1, q1, e1, o, e3, by simp, q2, q3, q4⟩
  rw [this]
  congr 2
  clear h hl hit this
  induction ds with
  | nil => rfl
  | cons d ds ih => rw [List.filterMap_cons, List.map_cons, ih]
end
end Pv
-- bodies
namespace Pv
open PySem L2
/-- in k00 k01 k02 k03 k04 k05 k06 k07 k08 k09 k10 k11 k12 k13 k14 k15 k16 k17 k18 k19 k20 k26 k27 k28 k29 k30 k31 k32 k33 k34 k35 k36 k37 k38 k39 k40 k41 k42 k43 k44 k45 k46 k47 k49 k51 k52 k53 k54 k55 k56 k57 k58 k59 k60 k61 -/
def q_tupled (f0 : Nat) : ISs := (.cons (.ret (.ite (.op .isSeq (.cons false (.x 0) .nil)) (.op .tuple (.cons false (.lc [1] (.inr 1) (.seq (.x 0)) .nil (.call f0 (.cons false (.x 1) .nil))) .nil)) (.x 0)))
    .nil)
/-- in k00 k01 k02 k03 k04 k05 k06 k07 k08 k09 k10 k11 k12 k13 k14 k15 k16 k17 k18 k19 k20 k21 k22 k23 k24 k25 k26 k27 k28 k29 k30 k31 k32 k33 k34 k35 k36 k37 k38 k39 k40 k41 k42 k43 k44 k45 k46 k47 k48 k49 k51 k54 k55 k56 k57 k58 k59 k60 k61 -/
def q_law_box (cc : Int) : ISs := (.cons (.asg true 2 (.ite (.op .lt (.cons false (.x 1) (.cons false (.op .len (.cons false (.x 0) .nil)) .nil))) (.op .idx (.cons false (.x 0) (.cons false (.x 1) .nil))) (.c (.int 0))))
    (.cons (.ret (.lst (.cons false (.op .mul (.cons false (.op .abs (.cons false (.x 2) .nil)) (.cons false (.op .int (.cons false (.op .ge (.cons false (.op .abs (.cons false (.x 2) .nil)) (.cons false (.op .pow (.cons false (.c (.int 10)) (.cons false (.c (.int 18)) .nil))) .nil))) .nil)) .nil))) (.cons false (.op .add (.cons false (.op .add (.cons false (.op .mod (.cons false (.op .int (.cons false (.x 2) .nil)) (.cons false (.c (.int 2305843009213693951)) .nil))) (.cons false (.op .mul (.cons false (.c (.int 39373)) (.cons false (.x 1) .nil))) .nil))) (.cons false (.c (.int cc)) .nil))) (.cons false (.c (.int 0)) .nil)))))
    .nil))
/-- in k00 k01 k02 k03 k04 k05 k06 k07 k08 k09 k10 k11 k12 k13 k14 k15 k16 k17 k18 k19 k20 k21 k22 k23 k24 k25 k26 k27 k28 k29 k30 k31 k32 k33 k34 k35 k36 k37 k38 k39 k40 k41 k42 k43 k44 k45 k46 k47 k48 k49 k51 k54 k55 k56 k57 k58 k59 k60 k61 -/
def q_law_take : ISs := (.cons (.ite (.op .gt (.cons false (.op .idx (.cons false (.x 0) (.cons false (.c (.int 0)) .nil))) (.cons false (.c (.int 0)) .nil))) (.cons (.asg true 2 (.op .mod (.cons false (.op .int (.cons false (.op .idx (.cons false (.x 0) (.cons false (.c (.int 0)) .nil))) .nil)) (.cons false (.x 1) .nil))))
    (.cons (.sub 0 (.c (.int 0)) (.op .fdiv (.cons false (.op .idx (.cons false (.x 0) (.cons false (.c (.int 0)) .nil))) (.cons false (.x 1) .nil))))
    (.cons (.ret (.x 2))
    .nil))) .nil)
    (.cons (.sub 0 (.c (.int 2)) (.op .add (.cons false (.op .idx (.cons false (.x 0) (.cons false (.c (.int 2)) .nil))) (.cons false (.c (.int 1)) .nil))))
    (.cons (.asg true 3 (.op .mod (.cons false (.op .int (.cons false (.op .mul (.cons false (.op .add (.cons false (.op .idx (.cons false (.x 0) (.cons false (.c (.int 1)) .nil))) (.cons false (.op .mul (.cons false (.c (.int 48271)) (.cons false (.op .idx (.cons false (.x 0) (.cons false (.c (.int 2)) .nil))) .nil))) .nil))) (.cons false (.op .add (.cons false (.c (.int 39373)) (.cons false (.op .idx (.cons false (.x 0) (.cons false (.c (.int 2)) .nil))) .nil))) .nil))) .nil)) (.cons false (.c (.int 2147483647)) .nil))))
    (.cons (.asg true 4 (.op .add (.cons false (.op .mod (.cons false (.op .int (.cons false (.x 3) .nil)) (.cons false (.c (.int 40009)) .nil))) (.cons false (.c (.int 7)) .nil))))
    (.cons (.asg true 5 (.op .mod (.cons false (.op .int (.cons false (.op .mul (.cons false (.op .add (.cons false (.op .add (.cons false (.x 3) (.cons false (.op .idx (.cons false (.x 0) (.cons false (.c (.int 2)) .nil))) .nil))) (.cons false (.op .fdiv (.cons false (.op .idx (.cons false (.x 0) (.cons false (.c (.int 1)) .nil))) (.cons false (.c (.int 1000003)) .nil))) .nil))) (.cons false (.x 4) .nil))) .nil)) (.cons false (.c (.int 2147483629)) .nil))))
    (.cons (.ret (.op .mod (.cons false (.op .int (.cons false (.op .fdiv (.cons false (.op .mod (.cons false (.op .int (.cons false (.op .add (.cons false (.op .mul (.cons false (.x 5) (.cons false (.c (.int 48271)) .nil))) (.cons false (.x 3) .nil))) .nil)) (.cons false (.c (.int 2147483587)) .nil))) (.cons false (.c (.int 64)) .nil))) .nil)) (.cons false (.x 1) .nil))))
    .nil))))))
/-- in k00 k01 k02 k03 k04 k05 k06 k07 k08 k09 k10 k11 k12 k13 k14 k15 k16 k17 k18 k19 k20 k21 k22 k23 k24 k25 k26 k27 k28 k29 k30 k31 k32 k33 k34 k35 k36 k37 k38 k39 k40 k41 k42 k43 k44 k45 k46 k47 k48 k49 k51 k54 k55 k56 k57 k58 k59 k60 k61 -/
def q_law_cells : ISs := (.cons (.asg false 2 (.or (.op .list (.cons false (.op (.slice false true) (.cons false (.x 0) (.cons false (.x 1) .nil))) .nil)) (.lst (.cons false (.c (.int 0)) .nil))))
    (.cons (.for_ (.inl [3, 4]) (.enum (.sl2 (.cons false (.x 0) .nil) (.x 1) (.c (.int 63)))) (.cons (.asg true 5 (.op .mod (.cons false (.op .int (.cons false (.x 3) .nil)) (.cons false (.x 1) .nil))))
    (.cons (.sub 2 (.x 5) (.op .add (.cons false (.op .idx (.cons false (.x 2) (.cons false (.x 5) .nil))) (.cons false (.op .mul (.cons false (.x 4) (.cons false (.op .add (.cons false (.x 3) (.cons false (.c (.int 2)) .nil))) .nil))) .nil))))
    .nil)))
    (.cons (.ret (.x 2))
    .nil)))
/-- in k00 k01 k02 k03 k04 k06 k07 k09 k12 k14 k16 k17 k18 k19 k20 k26 k34 k35 k37 k38 k39 k40 k41 k44 k45 k46 k47 k49 k54 -/
def q_law_lists (f0 : Nat) : ISs := (.cons (.ret (.ite (.op .isSeq (.cons false (.x 0) .nil)) (.lc [1] (.inr 1) (.seq (.x 0)) .nil (.call f0 (.cons false (.x 1) .nil))) (.x 0)))
    .nil)
/-- in k00 k01 k02 k03 k04 k05 k06 k07 k08 k09 k10 k11 k12 k13 k14 k15 k16 k17 k18 k19 k20 k21 k22 k23 k24 k25 k26 k27 k28 k29 k30 k31 k32 k33 k34 k35 k36 k37 k38 k39 k40 k41 k42 k43 k44 k45 k46 k47 k48 k49 k51 k52 k53 k54 k55 k56 k57 k58 k59 k60 k61 -/
def q_law_same (f0 : Nat) : ISs := (.cons (.ite (.op .isSeq (.cons false (.x 1) .nil)) (.cons (.ite (.or (.op .ne (.cons false (.op .isList (.cons false (.x 0) .nil)) (.cons false (.op .isList (.cons false (.x 1) .nil)) .nil))) (.op .ne (.cons false (.op .isTuple (.cons false (.x 0) .nil)) (.cons false (.op .isTuple (.cons false (.x 1) .nil)) .nil)))) (.cons (.ret (.c (.bool false)))
    .nil) .nil)
    (.cons (.ret (.and (.op .eq (.cons false (.op .len (.cons false (.x 0) .nil)) (.cons false (.op .len (.cons false (.x 1) .nil)) .nil))) (.op .all (.cons false (.lc [2, 3] (.inl [2, 3]) (.zip (.x 0) (.x 1)) .nil (.call f0 (.cons false (.x 2) (.cons false (.x 3) .nil)))) .nil))))
    .nil)) .nil)
    (.cons (.ite (.op .isN (.cons false (.x 1) (.cons false (.c .none) .nil))) (.cons (.ret (.op .isN (.cons false (.x 0) (.cons false (.c .none) .nil))))
    .nil) .nil)
    (.cons (.ite (.op .isBoolStr (.cons false (.x 1) .nil)) (.cons (.ret (.and (.op .eq (.cons false (.op .isBool (.cons false (.x 0) .nil)) (.cons false (.op .isBool (.cons false (.x 1) .nil)) .nil))) (.and (.op .eq (.cons false (.op .isStr (.cons false (.x 0) .nil)) (.cons false (.op .isStr (.cons false (.x 1) .nil)) .nil))) (.op .eq (.cons false (.x 0) (.cons false (.x 1) .nil))))))
    .nil) .nil)
    (.cons (.ret (.and (.op .isInt (.cons false (.x 0) .nil)) (.and (.not (.op .isBool (.cons false (.x 0) .nil))) (.op .eq (.cons false (.x 0) (.cons false (.x 1) .nil))))))
    .nil))))
/-- in k01 k02 k03 k04 k05 k06 k07 k08 k09 k14 k15 k16 k17 k18 k19 k20 k21 k26 k27 k30 k31 k32 k33 k34 k35 k36 k37 k38 k39 k40 k41 k42 k43 k44 k45 k46 k47 k49 k51 k52 k53 k54 k55 k56 k57 k58 k59 k60 k61 -/
def q_is_long : ISs := (.cons (.ret (.and (.op .isTuple (.cons false (.x 0) .nil)) (.op .eq (.cons false (.op .len (.cons false (.x 0) .nil)) (.cons false (.x 1) .nil)))))
    .nil)
/-- in k01 k02 k03 k04 k05 k06 k07 k08 k09 k14 k15 k16 k17 k18 k19 k26 k27 k32 k33 k35 k43 k44 k45 k46 k47 k49 k51 k52 k53 k54 k55 k56 k58 k59 k60 k61 -/
def q_is_bush_in (f0 f1 : Nat) : ISs := (.cons (.ite (.not (.op .isTuple (.cons false (.x 0) .nil))) (.cons (.ret (.c (.bool false)))
    .nil) .nil)
    (.cons (.ret (.or (.op .eq (.cons false (.x 0) (.cons false (.tup .nil) .nil))) (.and (.call f0 (.cons false (.x 0) (.cons false (.c (.int 2)) .nil))) (.and (.call f1 (.cons false (.op .idx (.cons false (.x 0) (.cons false (.c (.int 0)) .nil))) .nil)) (.call f1 (.cons false (.op .idx (.cons false (.x 0) (.cons false (.c (.int 1)) .nil))) .nil))))))
    .nil))
/-- in k01 k02 k03 k04 k05 k06 k07 k08 k09 k14 k15 k16 k17 k18 k19 k26 k27 k32 k33 k35 k43 k47 k49 k51 k52 k53 k54 k55 k56 k58 k59 k60 k61 -/
def q_sure_bush (f0 f1 : Nat) : ISs := (.cons (.asg true 1 (.call f0 (.cons false (.x 0) .nil)))
    (.cons (.ite (.not (.call f1 (.cons false (.x 1) .nil))) (.cons .never
    .nil) .nil)
    (.cons (.ret (.x 1))
    .nil)))
/-- in k01 k18 k26 k27 k32 k47 k51 k52 k53 k54 k56 k59 k60 -/
def q_sure_bushes (f0 f1 : Nat) : ISs := (.cons (.asg true 1 (.call f0 (.cons false (.x 0) .nil)))
    (.cons (.ite (.or (.not (.op .isTuple (.cons false (.x 1) .nil))) (.not (.op .all (.cons false (.lc [2] (.inr 2) (.seq (.x 1)) .nil (.call f1 (.cons false (.x 2) .nil))) .nil)))) (.cons .never
    .nil) .nil)
    (.cons (.ret (.x 1))
    .nil)))
/-- in k01 k03 k04 k05 k06 k07 k08 k14 k15 k44 k45 k46 k47 k51 k52 k53 k54 k55 k56 k60 -/
def q_is_place_told : ISs := (.cons (.ret (.and (.op .isTuple (.cons false (.x 0) .nil)) (.op .all (.cons false (.lc [1] (.inr 1) (.seq (.x 0)) .nil (.and (.op .isin (.cons false (.x 1) (.cons false (.tup (.cons false (.c (.int 0)) (.cons false (.c (.int 1)) .nil))) .nil))) (.not (.op .isBool (.cons false (.x 1) .nil))))) .nil))))
    .nil)
/-- in k01 k03 k04 k05 k06 k07 k08 k14 k15 k44 k45 k46 k47 k51 k52 k53 k54 k55 k56 k60 -/
def q_is_zeros_and_ones (f0 : Nat) : ISs := (.cons (.ret (.and (.op .isTuple (.cons false (.x 0) .nil)) (.and (.op .all (.cons false (.lc [1] (.inr 1) (.seq (.x 0)) .nil (.op .isInt (.cons false (.x 1) .nil))) .nil)) (.call f0 (.cons false (.x 0) .nil)))))
    .nil)
/-- in k01 k03 k04 k05 k08 k52 k54 k55 k60 -/
def q_sure_place_told (f0 f1 : Nat) : ISs := (.cons (.asg true 1 (.call f0 (.cons false (.x 0) .nil)))
    (.cons (.ite (.not (.call f1 (.cons false (.x 1) .nil))) (.cons .never
    .nil) .nil)
    (.cons (.ret (.x 1))
    .nil)))
/-- in k01 k03 k04 k05 k08 k49 k51 k52 k53 k55 k60 -/
def q_is_place_in : ISs := (.cons (.asg true 2 (.x 0))
    (.cons (.for_ (.inr 3) (.seq (.x 1)) (.cons (.ite (.op .eq (.cons false (.x 2) (.cons false (.tup .nil) .nil))) (.cons (.ret (.c (.bool false)))
    .nil) .nil)
    (.cons (.asg true 2 (.op .idx (.cons false (.x 2) (.cons false (.x 3) .nil))))
    .nil)))
    (.cons (.ret (.c (.bool true)))
    .nil)))
/-- in k01 k03 k04 k05 k08 k52 k55 k60 -/
def q_sure_place (f0 f1 : Nat) : ISs := (.cons (.asg true 2 (.call f0 (.cons false (.x 1) .nil)))
    (.cons (.ite (.not (.call f1 (.cons false (.x 0) (.cons false (.x 2) .nil)))) (.cons .never
    .nil) .nil)
    (.cons (.ret (.x 2))
    .nil)))
/-- in k01 k03 k07 k08 k14 k16 k17 k27 k44 k45 k46 k49 k51 k52 k53 k54 k55 k56 k60 -/
def q_part_in : ISs := (.cons (.asg true 2 (.x 0))
    (.cons (.for_ (.inr 3) (.seq (.x 1)) (.cons (.asg true 2 (.op .idx (.cons false (.x 2) (.cons false (.x 3) .nil))))
    .nil))
    (.cons (.ret (.x 2))
    .nil)))
/-- in k01 k03 k04 k05 k06 k07 k08 k14 k15 k16 k17 k27 k44 k45 k46 k49 k51 k52 k53 k54 k55 k56 k60 -/
def q_put_in (f0 : Nat) : ISs := (.cons (.ite (.op .eq (.cons false (.x 1) (.cons false (.tup .nil) .nil))) (.cons (.ret (.x 2))
    .nil) .nil)
    (.cons (.ite (.op .eq (.cons false (.op .idx (.cons false (.x 1) (.cons false (.c (.int 0)) .nil))) (.cons false (.c (.int 0)) .nil))) (.cons (.ret (.tup (.cons false (.call f0 (.cons false (.op .idx (.cons false (.x 0) (.cons false (.c (.int 0)) .nil))) (.cons false (.op (.slice true false) (.cons false (.x 1) (.cons false (.c (.int 1)) .nil))) (.cons false (.x 2) .nil)))) (.cons false (.op .idx (.cons false (.x 0) (.cons false (.c (.int 1)) .nil))) .nil))))
    .nil) .nil)
    (.cons (.ret (.tup (.cons false (.op .idx (.cons false (.x 0) (.cons false (.c (.int 0)) .nil))) (.cons false (.call f0 (.cons false (.op .idx (.cons false (.x 0) (.cons false (.c (.int 1)) .nil))) (.cons false (.op (.slice true false) (.cons false (.x 1) (.cons false (.c (.int 1)) .nil))) (.cons false (.x 2) .nil)))) .nil))))
    .nil)))
/-- in k01 k03 k04 k07 k08 k14 k16 k17 k18 k19 k44 k45 k46 k49 k51 k52 k53 k54 k55 k56 k59 k60 -/
def q_leaves_in (f0 : Nat) : ISs := (.cons (.ret (.ite (.op .eq (.cons false (.x 0) (.cons false (.tup .nil) .nil))) (.c (.int 1)) (.op .add (.cons false (.call f0 (.cons false (.op .idx (.cons false (.x 0) (.cons false (.c (.int 0)) .nil))) .nil)) (.cons false (.call f0 (.cons false (.op .idx (.cons false (.x 0) (.cons false (.c (.int 1)) .nil))) .nil)) .nil)))))
    .nil)
/-- in k01 k03 k07 k08 k14 k16 k17 k27 k44 k45 k46 k49 k51 k52 k53 k54 k55 k56 k60 -/
def q_places_in (f0 : Nat) : ISs := (.cons (.ite (.op .eq (.cons false (.x 0) (.cons false (.tup .nil) .nil))) (.cons (.ret (.lst (.cons false (.tup .nil) .nil)))
    .nil) .nil)
    (.cons (.asg true 1 (.lc [2] (.inr 2) (.seq (.call f0 (.cons false (.op .idx (.cons false (.x 0) (.cons false (.c (.int 0)) .nil))) .nil))) .nil (.op .add (.cons false (.tup (.cons false (.c (.int 0)) .nil)) (.cons false (.x 2) .nil)))))
    (.cons (.ret (.op .add (.cons false (.op .add (.cons false (.lst (.cons false (.tup .nil) .nil)) (.cons false (.x 1) .nil))) (.cons false (.lc [2] (.inr 2) (.seq (.call f0 (.cons false (.op .idx (.cons false (.x 0) (.cons false (.c (.int 1)) .nil))) .nil))) .nil (.op .add (.cons false (.tup (.cons false (.c (.int 1)) .nil)) (.cons false (.x 2) .nil)))) .nil))))
    .nil)))
/-- in k01 k52 k54 -/
def q_height_in (f0 : Nat) : ISs := (.cons (.ret (.ite (.op .eq (.cons false (.x 0) (.cons false (.tup .nil) .nil))) (.c (.int 0)) (.op .add (.cons false (.c (.int 1)) (.cons false (.op .max2 (.cons false (.call f0 (.cons false (.op .idx (.cons false (.x 0) (.cons false (.c (.int 0)) .nil))) .nil)) (.cons false (.call f0 (.cons false (.op .idx (.cons false (.x 0) (.cons false (.c (.int 1)) .nil))) .nil)) .nil))) .nil)))))
    .nil)
/-- in k01 k03 k04 k17 k52 k54 k60 -/
def q_leaves (f0 f1 : Nat) : ISs := (.cons (.ret (.call f0 (.cons false (.call f1 (.cons false (.x 0) .nil)) .nil)))
    .nil)
/-- in k01 k52 k54 -/
def q_height (f0 f1 : Nat) : ISs := (.cons (.ret (.call f0 (.cons false (.call f1 (.cons false (.x 0) .nil)) .nil)))
    .nil)
/-- in k01 k52 k54 -/
def q_all_places (f0 f1 : Nat) : ISs := (.cons (.ret (.call f0 (.cons false (.call f1 (.cons false (.x 0) .nil)) .nil)))
    .nil)
/-- in k01 k52 k54 -/
def q_leaf_places (f0 f1 f2 : Nat) : ISs := (.cons (.asg true 1 (.call f0 (.cons false (.x 0) .nil)))
    (.cons (.ret (.lc [2] (.inr 2) (.seq (.call f1 (.cons false (.x 1) .nil))) (.cons false (.op .eq (.cons false (.call f2 (.cons false (.x 1) (.cons false (.x 2) .nil))) (.cons false (.tup .nil) .nil))) .nil) (.x 2)))
    .nil))
/-- in k01 k52 -/
def q_is_place (f0 f1 f2 : Nat) : ISs := (.cons (.asg true 2 (.call f0 (.cons false (.x 0) .nil)))
    (.cons (.ret (.and (.call f1 (.cons false (.x 1) .nil)) (.call f2 (.cons false (.x 2) (.cons false (.x 1) .nil)))))
    .nil))
/-- in k01 k03 k52 k60 -/
def q_part_at (f0 f1 f2 : Nat) : ISs := (.cons (.asg true 2 (.call f0 (.cons false (.x 0) .nil)))
    (.cons (.ret (.call f1 (.cons false (.x 2) (.cons false (.call f2 (.cons false (.x 2) (.cons false (.x 1) .nil))) .nil))))
    .nil))
/-- in k01 k52 k60 -/
def q_put_at (f0 f1 f2 : Nat) : ISs := (.cons (.asg true 3 (.call f0 (.cons false (.x 0) .nil)))
    (.cons (.asg true 4 (.call f1 (.cons false (.x 3) (.cons false (.x 1) .nil))))
    (.cons (.ret (.call f2 (.cons false (.x 3) (.cons false (.x 4) (.cons false (.call f0 (.cons false (.x 2) .nil)) .nil)))))
    .nil)))
/-- in k01 k52 k54 -/
def q_mirrored (f0 f1 : Nat) : ISs := (.cons (.ret (.call f0 (.cons false (.call f1 (.cons false (.x 0) .nil)) .nil)))
    .nil)
/-- in k01 k52 k54 -/
def q_mirrored_in (f0 : Nat) : ISs := (.cons (.ret (.ite (.op .eq (.cons false (.x 0) (.cons false (.tup .nil) .nil))) (.tup .nil) (.tup (.cons false (.call f0 (.cons false (.op .idx (.cons false (.x 0) (.cons false (.c (.int 1)) .nil))) .nil)) (.cons false (.call f0 (.cons false (.op .idx (.cons false (.x 0) (.cons false (.c (.int 0)) .nil))) .nil)) .nil)))))
    .nil)
/-- in k01 k18 k52 k54 k59 -/
def q_lefts_in : ISs := (.cons (.asg false 1 (.lst (.cons false (.x 0) .nil)))
    (.cons (.whl (.op .ne (.cons false (.op .idx (.cons false (.x 1) (.cons false (.op .neg (.cons false (.c (.int 1)) .nil)) .nil))) (.cons false (.tup .nil) .nil))) (.cons (.ap 1 (.op .idx (.cons false (.op .idx (.cons false (.x 1) (.cons false (.op .neg (.cons false (.c (.int 1)) .nil)) .nil))) (.cons false (.c (.int 0)) .nil))))
    .nil))
    (.cons (.ret (.x 1))
    .nil)))
/-- in k01 k52 k54 -/
def q_left_parts (f0 f1 : Nat) : ISs := (.cons (.ret (.op .tuple (.cons false (.call f0 (.cons false (.call f1 (.cons false (.x 0) .nil)) .nil)) .nil)))
    .nil)
/-- in k01 k52 k54 k59 -/
def q_right_parts (f0 f1 : Nat) : ISs := (.cons (.ret (.op .tuple (.cons false (.op .rev (.cons false (.lc [1] (.inr 1) (.seq (.op (.slice false true) (.cons false (.call f0 (.cons false (.call f1 (.cons false (.x 0) .nil)) .nil)) (.cons false (.op .neg (.cons false (.c (.int 1)) .nil)) .nil)))) .nil (.op .idx (.cons false (.x 1) (.cons false (.c (.int 1)) .nil)))) .nil)) .nil)))
    .nil)
/-- in k01 k52 k54 k59 -/
def q_from_right_parts (f0 f1 : Nat) : ISs := (.cons (.asg true 1 (.call f0 (.cons false (.x 0) .nil)))
    (.cons (.ite (.op .gt (.cons false (.op .add (.cons false (.c (.int 1)) (.cons false (.op .sum (.cons false (.lc [2] (.inr 2) (.seq (.x 1)) .nil (.call f1 (.cons false (.x 2) .nil))) .nil)) .nil))) (.cons false (.c (.int 12)) .nil))) (.cons .never
    .nil) .nil)
    (.cons (.asg true 3 (.tup .nil))
    (.cons (.for_ (.inr 2) (.seq (.x 1)) (.cons (.asg true 3 (.tup (.cons false (.x 3) (.cons false (.x 2) .nil))))
    .nil))
    (.cons (.ret (.x 3))
    .nil)))))
/-- in k01 k02 k03 k04 k06 k07 k08 k14 k15 k16 k17 k18 k19 k27 k35 k44 k46 k49 k54 k56 k58 k60 -/
def q_law_leafs : ISs := (.cons (.par [1, 2] (.cons false (.lst (.cons false (.x 0) .nil)) (.cons true (.c (.int 0)) .nil)))
    (.cons (.whl (.op .ne (.cons false (.x 1) (.cons false (.lst .nil) .nil))) (.cons (.asg true 3 (.pop 1))
    (.cons (.ite (.op .eq (.cons false (.x 3) (.cons false (.tup .nil) .nil))) (.cons (.asg true 2 (.op .add (.cons false (.x 2) (.cons false (.c (.int 1)) .nil))))
    .nil) (.cons (.ext 1 (.lst (.cons false (.op .idx (.cons false (.x 3) (.cons false (.c (.int 0)) .nil))) (.cons false (.op .idx (.cons false (.x 3) (.cons false (.c (.int 1)) .nil))) .nil))))
    .nil))
    .nil)))
    (.cons (.ret (.x 2))
    .nil)))
/-- in k02 k08 k09 k10 k11 k12 k13 k15 k16 k18 k19 k20 k21 k22 k23 k24 k25 k26 k27 k28 k29 k30 k31 k32 k33 k34 k35 k36 k37 k38 k39 k40 k41 k42 k43 k44 k45 k46 k47 k51 k52 k53 k54 k55 k56 k57 k58 k59 k60 k61 -/
def q_is_number : ISs := (.cons (.ret (.and (.op .isInt (.cons false (.x 0) .nil)) (.not (.op .isBool (.cons false (.x 0) .nil)))))
    .nil)
/-- in k02 k08 k09 k10 k11 k13 k16 k20 k21 k22 k23 k24 k25 k26 k27 k28 k29 k30 k31 k32 k33 k34 k35 k36 k37 k38 k39 k40 k41 k42 k43 k44 k45 k46 k47 k51 k52 k53 k54 k55 k56 k57 k58 k59 k61 -/
def q_is_among (f0 : Nat) : ISs := (.cons (.ret (.and (.call f0 (.cons false (.x 0) .nil)) (.chain .le .le (.x 1) (.x 0) (.x 2))))
    .nil)
/-- in k02 k08 k09 k10 k11 k13 k16 k20 k21 k22 k23 k24 k25 k26 k27 k28 k29 k30 k31 k32 k33 k34 k35 k36 k39 k40 k41 k42 k43 k52 k53 k54 k55 k56 k57 k58 k59 k61 -/
def q_sure_number (f0 : Nat) : ISs := (.cons (.ite (.not (.call f0 (.cons false (.x 0) (.cons false (.x 1) (.cons false (.x 2) .nil))))) (.cons .never
    .nil) .nil)
    (.cons (.ret (.x 0))
    .nil))
/-- in k20 k21 k30 k31 k32 k44 k45 k46 k51 k53 -/
def q_is_just (f0 f1 f2 : Nat) : ISs := (.cons (.ite (.op .isTuple (.cons false (.x 1) .nil)) (.cons (.ret (.and (.call f0 (.cons false (.x 0) (.cons false (.op .len (.cons false (.x 1) .nil)) .nil))) (.op .all (.cons false (.lc [2, 3] (.inl [2, 3]) (.zip (.x 0) (.x 1)) .nil (.call f1 (.cons false (.x 2) (.cons false (.x 3) .nil)))) .nil))))
    .nil) .nil)
    (.cons (.ite (.op .isN (.cons false (.x 1) (.cons false (.c .none) .nil))) (.cons (.ret (.op .isN (.cons false (.x 0) (.cons false (.c .none) .nil))))
    .nil) .nil)
    (.cons (.ite (.op .isStr (.cons false (.x 1) .nil)) (.cons (.ret (.and (.op .isStr (.cons false (.x 0) .nil)) (.op .eq (.cons false (.x 0) (.cons false (.x 1) .nil)))))
    .nil) .nil)
    (.cons (.ret (.and (.call f2 (.cons false (.x 0) .nil)) (.op .eq (.cons false (.x 0) (.cons false (.x 1) .nil)))))
    .nil))))
/-- in k20 k21 k22 k23 k24 k25 k26 k27 k28 k29 k30 k31 k32 k33 k34 k35 k43 k44 k45 k46 k49 k51 k53 k54 k55 k56 k57 k59 -/
def q_rows_in_2 : ISs := (.cons (.asg true 1 (.op .shl (.cons false (.c (.int 1)) (.cons false (.x 0) .nil))))
    (.cons (.asg false 2 (.op .add (.cons false (.lc [3] (.inr 3) (.range (.cons false (.x 1) .nil)) .nil (.lst .nil)) (.cons false (.lst (.cons false (.op .listR (.cons false (.c (.int 1)) (.cons false (.op .add (.cons false (.x 1) (.cons false (.c (.int 1)) .nil))) .nil))) .nil)) .nil))))
    (.cons (.for_ (.inr 4) (.range (.cons false (.op .sub (.cons false (.x 1) (.cons false (.c (.int 1)) .nil))) (.cons false (.c (.int 0)) (.cons false (.op .neg (.cons false (.c (.int 1)) .nil)) .nil)))) (.cons (.asg false 5 (.lst (.cons false (.op .add (.cons false (.x 4) (.cons false (.c (.int 1)) .nil))) .nil)))
    (.cons (.whl (.op .ne (.cons false (.op .idx (.cons false (.x 5) (.cons false (.op .neg (.cons false (.c (.int 1)) .nil)) .nil))) (.cons false (.x 1) .nil))) (.cons (.asg true 6 (.op .idx (.cons false (.x 2) (.cons false (.op .idx (.cons false (.x 5) (.cons false (.op .neg (.cons false (.c (.int 1)) .nil)) .nil))) .nil))))
    (.cons (.ap 5 (.op .idx (.cons false (.x 6) (.cons false (.op .mod (.cons false (.x 4) (.cons false (.op .len (.cons false (.x 6) .nil)) .nil))) .nil))))
    .nil)))
    (.cons (.sub 2 (.x 4) (.x 5))
    .nil))))
    (.cons (.ret (.x 2))
    .nil))))
/-- in k20 k21 k23 k24 k25 k26 k27 k28 k29 k30 k31 k32 k33 k34 k35 k43 k44 k45 k46 k49 k51 k53 k54 k55 k56 k57 k59 -/
def q_product_in : ISs := (.cons (.ret (.op .idx (.cons false (.op .idx (.cons false (.x 0) (.cons false (.x 1) .nil))) (.cons false (.op .mod (.cons false (.op .sub (.cons false (.x 2) (.cons false (.c (.int 1)) .nil))) (.cons false (.op .len (.cons false (.op .idx (.cons false (.x 0) (.cons false (.x 1) .nil))) .nil)) .nil))) .nil))))
    .nil)
/-- in k20 k21 k22 k23 k25 k26 k27 k28 k29 k31 k32 k33 k53 k54 k55 k56 k57 k59 -/
def q_sure_level (f0 : Nat) : ISs := (.cons (.ret (.call f0 (.cons false (.x 0) (.cons false (.c (.int 0)) (.cons false (.c (.int 12)) .nil)))))
    .nil)
/-- in k20 k21 k22 k23 k24 k25 k26 k27 k28 k29 k30 k31 k32 k33 k53 k54 k55 k57 k59 -/
def q_sure_in (f0 : Nat) : ISs := (.cons (.ret (.call f0 (.cons false (.x 1) (.cons false (.c (.int 1)) (.cons false (.op .shl (.cons false (.c (.int 1)) (.cons false (.x 0) .nil))) .nil)))))
    .nil)
/-- in k20 k28 k29 k30 k31 k32 k33 k53 k54 k57 k59 -/
def q_sure_all_in (f0 f1 : Nat) : ISs := (.cons (.asg true 2 (.call f0 (.cons false (.x 1) .nil)))
    (.cons (.ite (.or (.not (.op .isTuple (.cons false (.x 2) .nil))) (.not (.op .all (.cons false (.lc [3] (.inr 3) (.seq (.x 2)) .nil (.call f1 (.cons false (.x 3) (.cons false (.c (.int 1)) (.cons false (.op .shl (.cons false (.c (.int 1)) (.cons false (.x 0) .nil))) .nil))))) .nil)))) (.cons .never
    .nil) .nil)
    (.cons (.ret (.x 2))
    .nil)))
/-- in k20 k21 k25 k31 k32 k33 k34 k35 k43 k53 k54 k57 -/
def q_whole_in (f0 f1 : Nat) : ISs := (.cons (.par [1, 2] (.cons true (.call f0 (.cons false (.x 0) .nil)) (.cons false (.lst .nil) .nil)))
    (.cons (.asg true 3 (.op .shl (.cons false (.c (.int 1)) (.cons false (.x 0) .nil))))
    (.cons (.for_ (.inr 4) (.range (.cons false (.c (.int 1)) (.cons false (.op .add (.cons false (.x 3) (.cons false (.c (.int 1)) .nil))) .nil))) (.cons (.ap 2 (.op .tuple (.cons false (.lc [5] (.inr 5) (.range (.cons false (.c (.int 1)) (.cons false (.op .add (.cons false (.x 3) (.cons false (.c (.int 1)) .nil))) .nil))) .nil (.call f1 (.cons false (.x 1) (.cons false (.x 4) (.cons false (.x 5) .nil))))) .nil)))
    .nil))
    (.cons (.ret (.op .tuple (.cons false (.x 2) .nil)))
    .nil))))
/-- in k20 k21 k23 k25 k27 k29 k31 k32 k33 k53 k54 k55 k59 -/
def q_times (f0 f1 f2 f3 : Nat) : ISs := (.cons (.asg true 3 (.call f0 (.cons false (.x 0) .nil)))
    (.cons (.asg true 4 (.call f1 (.cons false (.x 3) (.cons false (.x 1) .nil))))
    (.cons (.ret (.call f2 (.cons false (.call f3 (.cons false (.x 3) .nil)) (.cons false (.x 4) (.cons false (.call f1 (.cons false (.x 3) (.cons false (.x 2) .nil))) .nil)))))
    .nil)))
/-- in k20 k21 k23 k25 k29 k32 k53 k54 k57 k59 -/
def q_table_row (f0 f1 f2 : Nat) : ISs := (.cons (.asg true 2 (.call f0 (.cons false (.x 0) .nil)))
    (.cons (.asg true 3 (.call f1 (.cons false (.x 2) (.cons false (.x 1) .nil))))
    (.cons (.ret (.op .tuple (.cons false (.op .idx (.cons false (.call f2 (.cons false (.x 2) .nil)) (.cons false (.x 3) .nil))) .nil)))
    .nil)))
/-- in k20 k21 k23 k25 k29 k32 k53 k57 k59 -/
def q_period (f0 : Nat) : ISs := (.cons (.ret (.op .len (.cons false (.call f0 (.cons false (.x 0) (.cons false (.x 1) .nil))) .nil)))
    .nil)
/-- in k20 k21 k25 k32 k33 k53 k54 k57 -/
def q_whole_table (f0 f1 : Nat) : ISs := (.cons (.ite (.op .gt (.cons false (.call f0 (.cons false (.x 0) .nil)) (.cons false (.c (.int 6)) .nil))) (.cons .never
    .nil) .nil)
    (.cons (.ret (.call f1 (.cons false (.x 0) .nil)))
    .nil))
/-- in k20 k21 k32 k53 -/
def q_is_whole_table (f0 f1 f2 : Nat) : ISs := (.cons (.asg true 2 (.call f0 (.cons false (.x 0) .nil)))
    (.cons (.ite (.or (.not (.op .isTuple (.cons false (.x 1) .nil))) (.op .ne (.cons false (.op .len (.cons false (.x 1) .nil)) (.cons false (.op .shl (.cons false (.c (.int 1)) (.cons false (.x 2) .nil))) .nil)))) (.cons (.ret (.c (.bool false)))
    .nil) .nil)
    (.cons (.ite (.not (.op .all (.cons false (.lc [3] (.inr 3) (.seq (.x 1)) .nil (.and (.op .isTuple (.cons false (.x 3) .nil)) (.op .eq (.cons false (.op .len (.cons false (.x 3) .nil)) (.cons false (.op .shl (.cons false (.c (.int 1)) (.cons false (.x 2) .nil))) .nil))))) .nil))) (.cons (.ret (.c (.bool false)))
    .nil) .nil)
    (.cons (.ret (.call f1 (.cons false (.x 1) (.cons false (.call f2 (.cons false (.x 2) .nil)) .nil))))
    .nil))))
/-- in k20 k32 k53 k54 k59 -/
def q_times_in_row (f0 f1 f2 f3 : Nat) : ISs := (.cons (.asg true 2 (.call f0 (.cons false (.x 0) .nil)))
    (.cons (.asg true 3 (.call f1 (.cons false (.x 2) (.cons false (.x 1) .nil))))
    (.cons (.ite (.op .eq (.cons false (.x 3) (.cons false (.tup .nil) .nil))) (.cons .never
    .nil) .nil)
    (.cons (.par [4, 5] (.cons true (.call f2 (.cons false (.x 2) .nil)) (.cons true (.op .idx (.cons false (.x 3) (.cons false (.c (.int 0)) .nil))) .nil)))
    (.cons (.for_ (.inr 6) (.seq (.op (.slice true false) (.cons false (.x 3) (.cons false (.c (.int 1)) .nil)))) (.cons (.asg true 5 (.call f3 (.cons false (.x 4) (.cons false (.x 5) (.cons false (.x 6) .nil)))))
    .nil))
    (.cons (.ret (.x 5))
    .nil))))))
/-- in k20 k32 k53 -/
def q_is_table_number (f0 f1 : Nat) : ISs := (.cons (.ret (.call f0 (.cons false (.x 1) (.cons false (.c (.int 1)) (.cons false (.op .shl (.cons false (.c (.int 1)) (.cons false (.call f1 (.cons false (.x 0) .nil)) .nil))) .nil)))))
    .nil)
/-- in k20 k21 k32 k53 -/
def q_spreads_at (f0 f1 f2 f3 : Nat) : ISs := (.cons (.asg true 4 (.call f0 (.cons false (.x 0) .nil)))
    (.cons (.asg true 5 (.call f1 (.cons false (.x 4) (.cons false (.x 1) .nil))))
    (.cons (.asg true 6 (.call f1 (.cons false (.x 4) (.cons false (.x 2) .nil))))
    (.cons (.asg true 7 (.call f1 (.cons false (.x 4) (.cons false (.x 3) .nil))))
    (.cons (.asg true 8 (.call f2 (.cons false (.x 4) .nil)))
    (.cons (.asg true 9 (.call f3 (.cons false (.x 8) (.cons false (.x 5) (.cons false (.call f3 (.cons false (.x 8) (.cons false (.x 6) (.cons false (.x 7) .nil)))) .nil)))))
    (.cons (.ret (.tup (.cons false (.x 9) (.cons false (.call f3 (.cons false (.x 8) (.cons false (.call f3 (.cons false (.x 8) (.cons false (.x 5) (.cons false (.x 6) .nil)))) (.cons false (.call f3 (.cons false (.x 8) (.cons false (.x 5) (.cons false (.x 7) .nil)))) .nil)))) .nil))))
    .nil)))))))
/-- in k20 k22 k24 k25 k26 k28 k30 k31 k33 k34 k35 k37 k38 k39 k41 k42 k45 k46 k49 k56 k57 k58 k59 k61 -/
def q_law_table : ISs := (.cons (.asg true 1 (.op .shl (.cons false (.c (.int 1)) (.cons false (.x 0) .nil))))
    (.cons (.asg false 2 (.op .mul (.cons false (.lst (.cons false (.c .none) .nil)) (.cons false (.op .add (.cons false (.x 1) (.cons false (.c (.int 1)) .nil))) .nil))))
    (.cons (.sub 2 (.x 1) (.op .listR (.cons false (.op .add (.cons false (.x 1) (.cons false (.c (.int 1)) .nil))) .nil)))
    (.cons (.for_ (.inr 3) (.range (.cons false (.op .sub (.cons false (.x 1) (.cons false (.c (.int 1)) .nil))) (.cons false (.c (.int 0)) (.cons false (.op .neg (.cons false (.c (.int 1)) .nil)) .nil)))) (.cons (.asg false 4 (.lst (.cons false (.c (.int 0)) (.cons false (.op .add (.cons false (.x 3) (.cons false (.c (.int 1)) .nil))) .nil))))
    (.cons (.for_ (.inr 5) (.range (.cons false (.c (.int 1)) (.cons false (.x 1) .nil))) (.cons (.ap 4 (.op .idx (.cons false (.op .idx (.cons false (.x 2) (.cons false (.op .idx (.cons false (.x 4) (.cons false (.x 5) .nil))) .nil))) (.cons false (.op .add (.cons false (.x 3) (.cons false (.c (.int 1)) .nil))) .nil))))
    .nil))
    (.cons (.sub 2 (.x 3) (.x 4))
    .nil))))
    (.cons (.ret (.x 2))
    .nil)))))
/-- in k24 k25 k27 k29 k32 k33 k53 k54 k56 k57 -/
def q_sure_below (f0 : Nat) : ISs := (.cons (.ret (.call f0 (.cons false (.x 0) (.cons false (.c (.int 0)) (.cons false (.c (.int 11)) .nil)))))
    .nil)
/-- in k24 k25 k27 k29 k32 k33 k53 k56 k57 -/
def q_lowered_in : ISs := (.cons (.ret (.op .add (.cons false (.op .mod (.cons false (.op .sub (.cons false (.x 1) (.cons false (.c (.int 1)) .nil))) (.cons false (.op .shl (.cons false (.c (.int 1)) (.cons false (.x 0) .nil))) .nil))) (.cons false (.c (.int 1)) .nil))))
    .nil)
/-- in k24 k25 k32 k53 k54 k57 -/
def q_threshold_in : ISs := (.cons (.ret (.op .len (.cons false (.lc [4] (.inr 4) (.seq (.op (.slice false true) (.cons false (.op .idx (.cons false (.x 2) (.cons false (.x 3) .nil))) (.cons false (.op .len (.cons false (.op .idx (.cons false (.x 1) (.cons false (.x 3) .nil))) .nil)) .nil)))) (.cons false (.op .le (.cons false (.x 4) (.cons false (.op .shl (.cons false (.c (.int 1)) (.cons false (.x 0) .nil))) .nil))) .nil) (.c (.int 1))) .nil)))
    .nil)
/-- in k24 k25 k27 k29 k32 k33 k53 k56 k57 -/
def q_lowered (f0 f1 f2 : Nat) : ISs := (.cons (.asg true 2 (.call f0 (.cons false (.x 0) .nil)))
    (.cons (.ret (.call f1 (.cons false (.x 2) (.cons false (.call f2 (.cons false (.x 1) (.cons false (.c (.int 1)) (.cons false (.c (.int 4096)) .nil)))) .nil))))
    .nil))
/-- in k24 k25 k32 k53 k54 k57 -/
def q_threshold (f0 f1 f2 f3 : Nat) : ISs := (.cons (.asg true 2 (.call f0 (.cons false (.x 0) .nil)))
    (.cons (.asg true 3 (.call f1 (.cons false (.x 2) (.cons false (.x 1) .nil))))
    (.cons (.ret (.call f2 (.cons false (.x 2) (.cons false (.call f3 (.cons false (.x 2) .nil)) (.cons false (.call f3 (.cons false (.op .add (.cons false (.x 2) (.cons false (.c (.int 1)) .nil))) .nil)) (.cons false (.x 3) .nil))))))
    .nil)))
/-- in k24 k25 k32 k53 k54 -/
def q_thresholds (f0 f1 f2 : Nat) : ISs := (.cons (.asg true 1 (.call f0 (.cons false (.x 0) .nil)))
    (.cons (.ite (.op .gt (.cons false (.x 1) (.cons false (.c (.int 9)) .nil))) (.cons .never
    .nil) .nil)
    (.cons (.par [2, 3] (.cons true (.call f1 (.cons false (.x 1) .nil)) (.cons true (.call f1 (.cons false (.op .add (.cons false (.x 1) (.cons false (.c (.int 1)) .nil))) .nil)) .nil)))
    (.cons (.ret (.op .tuple (.cons false (.lc [4] (.inr 4) (.range (.cons false (.c (.int 1)) (.cons false (.op .add (.cons false (.op .shl (.cons false (.c (.int 1)) (.cons false (.x 1) .nil))) (.cons false (.c (.int 1)) .nil))) .nil))) .nil (.call f2 (.cons false (.x 1) (.cons false (.x 2) (.cons false (.x 3) (.cons false (.x 4) .nil)))))) .nil)))
    .nil))))
/-- in k24 k25 k32 k53 k54 -/
def q_row_above (f0 f1 f2 f3 : Nat) : ISs := (.cons (.asg true 2 (.call f0 (.cons false (.x 0) .nil)))
    (.cons (.asg true 3 (.call f1 (.cons false (.x 2) (.cons false (.x 1) .nil))))
    (.cons (.asg true 4 (.op .idx (.cons false (.call f2 (.cons false (.x 2) .nil)) (.cons false (.x 3) .nil))))
    (.cons (.par [5, 6] (.cons true (.call f3 (.cons false (.x 2) (.cons false (.x 3) .nil))) (.cons true (.op .shl (.cons false (.c (.int 1)) (.cons false (.x 2) .nil))) .nil)))
    (.cons (.ite (.op .eq (.cons false (.x 5) (.cons false (.op .len (.cons false (.x 4) .nil)) .nil))) (.cons (.ret (.op .tuple (.cons false (.op .add (.cons false (.x 4) (.cons false (.lc [7] (.inr 7) (.seq (.x 4)) .nil (.op .add (.cons false (.x 7) (.cons false (.x 6) .nil)))) .nil))) .nil)))
    .nil) .nil)
    (.cons (.ret (.op .tuple (.cons false (.op .add (.cons false (.op (.slice false true) (.cons false (.x 4) (.cons false (.x 5) .nil))) (.cons false (.lc [7] (.inr 7) (.seq (.op (.slice true false) (.cons false (.x 4) (.cons false (.x 5) .nil)))) .nil (.op .add (.cons false (.x 7) (.cons false (.x 6) .nil)))) .nil))) .nil)))
    .nil))))))
/-- in k24 k25 k32 k53 -/
def q_period_above (f0 : Nat) : ISs := (.cons (.ret (.op .len (.cons false (.call f0 (.cons false (.x 0) (.cons false (.x 1) .nil))) .nil)))
    .nil)
/-- in k24 k25 k32 k53 -/
def q_does_double (f0 f1 f2 : Nat) : ISs := (.cons (.asg true 2 (.call f0 (.cons false (.x 0) .nil)))
    (.cons (.asg true 3 (.call f1 (.cons false (.x 2) (.cons false (.x 1) .nil))))
    (.cons (.ret (.op .gt (.cons false (.op .len (.cons false (.op .idx (.cons false (.call f2 (.cons false (.op .add (.cons false (.x 2) (.cons false (.c (.int 1)) .nil))) .nil)) (.cons false (.x 3) .nil))) .nil)) (.cons false (.op .len (.cons false (.op .idx (.cons false (.call f2 (.cons false (.x 2) .nil)) (.cons false (.x 3) .nil))) .nil)) .nil))))
    .nil)))
/-- in k24 k25 k32 k53 -/
def q_lowered_product (f0 f1 f2 f3 f4 : Nat) : ISs := (.cons (.asg true 3 (.call f0 (.cons false (.x 0) .nil)))
    (.cons (.asg true 4 (.call f1 (.cons false (.op .add (.cons false (.x 3) (.cons false (.c (.int 1)) .nil))) (.cons false (.x 1) .nil))))
    (.cons (.asg true 5 (.call f1 (.cons false (.op .add (.cons false (.x 3) (.cons false (.c (.int 1)) .nil))) (.cons false (.x 2) .nil))))
    (.cons (.asg true 6 (.call f2 (.cons false (.x 3) (.cons false (.call f3 (.cons false (.call f4 (.cons false (.op .add (.cons false (.x 3) (.cons false (.c (.int 1)) .nil))) .nil)) (.cons false (.x 4) (.cons false (.x 5) .nil)))) .nil))))
    (.cons (.ret (.tup (.cons false (.x 6) (.cons false (.call f3 (.cons false (.call f4 (.cons false (.x 3) .nil)) (.cons false (.call f2 (.cons false (.x 3) (.cons false (.x 4) .nil))) (.cons false (.call f2 (.cons false (.x 3) (.cons false (.x 5) .nil))) .nil)))) .nil))))
    .nil)))))
/-- in k28 k29 k32 k33 k53 k54 k59 -/
def q_both_in (f0 : Nat) : ISs := (.cons (.asg true 4 (.op .shl (.cons false (.c (.int 1)) (.cons false (.x 0) .nil))))
    (.cons (.ret (.op .add (.cons false (.op .mod (.cons false (.op .sub (.cons false (.call f0 (.cons false (.x 1) (.cons false (.x 2) (.cons false (.op .add (.cons false (.op .mod (.cons false (.x 3) (.cons false (.x 4) .nil))) (.cons false (.c (.int 1)) .nil))) .nil)))) (.cons false (.c (.int 2)) .nil))) (.cons false (.x 4) .nil))) (.cons false (.c (.int 1)) .nil))))
    .nil))
/-- in k28 k29 k32 k33 k53 k54 k59 -/
def q_both (f0 f1 f2 f3 : Nat) : ISs := (.cons (.asg true 3 (.call f0 (.cons false (.x 0) .nil)))
    (.cons (.asg true 4 (.call f1 (.cons false (.x 3) (.cons false (.x 1) .nil))))
    (.cons (.ret (.call f2 (.cons false (.x 3) (.cons false (.call f3 (.cons false (.x 3) .nil)) (.cons false (.x 4) (.cons false (.call f1 (.cons false (.x 3) (.cons false (.x 2) .nil))) .nil))))))
    .nil)))
/-- in k28 k29 k32 k53 k54 k59 -/
def q_folded (f0 f1 : Nat) : ISs := (.cons (.asg true 2 (.call f0 (.cons false (.x 0) .nil)))
    (.cons (.asg true 3 (.op .shl (.cons false (.c (.int 1)) (.cons false (.x 0) .nil))))
    (.cons (.for_ (.inr 4) (.seq (.x 1)) (.cons (.asg true 3 (.call f1 (.cons false (.x 0) (.cons false (.x 2) (.cons false (.x 3) (.cons false (.x 4) .nil))))))
    .nil))
    (.cons (.ret (.x 3))
    .nil))))
/-- in k28 k29 k32 k53 k54 k59 -/
def q_all_both (f0 f1 f2 : Nat) : ISs := (.cons (.asg true 2 (.call f0 (.cons false (.x 0) .nil)))
    (.cons (.ret (.call f1 (.cons false (.x 2) (.cons false (.call f2 (.cons false (.x 2) (.cons false (.x 1) .nil))) .nil))))
    .nil))
/-- in k28 k29 k32 k53 k59 -/
def q_both_times (f0 f1 f2 f3 : Nat) : ISs := (.cons (.asg true 3 (.call f0 (.cons false (.x 0) .nil)))
    (.cons (.asg true 4 (.call f1 (.cons false (.x 3) (.cons false (.x 1) .nil))))
    (.cons (.ret (.call f2 (.cons false (.x 3) (.cons false (.op .mul (.cons false (.lst (.cons false (.x 4) .nil)) (.cons false (.call f3 (.cons false (.x 2) (.cons false (.c (.int 0)) (.cons false (.c (.int 1000)) .nil)))) .nil))) .nil))))
    .nil)))
/-- in k28 k29 k32 k53 k59 -/
def q_is_both (f0 f1 : Nat) : ISs := (.cons (.asg true 4 (.call f0 (.cons false (.x 0) (.cons false (.x 1) (.cons false (.x 2) .nil)))))
    (.cons (.ret (.and (.call f1 (.cons false (.x 3) .nil)) (.op .eq (.cons false (.x 3) (.cons false (.x 4) .nil)))))
    .nil))
/-- in k28 k29 k32 k53 k59 -/
def q_laws_of_both (f0 f1 f2 f3 f4 : Nat) : ISs := (.cons (.asg true 4 (.call f0 (.cons false (.x 0) .nil)))
    (.cons (.asg true 5 (.call f1 (.cons false (.x 4) (.cons false (.x 1) .nil))))
    (.cons (.asg true 6 (.call f1 (.cons false (.x 4) (.cons false (.x 2) .nil))))
    (.cons (.asg true 7 (.call f1 (.cons false (.x 4) (.cons false (.x 3) .nil))))
    (.cons (.asg true 8 (.call f2 (.cons false (.x 4) .nil)))
    (.cons (.par [9, 10] (.cons true (.call f3 (.cons false (.x 4) (.cons false (.x 8) (.cons false (.x 5) (.cons false (.x 6) .nil))))) (.cons true (.call f4 (.cons false (.x 8) (.cons false (.x 5) (.cons false (.x 6) .nil)))) .nil)))
    (.cons (.par [11, 12] (.cons true (.call f3 (.cons false (.x 4) (.cons false (.x 8) (.cons false (.x 6) (.cons false (.x 7) .nil))))) (.cons true (.call f4 (.cons false (.x 8) (.cons false (.x 5) (.cons false (.x 7) .nil)))) .nil)))
    (.cons (.asg true 13 (.tup (.cons false (.call f3 (.cons false (.x 4) (.cons false (.x 8) (.cons false (.x 9) (.cons false (.x 7) .nil))))) (.cons false (.call f3 (.cons false (.x 4) (.cons false (.x 8) (.cons false (.x 5) (.cons false (.x 11) .nil))))) .nil))))
    (.cons (.asg true 14 (.tup (.cons false (.call f4 (.cons false (.x 8) (.cons false (.x 9) (.cons false (.x 7) .nil)))) (.cons false (.call f4 (.cons false (.x 8) (.cons false (.x 5) (.cons false (.call f4 (.cons false (.x 8) (.cons false (.x 6) (.cons false (.x 7) .nil)))) .nil)))) .nil))))
    (.cons (.asg true 15 (.tup (.cons false (.call f4 (.cons false (.x 8) (.cons false (.x 5) (.cons false (.x 11) .nil)))) (.cons false (.call f3 (.cons false (.x 4) (.cons false (.x 8) (.cons false (.x 10) (.cons false (.x 12) .nil))))) .nil))))
    (.cons (.ret (.tup (.cons false (.x 13) (.cons false (.x 14) (.cons false (.x 15) (.cons false (.tup (.cons false (.x 9) (.cons false (.call f3 (.cons false (.x 4) (.cons false (.x 8) (.cons false (.x 10) (.cons false (.x 5) .nil))))) .nil))) .nil))))))
    .nil)))))))))))
/-- in k28 k29 k32 k53 k54 k59 -/
def q_fixed_by (f0 f1 f2 f3 : Nat) : ISs := (.cons (.asg true 2 (.call f0 (.cons false (.x 0) .nil)))
    (.cons (.asg true 3 (.call f1 (.cons false (.x 2) (.cons false (.x 1) .nil))))
    (.cons (.asg true 4 (.call f2 (.cons false (.x 2) .nil)))
    (.cons (.ret (.op .tuple (.cons false (.lc [5] (.inr 5) (.range (.cons false (.c (.int 1)) (.cons false (.op .add (.cons false (.op .shl (.cons false (.c (.int 1)) (.cons false (.x 2) .nil))) (.cons false (.c (.int 1)) .nil))) .nil))) (.cons false (.op .eq (.cons false (.call f3 (.cons false (.x 4) (.cons false (.x 3) (.cons false (.x 5) .nil)))) (.cons false (.x 5) .nil))) .nil) (.x 5)) .nil)))
    .nil))))
/-- in k29 -/
def q_law_right_29 (f0 f1 f2 f3 f4 f5 f6 f7 f8 f9 : Nat) : ISs := (.cons (.asg true 2 (.op .shl (.cons false (.c (.int 1)) (.cons false (.x 1) .nil))))
    (.cons (.par [3, 4, 5] (.cons true (.op .add (.cons false (.c (.int 1)) (.cons false (.call f0 (.cons true (.x 0) (.cons false (.x 2) .nil))) .nil))) (.cons true (.op .add (.cons false (.c (.int 1)) (.cons false (.call f0 (.cons true (.x 0) (.cons false (.x 2) .nil))) .nil))) (.cons true (.op .add (.cons false (.c (.int 1)) (.cons false (.call f0 (.cons true (.x 0) (.cons false (.x 2) .nil))) .nil))) .nil))))
    (.cons (.ite (.op .eq (.cons false (.call f0 (.cons true (.x 0) (.cons false (.c (.int 3)) .nil))) (.cons false (.c (.int 0)) .nil))) (.cons (.par [3, 4] (.cons true (.op .add (.cons false (.c (.int 1)) (.cons false (.call f0 (.cons true (.x 0) (.cons false (.op .min2 (.cons false (.c (.int 20)) (.cons false (.x 2) .nil))) .nil))) .nil))) (.cons true (.op .add (.cons false (.c (.int 1)) (.cons false (.call f0 (.cons true (.x 0) (.cons false (.op .min2 (.cons false (.c (.int 20)) (.cons false (.x 2) .nil))) .nil))) .nil))) .nil)))
    .nil) .nil)
    (.cons (.asg true 6 (.call f1 (.cons false (.x 1) (.cons false (.x 3) (.cons false (.x 4) .nil)))))
    (.cons (.asg true 7 (.call f2 (.cons false (.x 1) (.cons false (.x 3) (.cons false (.x 4) (.cons false (.x 5) .nil))))))
    (.cons (.asg true 8 (.lst (.cons false (.lc [9, 10] (.inl [9, 10]) (.seq (.x 7)) .nil (.op .eq (.cons false (.x 9) (.cons false (.x 10) .nil)))) (.cons false (.op .idx (.cons false (.op .idx (.cons false (.x 7) (.cons false (.c (.int 0)) .nil))) (.cons false (.c (.int 0)) .nil))) (.cons false (.op .idx (.cons false (.op .idx (.cons false (.x 7) (.cons false (.c (.int 1)) .nil))) (.cons false (.c (.int 0)) .nil))) (.cons false (.op .idx (.cons false (.op .idx (.cons false (.x 7) (.cons false (.c (.int 3)) .nil))) (.cons false (.c (.int 0)) .nil))) (.cons false (.op .add (.cons false (.op .mod (.cons false (.op .sub (.cons false (.call f3 (.cons false (.x 1) (.cons false (.x 3) (.cons false (.op .add (.cons false (.op .mod (.cons false (.x 4) (.cons false (.x 2) .nil))) (.cons false (.c (.int 1)) .nil))) .nil)))) (.cons false (.c (.int 2)) .nil))) (.cons false (.x 2) .nil))) (.cons false (.c (.int 1)) .nil))) .nil)))))))
    (.cons (.asg true 11 (.lst (.cons false (.op .mul (.cons false (.lst (.cons false (.c (.bool true)) .nil)) (.cons false (.c (.int 4)) .nil))) (.cons false (.call f1 (.cons false (.x 1) (.cons false (.x 6) (.cons false (.x 5) .nil)))) (.cons false (.call f3 (.cons false (.x 1) (.cons false (.x 6) (.cons false (.x 5) .nil)))) (.cons false (.x 6) (.cons false (.x 6) .nil)))))))
    (.cons (.for_ (.inr 12) (.range (.cons false (.c (.int 2)) .nil)) (.cons (.asg true 13 (.op .add (.cons false (.c (.int 1)) (.cons false (.call f0 (.cons true (.x 0) (.cons false (.x 2) .nil))) .nil))))
    (.cons (.par [8, 11] (.cons true (.op .add (.cons false (.x 8) (.cons false (.lst (.cons false (.call f3 (.cons false (.x 1) (.cons false (.x 6) (.cons false (.x 13) .nil)))) .nil)) .nil))) (.cons true (.op .add (.cons false (.x 11) (.cons false (.lst (.cons false (.call f3 (.cons false (.x 1) (.cons false (.x 3) (.cons false (.call f3 (.cons false (.x 1) (.cons false (.x 4) (.cons false (.x 13) .nil)))) .nil)))) .nil)) .nil))) .nil)))
    .nil)))
    (.cons (.asg true 8 (.op .add (.cons false (.x 8) (.cons false (.lst (.cons false (.call f1 (.cons false (.x 1) (.cons false (.x 2) (.cons false (.x 3) .nil)))) (.cons false (.call f1 (.cons false (.x 1) (.cons false (.x 3) (.cons false (.x 2) .nil)))) (.cons false (.call f4 (.cons false (.x 1) (.cons false (.x 3) (.cons false (.c (.int 1)) .nil)))) (.cons false (.call f4 (.cons false (.x 1) (.cons false (.x 3) (.cons false (.c (.int 2)) .nil)))) (.cons false (.call f5 (.cons false (.x 1) (.cons false (.tup (.cons false (.x 3) (.cons false (.x 4) (.cons false (.x 5) .nil)))) .nil))) (.cons false (.call f6 (.cons false (.x 1) (.cons false (.x 3) (.cons false (.x 4) (.cons false (.x 6) .nil))))) .nil))))))) .nil))))
    (.cons (.asg true 11 (.op .add (.cons false (.x 11) (.cons false (.lst (.cons false (.x 3) (.cons false (.x 3) (.cons false (.x 3) (.cons false (.call f1 (.cons false (.x 1) (.cons false (.x 3) (.cons false (.x 3) .nil)))) (.cons false (.op .idx (.cons false (.op .idx (.cons false (.x 7) (.cons false (.c (.int 0)) .nil))) (.cons false (.c (.int 0)) .nil))) (.cons false (.c (.bool true)) .nil))))))) .nil))))
    (.cons (.asg true 14 (.op .add (.cons false (.op .mod (.cons false (.x 6) (.cons false (.x 2) .nil))) (.cons false (.c (.int 1)) .nil))))
    (.cons (.par [8, 11] (.cons true (.op .add (.cons false (.x 8) (.cons false (.lst (.cons false (.call f6 (.cons false (.x 1) (.cons false (.x 3) (.cons false (.x 4) (.cons false (.x 14) .nil))))) .nil)) .nil))) (.cons true (.op .add (.cons false (.x 11) (.cons false (.lst (.cons false (.op .eq (.cons false (.x 14) (.cons false (.x 6) .nil))) .nil)) .nil))) .nil)))
    (.cons (.ite (.op .gt (.cons false (.x 1) (.cons false (.c (.int 0)) .nil))) (.cons (.asg true 15 (.op .sub (.cons false (.x 1) (.cons false (.c (.int 1)) .nil))))
    (.cons (.par [8, 11] (.cons true (.op .add (.cons false (.x 8) (.cons false (.lst (.cons false (.call f7 (.cons false (.x 15) (.cons false (.x 6) .nil))) .nil)) .nil))) (.cons true (.op .add (.cons false (.x 11) (.cons false (.lst (.cons false (.call f1 (.cons false (.x 15) (.cons false (.call f7 (.cons false (.x 15) (.cons false (.x 3) .nil))) (.cons false (.call f7 (.cons false (.x 15) (.cons false (.x 4) .nil))) .nil)))) .nil)) .nil))) .nil)))
    .nil)) .nil)
    (.cons (.asg true 16 (.call f8 (.cons false (.x 1) (.cons false (.x 3) .nil))))
    (.cons (.ret (.and (.call f9 (.cons false (.x 8) (.cons false (.x 11) .nil))) (.and (.op .isin (.cons false (.x 2) (.cons false (.x 16) .nil))) (.op .eq (.cons false (.op .eq (.cons false (.x 3) (.cons false (.x 2) .nil))) (.cons false (.op .eq (.cons false (.op .len (.cons false (.x 16) .nil)) (.cons false (.x 2) .nil))) .nil))))))
    .nil)))))))))))))))
/-- in k29 -/
def q_law_often_right (f0 f1 f2 f3 f4 f5 : Nat) : ISs := (.cons (.asg true 2 (.op .shl (.cons false (.c (.int 1)) (.cons false (.x 1) .nil))))
    (.cons (.par [3, 4, 5] (.cons true (.op .add (.cons false (.c (.int 1)) (.cons false (.call f0 (.cons true (.x 0) (.cons false (.x 2) .nil))) .nil))) (.cons true (.op .add (.cons false (.c (.int 1)) (.cons false (.call f0 (.cons true (.x 0) (.cons false (.x 2) .nil))) .nil))) (.cons true (.op .add (.cons false (.c (.int 2)) (.cons false (.call f0 (.cons true (.x 0) (.cons false (.c (.int 6)) .nil))) .nil))) .nil))))
    (.cons (.asg true 6 (.x 4))
    (.cons (.for_ (.inr 7) (.range (.cons false (.x 5) .nil)) (.cons (.asg true 6 (.call f1 (.cons false (.x 1) (.cons false (.x 3) (.cons false (.x 6) .nil)))))
    .nil))
    (.cons (.asg true 8 (.call f2 (.cons false (.x 1) (.cons false (.x 3) (.cons false (.x 5) .nil)))))
    (.cons (.asg true 9 (.call f3 (.cons false (.x 1) (.cons false (.x 8) .nil))))
    (.cons (.ret (.call f4 (.cons false (.lst (.cons false (.call f1 (.cons false (.x 1) (.cons false (.x 8) (.cons false (.x 4) .nil)))) (.cons false (.call f5 (.cons false (.x 1) (.cons false (.x 8) .nil))) (.cons false (.op .idx (.cons false (.x 9) (.cons false (.op .neg (.cons false (.c (.int 1)) .nil)) .nil))) .nil)))) (.cons false (.lst (.cons false (.x 6) (.cons false (.op .len (.cons false (.x 9) .nil)) (.cons false (.x 2) .nil)))) .nil))))
    .nil)))))))
/-- in k29 -/
def q_law_12 (f0 f1 f2 f3 f4 : Nat) : ISs := (.cons (.asg true 1 (.call f0 (.cons false (.x 0) (.cons false (.c (.int 2)) .nil))))
    (.cons (.for_ (.inr 2) (.range (.cons false (.op .len (.cons false (.x 1) .nil)) .nil)) (.cons (.asg false 3 (.call f1 (.cons false (.x 1) (.cons false (.x 2) .nil))))
    (.cons (.ite (.or (.not (.op .all (.cons false (.lc [4] (.inr 4) (.seq (.tup (.cons false (.call f2 (.cons true (.x 3) (.cons false (.c (.int 4)) .nil))) (.cons false (.c (.int 6)) (.cons false (.c (.int 7)) (.cons false (.op .add (.cons false (.c (.int 8)) (.cons false (.call f2 (.cons true (.x 3) (.cons false (.c (.int 2)) .nil))) .nil))) .nil)))))) .nil (.call f3 (.cons true (.x 3) (.cons false (.x 4) .nil)))) .nil))) (.not (.call f4 (.cons true (.x 3) (.cons false (.op .add (.cons false (.c (.int 4)) (.cons false (.call f2 (.cons true (.x 3) (.cons false (.c (.int 5)) .nil))) .nil))) .nil))))) (.cons (.ret (.c (.bool false)))
    .nil) .nil)
    (.cons (.ite (.and (.op .eq (.cons false (.x 2) (.cons false (.c (.int 0)) .nil))) (.not (.call f3 (.cons true (.x 3) (.cons false (.op .add (.cons false (.c (.int 11)) (.cons false (.call f2 (.cons true (.x 3) (.cons false (.c (.int 2)) .nil))) .nil))) .nil))))) (.cons (.ret (.c (.bool false)))
    .nil) .nil)
    .nil))))
    (.cons (.ret (.c (.bool true)))
    .nil)))
end Pv
-- PvCom
set_option maxRecDepth 100000
namespace Pv
open PySem L2
/-- what a box holds: all it needs for drawing on -/
structure TinOk (A C : Int) : Prop where
  a : 0 ≤ A
  c : 0 ≤ C
  c2 : C < 1000000000
def tin (A B C : Int) : List PV := [.int A, .int B, .int C]
theorem small_of {i : Int} (h1 : -18446744073709551616 < i) (h2 : i < 18446744073709551616) : small i = true := by
  unfold small
  simp only [Bool.and_eq_true, decide_eq_true_eq]
  constructor <;> omega
def once (B C : Int) : Int := ((B + 48271 * C) * (39373 + C)) % 2147483647
def wide (B C : Int) : Int := once B C % 40009 + 7
def twice (B C : Int) : Int := ((once B C + C + B / 1000003) * wide B C) % 2147483629
def drawV (B C n : Int) : Int := ((twice B C * 48271 + once B C) % 2147483587 / 64) % n
theorem log_of {n : Int} (h : 0 < n) (h2 : n < 1000000000) : n.natAbs.log2 < 9000 := by
  have h0 : n.natAbs ≠ 0 := by omega
  have : n.natAbs.log2 < 30 := (Nat.log2_lt h0).mpr (by omega)
  omega
theorem take_spec {T : Nat → Option FD} {i : Nat} (hT : T i = some ⟨2, 6, [0], q_law_take⟩) (k : Nat) {A B C n : Int} (h : TinOk A C) (hn : 0 < n) (hn2 : n < 1000000000) :
    ∃ v A' C', runF T (k + 1) i [.ml (tin A B C), .v (.int n)] = .ret (.v (.int v)) [.ml (tin A' B C')] ∧ 0 ≤ v ∧ v < n ∧ 0 ≤ A' ∧ C ≤ C' ∧ C' ≤ C + 1 := by
  have hlog := log_of hn hn2
  by_cases hA : 0 < A
  · refine ⟨A % n, A / n, C, ?_, Int.emod_nonneg _ (by omega), Int.emod_lt_of_pos _ hn, Int.ediv_nonneg h.a (by omega), by omega, by omega⟩
    rw [y_run hT]
    simp [tin, q_law_take, ioOk, free, opf1, opf2, cmpf, idxf, atI, ixN, gtf, hA, intf, vI, modf, hn, fdivf, hlog, isMl, outsOf]
  · have hs1 : small (39373 + (C + 1)) = true := small_of (by have := h.c; omega) (by have := h.c2; omega)
    have hs2 : small 48271 = true := rfl
    have hs3 : ∀ x : Int, small (x % 40009 + 7) = true := fun x => small_of (by omega) (by omega)
    have l1 : ∀ x : Int, fdivf (.int x) (.int 1000003) = some (.v (.int (x / 1000003))) := fun x => rfl
    have l2 : ∀ x : Int, fdivf (.int x) (.int 64) = some (.v (.int (x / 64))) := fun x => rfl
    refine ⟨drawV B (C + 1) n, A, C + 1, ?_, Int.emod_nonneg _ (by omega), Int.emod_lt_of_pos _ hn, h.a, by omega, by omega⟩
    rw [y_run hT]
    simp [tin, q_law_take, ioOk, free, opf1, opf2, cmpf, idxf, atI, ixN, gtf, hA, intf, vI, modf, hn, l1, l2, isMl, outsOf, addf, mulf, hs1, hs2, hs3, drawV, once, wide, twice]

theorem box_spec {T : Nat → Option FD} {i : Nat} {cc : Int} (hT : T i = some ⟨2, 3, [], q_law_box cc⟩) (k : Nat) (cs : List Int) (j : Nat) (hj : j < cs.length) (hs : cs.length < 1000000) :
    ∃ A B, runF T (k + 1) i [.v (.list (cs.map .int)), .v (.int j)] = .ret (.ml (tin A B 0)) [] ∧ 0 ≤ A := by
  have hget : idxf (.list (cs.map .int)) (.int j) = some (.v (.int cs[j])) := by
    simp [idxf, atI, ixN, hj]
  have hs0 : ∀ (p : Prop) [Decidable p], small (if p then (1 : Int) else 0) = true := fun p _ => by
    by_cases h : p
    · rw [if_pos h]; rfl
    · rw [if_neg h]; rfl
  have hs1 : small 39373 = true := rfl
  have hp : powf (.int 10) (.int 18) = some (.v (.int (10 ^ 18))) := rfl
  have hlt : (j : Int) < cs.length := by omega
  refine ⟨(if cs[j] < 0 then -cs[j] else cs[j]) * (if decide (10 ^ 18 ≤ (if cs[j] < 0 then -cs[j] else cs[j])) = true then 1 else 0), cs[j] % 2305843009213693951 + 39373 * (j : Int) + cc, ?_, ?_⟩
  · rw [y_run hT]
    simp [q_law_box, ioOk, free, opf1, opf2, cmpf, lenf, vI, ltf, hlt, hget, absf, gef, hp, intf, mulf, hs0, hs1, modf, addf, outsOf, tin]
  · split <;> split <;> omega

theorem cells_loop {cf : Nat → List Ob → CR} {o0 : Option Ob} {m : Nat} (hm : 0 < m) : ∀ (zs : List Int) (k0 : Nat) (cs : List Int) (o3 o4 o5 : Option Ob), cs.length = m → k0 + zs.length ≤ 63 →
    ∃ (cs' : List Int) (o3' o4' o5' : Option Ob), cs'.length = m ∧ forL (forT cf [] (.inl [3, 4]) (.cons (.asg true 5 (.op .mod (.cons false (.op .int (.cons false (.x 3) .nil)) (.cons false (.x 1) .nil))))
        (.cons (.sub 2 (.x 5) (.op .add (.cons false (.op .idx (.cons false (.x 2) (.cons false (.x 5) .nil))) (.cons false (.op .mul (.cons false (.x 4) (.cons false (.op .add (.cons false (.x 3) (.cons false (.c (.int 2)) .nil))) .nil))) .nil)))) .nil))) (enumL k0 (zs.map .int)) [o0, some (.v (.int m)), some (.ml (cs.map .int)), o3, o4, o5] = .ok .nx [o0, some (.v (.int m)), some (.ml (cs'.map .int)), o3', o4', o5']
  | [], k0, cs, o3, o4, o5, hc, _ => ⟨cs, o3, o4, o5, hc, by simp [enumL, forL]⟩
  | z :: zs, k0, cs, o3, o4, o5, hc, hk => by
    rw [List.length_cons] at hk
    obtain ⟨q, hmod, hlt⟩ : ∃ q : Nat, (k0 : Int) % (m : Int) = q ∧ q < cs.length := ⟨k0 % m, by omega, by rw [hc]; exact Nat.mod_lt _ hm⟩
    have hpos : (0 : Int) < m := by omega
    have hql : (q : Int) < cs.length := by omega
    have hget : idxf (.list (cs.map .int)) (.int q) = some (.v (.int cs[q])) := by
      simp [idxf, atI, ixN, hlt]
    have hix : ixN cs.length (q : Int) = some q := by
      simp [ixN, hlt]
    have hs : small ((k0 : Int) + 2) = true := small_of (by omega) (by omega)
    obtain ⟨cs', a, b, c, h1, h2⟩ := cells_loop (cf := cf) (o0 := o0) hm zs (k0 + 1) (cs.set q (cs[q] + z * (k0 + 2))) (some (.v (.int k0))) (some (.v (.int z))) (some (.v (.int q))) (by rw [List.length_set]; exact hc) (by omega)
    refine ⟨cs', a, b, c, h1, ?_⟩
    rw [List.map_cons, enumL, forL, ← h2]
    simp [forT, setTg, setTgs, free, opf1, opf2, cmpf, intf, vI, modf, hm, hpos, hmod, isMl, hget, mulf, addf, hs, hix, List.map_set]
theorem cells_spec {T : Nat → Option FD} {i : Nat} (hT : T i = some ⟨2, 6, [], q_law_cells⟩) (k m : Nat) (hm : 0 < m) (hm2 : m ≤ 63) (ns : List Int) :
    ∃ cs : List Int, runF T (k + 1) i [.v (ro (ns.map .int)), .v (.int m)] = .ret (.ml (cs.map .int)) [] ∧ 0 < cs.length ∧ cs.length ≤ m := by
  have hcut : ∀ lo hi, cutP (ns.map PyData.int) lo hi = (((ns.drop (HT.sIx ns.length 0 lo)).take (HT.sIx ns.length ns.length hi - HT.sIx ns.length 0 lo)).map PyData.int) := fun lo hi => by
    unfold cutP
    rw [List.length_map, ← List.map_drop, ← List.map_take]
  have hA : slicef (ro (ns.map .int)) none (some (m : Int)) = some (.ml ((ns.take m).map .int)) := by
    unfold slicef ro
    simp only [hcut, HT.sIx_none, HT.sIx_nat, List.drop_zero, Nat.sub_zero]
    congr 3
    rw [List.take_eq_take_iff]
    omega
  obtain ⟨zs, hz1, hz2⟩ : ∃ zs : List Int, slicef (ro (ns.map .int)) (some (m : Int)) (some 63) = some (.ml (zs.map .int)) ∧ (zs.length ≤ 63) ∧ (zs = [] ∨ (ns.take m).length = m) := by
    refine ⟨(ns.drop (HT.sIx ns.length 0 (some (m : Int)))).take (HT.sIx ns.length ns.length (some 63) - HT.sIx ns.length 0 (some (m : Int))), by unfold slicef ro; simp only [hcut], ?_, ?_⟩
    · have := HT.sIx_nat ns.length ns.length 63
      rw [List.length_take]
      have e : HT.sIx ns.length ns.length (some 63) = min 63 ns.length := this
      rw [e]
      omega
    · rw [HT.sIx_nat, List.length_take]
      by_cases h : m ≤ ns.length
      · right; omega
      · left
        rw [List.drop_eq_nil_of_le (by omega), List.take_nil]
  have hs : ∀ d : PV, True := fun _ => trivial
  rcases hz2 with ⟨hz2, hz3⟩
  by_cases hn : ns.take m = []
  · -- nothing there
    have hzs : zs = [] := by
      rcases hz3 with h | h
      · exact h
      · rw [hn] at h; simp at h; omega
    subst hzs
    rw [hn] at hA
    refine ⟨[0], ?_, by simp, by simp; omega⟩
    rw [y_run hT]
    simp [q_law_cells, ioOk, free, opf1, opf2, bInt, hA, hz1, listf, freeTg, enumL, forL, outsOf, listOf, methL]
  · have hne : (ns.take m).isEmpty = false := by simpa using hn
    have hpos : 0 < (ns.take m).length := List.length_pos_iff.mpr hn
    have hle : (ns.take m).length ≤ m := by rw [List.length_take]; omega
    generalize ns.take m = cs at hA hne hpos hle hz3
    by_cases hzs : zs = []
    · subst hzs
      refine ⟨cs, ?_, hpos, hle⟩
      rw [y_run hT]
      simp [q_law_cells, ioOk, free, opf1, opf2, bInt, hA, hz1, listf, freeTg, enumL, forL, outsOf, listOf, hne]
    · have hcm : cs.length = m := hz3.resolve_left hzs
      obtain ⟨cs', a, b, c, h1, h2⟩ := cells_loop (cf := runF T k) (o0 := some (.v (ro (ns.map .int)))) hm zs 0 cs none none none hcm (by omega)
      refine ⟨cs', ?_, by omega, by omega⟩
      rw [y_run hT]
      simp [q_law_cells, ioOk, free, opf1, opf2, bInt, hA, hz1, listf, freeTg, outsOf, listOf, hne, h2]
end Pv
-- PvSame
set_option maxRecDepth 100000
namespace Pv
open PySem L2
mutual
def nice : PV → Bool
  | .dict _ => false
  | .list xs => decide (xs.length ≤ 16777216) && niceA xs
  | .tuple xs => decide (xs.length ≤ 16777216) && niceA xs
  | _ => true
def niceA : List PV → Bool
  | [] => true
  | x :: xs => nice x && niceA xs
end
@[simp] theorem eqf_bb {a b : Bool} : eqf (.bool a) (.bool b) = some (a == b) := by simp [eqf, eqOk, PyData.depth, PyData.eqv]
@[simp] theorem nef_bb {a b : Bool} : nef (.bool a) (.bool b) = some (a != b) := by simp [nef, eqOk, PyData.depth, PyData.eqv, bne]
@[simp] theorem eqf_ss {a b : Str} : eqf (.str a) (.str b) = some (a == b) := by simp [eqf, eqOk, PyData.depth, PyData.eqv]
def sameF : PV → PV
  | .tuple [a, b] => .bool (pvEq a b)
  | _ => .none
theorem niceA_mem : ∀ {xs : List PV} {x : PV}, niceA xs = true → x ∈ xs → nice x = true
  | _ :: xs, x, h, hx => by
    rw [niceA] at h
    obtain ⟨h1, h2⟩ := and2 h
    rcases List.mem_cons.mp hx with e | hx
    · rw [e]; exact h1
    · exact niceA_mem h2 hx
theorem depth_mem : ∀ {xs : List PV} {x : PV}, x ∈ xs → x.depth ≤ PyData.depthAll xs
  | y :: xs, x, hx => by
    rw [PyData.depthAll]
    rcases List.mem_cons.mp hx with e | hx
    · rw [e]; omega
    · have := depth_mem hx
      omega
theorem zip_mem : ∀ {xs ys : List PV} {d : PV}, d ∈ zipL xs ys → ∃ a b, d = .tuple [a, b] ∧ a ∈ xs ∧ b ∈ ys
  | [], ys, d, h => by rw [zipL] at h; cases h; all_goals simp
  | _ :: _, [], d, h => by rw [zipL] at h; cases h; all_goals simp
  | x :: xs, y :: ys, d, h => by
    rw [zipL] at h
    rcases List.mem_cons.mp h with e | h
    · exact ⟨x, y, e, List.mem_cons_self, List.mem_cons_self⟩
    · obtain ⟨a, b, e, h1, h2⟩ := zip_mem h
      exact ⟨a, b, e, List.mem_cons_of_mem _ h1, List.mem_cons_of_mem _ h2⟩
theorem same_all : ∀ {xs ys : List PV}, xs.length = ys.length → ∃ bs, bBools ((zipL xs ys).map sameF) = some bs ∧ bs.all id = pvEqs xs ys
  | [], [], _ => ⟨[], rfl, rfl⟩
  | [], _ :: _, h => by cases h
  | _ :: _, [], h => by cases h
  | x :: xs, y :: ys, h => by
    obtain ⟨bs, h1, h2⟩ := same_all (xs := xs) (ys := ys) (by simpa using h)
    refine ⟨pvEq x y :: bs, ?_, ?_⟩
    · rw [zipL, List.map_cons, sameF, bBools, h1]; rfl
    · rw [List.all_cons, h2, pvEqs]; rfl
theorem pvEqs_len : ∀ {xs ys : List PV}, xs.length ≠ ys.length → pvEqs xs ys = false
  | [], [], h => absurd rfl h
  | [], _ :: _, _ => rfl
  | _ :: _, [], _ => rfl
  | x :: xs, y :: ys, h => by
    rw [pvEqs, pvEqs_len (xs := xs) (ys := ys) (by simpa using h), Bool.and_false]
theorem bdec {α : Type} [BEq α] [LawfulBEq α] [DecidableEq α] {a b : α} : (a == b) = decide (a = b) := by
  rw [Bool.eq_iff_iff]; simp
theorem same_spec {T : Nat → Option FD} {i : Nat} (hT : T i = some ⟨2, 4, [], q_law_same i⟩) : ∀ (k : Nat) (d g : PV), nice d = true → nice g = true → d.depth + 1 ≤ k → runF T k i [.v g, .v d] = .ret (.v (.bool (pvEq g d))) []
  | 0, d, g, _, _, h => by omega
  | k + 1, d, g, hd, hg, hk => by
    have seq : ∀ (xs ys : List PV) (mk : List PV → PV), niceA xs = true → niceA ys = true → ys.length ≤ 16777216 → PyData.depthAll ys + 1 ≤ k →
        zipOf (mk xs) (mk ys) = some (zipL xs ys) → isD (mk xs) = false → isD (mk ys) = false →
        evE (runF T k) [] (.lc [2, 3] (.inl [2, 3]) (.zip (.x 0) (.x 1)) .nil (.call i (.cons false (.x 2) (.cons false (.x 3) .nil)))) [some (.v (mk xs)), some (.v (mk ys)), none, none] =
          .ok (.ml ((zipL xs ys).map sameF)) [some (.v (mk xs)), some (.v (mk ys)), none, none] := fun xs ys mk hx hy hl hdep hz d1 d2 => by
      refine lc_map sameF (by simp) ?_ rfl (by rw [zipL_length]; simp; omega) fun d hd => ?_
      · have e1 := y_fzv (env := [some (.v (mk xs)), some (.v (mk ys)), none, none]) d1
        have e2 := y_fzv (env := [some (.v (mk xs)), some (.v (mk ys)), none, none]) d2
        simp [e1, e2, hz]
      · obtain ⟨a, b, rfl, ha, hb⟩ := zip_mem hd
        have dm := depth_mem hb
        have ih := same_spec hT k b a (niceA_mem hy hb) (niceA_mem hx ha) (by omega)
        refine ⟨_, .v (.bool (pvEq a b)), [some (.v (mk xs)), some (.v (mk ys)), some (.v a), some (.v b)], rfl, ?_, rfl, rfl⟩
        simp [ih, handsOk, ioNames, putBack]
    rw [y_run hT]
    cases d with
    | dict _ => cases hd
    | none => cases g <;> first | (cases hg; done) | simp [q_law_same, ioOk, opf1, opf2, cmpf, kindf, vB, isSeqV, isListV, isTupV, isNf, isNone, outsOf, pvEq]
    | bool b => cases g <;> first | (cases hg; done) | simp [q_law_same, ioOk, opf1, opf2, cmpf, kindf, vB, isSeqV, isListV, isTupV, isNf, isNone, outsOf, pvEq, isBoolV, isStrV]
    | int b => cases g <;> first | (cases hg; done) | simp [q_law_same, ioOk, opf1, opf2, cmpf, kindf, vB, isSeqV, isListV, isTupV, isNf, isNone, outsOf, pvEq, isBoolV, isStrV, isIntV, bdec]
    | str b => cases g <;> first | (cases hg; done) | simp [q_law_same, ioOk, opf1, opf2, cmpf, kindf, vB, isSeqV, isListV, isTupV, isNf, isNone, outsOf, pvEq, isBoolV, isStrV, isIntV, bdec]
    | list ys =>
      cases g <;> first | (cases hg; done) | skip
      case list xs =>
        rw [nice] at hd hg
        obtain ⟨hd1, hd2⟩ := and2 hd
        obtain ⟨hg1, hg2⟩ := and2 hg
        rw [PyData.depth] at hk
        have hs := seq xs ys .list hg2 hd2 (of_decide_eq_true hd1) (by omega) rfl rfl rfl
        by_cases hl : xs.length = ys.length
        · obtain ⟨bs, b1, b2⟩ := same_all hl
          simp [q_law_same, ioOk, opf1, opf2, cmpf, kindf, vB, isSeqV, isListV, isTupV, outsOf, pvEq, lenf, vI, hl, hs, allf, b1, b2]
        · have hl' : ((xs.length : Int) == ys.length) = false := by simpa using fun e => hl (by omega)
          simp [q_law_same, ioOk, opf1, opf2, cmpf, kindf, vB, isSeqV, isListV, isTupV, outsOf, pvEq, lenf, vI, hl', pvEqs_len hl]
      all_goals simp [q_law_same, ioOk, opf1, opf2, cmpf, kindf, vB, isSeqV, isListV, isTupV, outsOf, pvEq]
    | tuple ys =>
      cases g <;> first | (cases hg; done) | skip
      case tuple xs =>
        rw [nice] at hd hg
        obtain ⟨hd1, hd2⟩ := and2 hd
        obtain ⟨hg1, hg2⟩ := and2 hg
        rw [PyData.depth] at hk
        have hs := seq xs ys .tuple hg2 hd2 (of_decide_eq_true hd1) (by omega) rfl rfl rfl
        by_cases hl : xs.length = ys.length
        · obtain ⟨bs, b1, b2⟩ := same_all hl
          simp [q_law_same, ioOk, opf1, opf2, cmpf, kindf, vB, isSeqV, isListV, isTupV, outsOf, pvEq, lenf, vI, hl, hs, allf, b1, b2]
        · have hl' : ((xs.length : Int) == ys.length) = false := by simpa using fun e => hl (by omega)
          simp [q_law_same, ioOk, opf1, opf2, cmpf, kindf, vB, isSeqV, isListV, isTupV, outsOf, pvEq, lenf, vI, hl', pvEqs_len hl]
      all_goals simp [q_law_same, ioOk, opf1, opf2, cmpf, kindf, vB, isSeqV, isListV, isTupV, outsOf, pvEq]
end Pv
-- PvCg
set_option maxRecDepth 100000
namespace Pv
open PySem L2
theorem bind_cg {α β : Type} {a b : Rs α} {f : α → En → Rs β} (h : a = b) : a.bind f = b.bind f := by rw [h]
/-- likeness to itself -/
theorem pvEq_self : ∀ d : PV, nice d = true → pvEq d d = true
  | .none, _ => rfl
  | .bool b, _ => by simp [pvEq]
  | .int i, _ => by simp [pvEq]
  | .str s, _ => by simp [pvEq]
  | .list xs, h => by
    rw [nice] at h
    rw [pvEq]
    exact pvEqs_self xs (and2 h).2
  | .tuple xs, h => by
    rw [nice] at h
    rw [pvEq]
    exact pvEqs_self xs (and2 h).2
  | .dict _, h => by cases h
where pvEqs_self : ∀ xs : List PV, niceA xs = true → pvEqs xs xs = true
  | [], _ => rfl
  | x :: xs, h => by
    rw [niceA] at h
    obtain ⟨h1, h2⟩ := and2 h
    rw [pvEqs, pvEq_self x h1, pvEqs_self xs h2]; rfl
end Pv
-- PvTbl
set_option maxRecDepth 100000
namespace Pv
open PySem L2
/-- the entry of a row that is done again and again -/
def atR (r : List Nat) (c : Nat) : Nat := r.getD ((c - 1) % r.length) 0
def chain (f : Nat → Nat) (N : Nat) : Nat → Nat → List Nat
  | 0, x => [x]
  | k + 1, x => x :: (if x = N then [] else chain f N k (f x))
def upTo (N : Nat) : List Nat := (List.range N).map (· + 1)
def newRow (L : List (List Nat)) (N a : Nat) : List Nat := chain (fun x => atR (L.getD x []) (a + 1)) N N (a + 1)
def rowsA (N : Nat) : Nat → List (List Nat)
  | 0 => List.replicate N [] ++ [upTo N]
  | k + 1 => (rowsA N k).set (N - k - 1) (newRow (rowsA N k) N (N - k - 1))
def rowsL (N : Nat) : List (List Nat) := rowsA N (N - 1)
def R (N x : Nat) : List Nat := (rowsL N).getD x []
def F (N x c : Nat) : Nat := atR (R N x) c
theorem rowsA_length (N : Nat) : ∀ k, (rowsA N k).length = N + 1
  | 0 => by simp [rowsA]
  | k + 1 => by rw [rowsA, List.length_set, rowsA_length N k]
theorem getD_set_ne {α : Type} {l : List α} {i j : Nat} {v d : α} (h : i ≠ j) : (l.set i v).getD j d = l.getD j d := by
  simp [List.getD, List.getElem?_set_ne h]
theorem rowsA_stable {N x k : Nat} (hx : N - k ≤ x) : ∀ m, k ≤ m → m ≤ N - 1 → (rowsA N m).getD x [] = (rowsA N k).getD x []
  | 0, h, _ => by rw [show k = 0 by omega]
  | m + 1, h, h2 => by
    by_cases e : k = m + 1
    · rw [e]
    · rw [rowsA, getD_set_ne (by omega), rowsA_stable hx m (by omega) (by omega)]
/-- what a chain is -/
structure Chain (f : Nat → Nat) (N x : Nat) (r : List Nat) : Prop where
  pos : 0 < r.length
  head : r.getD 0 0 = x
  last : r.getD (r.length - 1) 0 = N
  lo : ∀ e ∈ r, x ≤ e
  hi : ∀ e ∈ r, e ≤ N
  next : ∀ i, i + 1 < r.length → r.getD (i + 1) 0 = f (r.getD i 0)
  early : ∀ i, i + 1 < r.length → r.getD i 0 < N
theorem chain_spec {f : Nat → Nat} {N : Nat} : ∀ (k x : Nat), (∀ y, x ≤ y → y < N → y < f y ∧ f y ≤ N) → x ≤ N → N ≤ x + k → Chain f N x (chain f N k x)
  | 0, x, hf, hx, hk => by
    have : x = N := by omega
    subst this
    exact ⟨by simp [chain], rfl, rfl, by simp [chain], by simp [chain], by simp [chain], by simp [chain]⟩
  | k + 1, x, hf, hx, hk => by
    rw [chain]
    by_cases e : x = N
    · subst e
      rw [if_pos rfl]
      exact ⟨by simp, rfl, rfl, by simp, by simp, by simp, by simp⟩
    · rw [if_neg e]
      have h1 := hf x (Nat.le_refl _) (by omega)
      have ih := chain_spec (f := f) (N := N) k (f x) (fun y hy hy2 => hf y (by omega) hy2) h1.2 (by omega)
      generalize chain f N k (f x) = r at ih
      have hp := ih.pos
      refine ⟨by simp, rfl, ?_, ?_, ?_, ?_, ?_⟩
      · have := ih.last
        rw [List.length_cons, Nat.add_sub_cancel]
        obtain ⟨m, hm⟩ : ∃ m, r.length = m + 1 := ⟨r.length - 1, by omega⟩
        rw [hm] at this ⊢
        exact this
      · intro e he
        rcases List.mem_cons.mp he with e' | he
        · omega
        · have := ih.lo e he; omega
      · intro e he
        rcases List.mem_cons.mp he with e' | he
        · omega
        · exact ih.hi e he
      · intro i hi
        rw [List.length_cons] at hi
        cases i with
        | zero => exact ih.head
        | succ i => exact ih.next i (by omega)
      · intro i hi
        rw [List.length_cons] at hi
        cases i with
        | zero => show x < N; omega
        | succ i => exact ih.early i (by omega)
theorem chain_congr {f g : Nat → Nat} {N : Nat} : ∀ (k x : Nat), (∀ y, x ≤ y → y < N → f y = g y) → (∀ y, x ≤ y → y < N → y < g y ∧ g y ≤ N) → x ≤ N → chain f N k x = chain g N k x
  | 0, x, _, _, _ => rfl
  | k + 1, x, h, h2, hx => by
    rw [chain, chain]
    by_cases e : x = N
    · rw [if_pos e, if_pos e]
    · have h3 := h2 x (Nat.le_refl _) (by omega)
      rw [if_neg e, if_neg e, h x (Nat.le_refl _) (by omega), chain_congr k (g x) (fun y hy => h y (by omega)) (fun y hy => h2 y (by omega)) h3.2]
theorem upTo_getD {N c : Nat} (h : c < N) : (upTo N).getD c 0 = c + 1 := by
  simp [upTo, List.getD, h]
theorem upTo_length (N : Nat) : (upTo N).length = N := by simp [upTo]
theorem R_top {N : Nat} (h : 0 < N) : R N N = upTo N := by
  rw [R, rowsL, rowsA_stable (k := 0) (by omega) (N - 1) (by omega) (by omega), rowsA]
  simp [List.getD]
theorem F_top {N c : Nat} (h1 : 1 ≤ c) (h2 : c ≤ N) : F N N c = c := by
  rw [F, R_top (by omega), atR, upTo_length, Nat.mod_eq_of_lt (by omega), upTo_getD (by omega)]
  omega
theorem getD_mem {r : List Nat} {i : Nat} (h : i < r.length) : r.getD i 0 ∈ r := by
  rw [List.getD_eq_getElem?_getD, List.getElem?_eq_getElem h]
  exact List.getElem_mem h
/-- what a row is -/
structure Row (N a : Nat) : Prop where
  eq : R N a = chain (fun x => F N x (a + 1)) N N (a + 1)
  ch : Chain (fun x => F N x (a + 1)) N (a + 1) (R N a)
theorem atR_chain {f : Nat → Nat} {N x : Nat} {r : List Nat} (h : Chain f N x r) (c : Nat) : x ≤ atR r c ∧ atR r c ≤ N := by
  have hlt : (c - 1) % r.length < r.length := Nat.mod_lt _ h.pos
  have hm := getD_mem hlt
  exact ⟨h.lo _ hm, h.hi _ hm⟩
theorem row_spec {N : Nat} : ∀ (d a : Nat), a + d = N → 1 ≤ a → 1 ≤ d → Row N a
  | 0, a, _, _, h => by omega
  | d + 1, a, hd, ha, _ => by
    have step : ∀ y, a + 1 ≤ y → y < N → y < F N y (a + 1) ∧ F N y (a + 1) ≤ N := fun y hy hy2 => by
      have ih := row_spec (N := N) (N - y) y (by omega) (by omega) (by omega)
      have := atR_chain ih.ch (a + 1)
      rw [F]; omega
    have e : R N a = chain (fun x => F N x (a + 1)) N N (a + 1) := by
      rw [R, rowsL, rowsA_stable (k := N - a) (by omega) (N - 1) (by omega) (by omega)]
      obtain ⟨k, hk⟩ : ∃ k, N - a = k + 1 := ⟨N - a - 1, by omega⟩
      have hka : N - k - 1 = a := by omega
      rw [hk, rowsA, hka]
      have hl := rowsA_length N k
      have : ((rowsA N k).set a (newRow (rowsA N k) N a)).getD a [] = newRow (rowsA N k) N a := by
        simp [List.getD, List.getElem?_set_self (show a < (rowsA N k).length by omega)]
      rw [this, newRow]
      refine chain_congr N (a + 1) (fun y hy hy2 => ?_) (fun y hy hy2 => step y hy hy2) (by omega)
      rw [F, R, rowsL, rowsA_stable (k := k) (by omega) (N - 1) (by omega) (by omega)]
    exact ⟨e, by rw [e]; exact chain_spec N (a + 1) (fun y hy hy2 => step y hy hy2) (by omega) (by omega)⟩
theorem row_of {N a : Nat} (h1 : 1 ≤ a) (h2 : a < N) : Row N a := row_spec (N - a) a (by omega) h1 (by omega)
theorem F_lo {N a c : Nat} (h1 : 1 ≤ a) (h2 : a < N) : a < F N a c ∧ F N a c ≤ N := by
  have := atR_chain (row_of h1 h2).ch c
  rw [F]; omega
theorem F_one {N a : Nat} (h1 : 1 ≤ a) (h2 : a < N) : F N a 1 = a + 1 := by
  have h := (row_of h1 h2).ch
  rw [F, atR, show 1 - 1 = 0 by omega, Nat.zero_mod, h.head]
theorem F_next {N a b : Nat} (h1 : 1 ≤ a) (h2 : a < N) (hb : 1 ≤ b) : F N a (b + 1) = F N (F N a b) (a + 1) := by
  have h := (row_of h1 h2).ch
  have hp := h.pos
  have hlt : (b - 1) % (R N a).length < (R N a).length := Nat.mod_lt _ hp
  have e1 : F N a b = (R N a).getD ((b - 1) % (R N a).length) 0 := rfl
  have e2 : F N a (b + 1) = (R N a).getD (b % (R N a).length) 0 := rfl
  by_cases hl : (b - 1) % (R N a).length + 1 < (R N a).length
  · have : b % (R N a).length = (b - 1) % (R N a).length + 1 := by
      obtain ⟨c, rfl⟩ : ∃ c, b = c + 1 := ⟨b - 1, by omega⟩
      rw [Nat.add_sub_cancel] at hl ⊢
      rw [Nat.add_mod, Nat.mod_eq_of_lt (a := 1) (by omega), Nat.mod_eq_of_lt hl]
    rw [e2, this, h.next _ hl, e1]
  · have e3 : (b - 1) % (R N a).length = (R N a).length - 1 := by omega
    have : b % (R N a).length = 0 := by
      obtain ⟨c, rfl⟩ : ∃ c, b = c + 1 := ⟨b - 1, by omega⟩
      rw [Nat.add_sub_cancel] at e3
      have hd := Nat.div_add_mod c (R N a).length
      rw [e3] at hd
      have : c + 1 = (R N a).length * (c / (R N a).length + 1) := by rw [Nat.mul_add]; omega
      rw [this, Nat.mul_mod_right]
    rw [e2, this, h.head, e1, e3, h.last, F_top (by omega) (by omega)]
end Pv
-- PvRows
set_option maxRecDepth 100000
namespace Pv
open PySem L2
def nI (n : Nat) : PV := .int n
def rowV (r : List Nat) : PV := .list (r.map nI)
def rowsV (N : Nat) : List PV := (List.range (N + 1)).map fun x => rowV (R N x)
/-- done down to a -/
def rowsD (N a : Nat) : List PV := (List.range (N + 1)).map fun x => rowV (if a ≤ x then R N x else [])
def downL : Nat → List PV
  | 0 => []
  | n + 1 => .int ((n + 1 : Nat) : Int) :: downL n
theorem rangeL_down : ∀ n : Nat, rangeL (n : Int) n (-1) = downL n
  | 0 => rfl
  | n + 1 => by
    rw [downL, ← rangeL_down n, rangeL, List.range_succ_eq_map, List.map_cons, List.map_map, rangeL]
    have : (fun k : Nat => PyData.int (((n + 1 : Nat) : Int) + (k : Int) * -1)) ∘ Nat.succ = fun k : Nat => PyData.int ((n : Int) + (k : Int) * -1) := by
      funext k
      simp only [Function.comp]
      congr 1
      omega
    rw [this]
    congr 1
theorem idx_at {xs : List PV} {i : Int} {j : Nat} {d : PV} (hi : i = j) (h : xs[j]? = some d) : idxf (.list xs) (.int i) = some (.v d) := by
  have hlt : j < xs.length := (List.getElem?_eq_some_iff.mp h).1
  subst hi
  have h0 : (0 : Int) ≤ (j : Int) := by omega
  have h1 : (j : Int) < (xs.length : Int) := by omega
  simp only [idxf, atI, ixN, if_pos h0, if_pos h1, Int.toNat_natCast, Option.bind_some, h, Option.map_some]
theorem idx_end {pre : List PV} {x : PV} : idxf (.list (pre ++ [x])) (.int (-1)) = some (.v x) := by
  have h : ¬ ((0 : Int) ≤ -1) := by omega
  have h2 : -(((pre ++ [x]).length : Nat) : Int) ≤ -1 := by simp; omega
  have h3 : (-1 + (((pre ++ [x]).length : Nat) : Int)).toNat = pre.length := by
    rw [List.length_append, List.length_singleton]; omega
  simp only [idxf, atI, ixN]
  rw [if_neg h, if_pos h2, h3]
  simp
theorem ixN_at {n j : Nat} {i : Int} (hi : i = j) (h : j < n) : ixN n i = some j := by
  subst hi
  simp [ixN, h]
theorem rowV_at {r : List Nat} {i : Int} {j : Nat} (hi : i = j) (h : j < r.length) : idxf (rowV r) (.int i) = some (.v (.int (r.getD j 0))) := by
  refine idx_at hi ?_
  rw [List.getElem?_map, List.getElem?_eq_getElem h, List.getD_eq_getElem?_getD, List.getElem?_eq_getElem h]
  rfl
theorem rowsD_at {N a x : Nat} (h : x ≤ N) : (rowsD N a)[x]? = some (rowV (if a ≤ x then R N x else [])) := by
  have : x < N + 1 := by omega
  rw [rowsD, List.getElem?_map, List.getElem?_range this]; rfl
theorem rowsD_length (N a : Nat) : (rowsD N a).length = N + 1 := by simp [rowsD]
theorem rowsD_set {N a : Nat} (h : a < N) : (rowsD N (a + 1)).set a (rowV (R N a)) = rowsD N a := by
  refine List.ext_getElem? fun x => ?_
  by_cases e : x = a
  · subst e
    rw [List.getElem?_set_self (by rw [rowsD_length]; omega), rowsD_at (by omega), if_pos (Nat.le_refl _)]
  · rw [List.getElem?_set_ne (fun q => e q.symm)]
    by_cases l : x ≤ N
    · rw [rowsD_at l, rowsD_at l]
      congr 2
      by_cases q : a ≤ x
      · rw [if_pos q, if_pos (by omega)]
      · rw [if_neg q, if_neg (by omega)]
    · rw [List.getElem?_eq_none (by rw [rowsD_length]; omega), List.getElem?_eq_none (by rw [rowsD_length]; omega)]
@[simp] theorem rowV_fz {r : List Nat} {env : En} : fzR (.v (rowV r)) env = .ok (rowV r) env := rfl
theorem rowV_len {r : List Nat} : lenf (rowV r) = some (.v (.int r.length)) := by simp [rowV, lenf, vI]
theorem wfuel_big {n : Nat} (h : n ≤ 1000000) : n < wfuel := by unfold wfuel; omega
theorem rows_turn {cf : Nat → List Ob → CR} {S pre : List PV} {r : List Nat} {X A M y L : Int} {o0 o1 o3 o6 : Option Ob} (h2 : idxf (.list S) (.int X) = some (.v (rowV r))) (hl : lenf (rowV r) = some (.v (.int L))) (h3 : modf (.int A) (.int L) = some (.v (.int M))) (h4 : idxf (rowV r) (.int M) = some (.v (.int y))) (hlen : pre.length + 1 < 16777216) :
    whlB cf [] (.cons (.asg true 6 (.op .idx (.cons false (.x 2) (.cons false (.op .idx (.cons false (.x 5) (.cons false (.op .neg (.cons false (.c (.int 1)) .nil)) .nil))) .nil))))
    (.cons (.ap 5 (.op .idx (.cons false (.x 6) (.cons false (.op .mod (.cons false (.x 4) (.cons false (.op .len (.cons false (.x 6) .nil)) .nil))) .nil)))) .nil))
      [o0, o1, some (.ml S), o3, some (.v (.int A)), some (.ml (pre ++ [.int X])), o6] = .ok .nx [o0, o1, some (.ml S), o3, some (.v (.int A)), some (.ml (pre ++ [.int X] ++ [.int y])), some (.v (rowV r))] := by
  generalize rowV r = rv at h2 hl h4
  simp [whlB, free, opf1, opf2, negf, vI, idx_end, h2, hl, h3, h4, isMl, hlen]
theorem rows_while {cf : Nat → List Ob → CR} {N a : Nat} (h1 : 1 ≤ a) (h2 : a < N) (hN : N ≤ 100000) {S : List PV} (hS : ∀ x, a < x → x ≤ N → S[x]? = some (rowV (R N x))) {o0 o3 : Option Ob} : ∀ (k x : Nat) (pre : List PV) (o6 : Option Ob) (n : Nat), a < x → x ≤ N → N ≤ x + k → k + 1 < n → pre.length + k + 1 ≤ 200000 →
    ∃ o6', whileN (whlC cf [] (.op .ne (.cons false (.op .idx (.cons false (.x 5) (.cons false (.op .neg (.cons false (.c (.int 1)) .nil)) .nil))) (.cons false (.x 1) .nil)))) (whlB cf [] (.cons (.asg true 6 (.op .idx (.cons false (.x 2) (.cons false (.op .idx (.cons false (.x 5) (.cons false (.op .neg (.cons false (.c (.int 1)) .nil)) .nil))) .nil))))
    (.cons (.ap 5 (.op .idx (.cons false (.x 6) (.cons false (.op .mod (.cons false (.x 4) (.cons false (.op .len (.cons false (.x 6) .nil)) .nil))) .nil)))) .nil))) n
      [o0, some (.v (.int N)), some (.ml S), o3, some (.v (.int a)), some (.ml (pre ++ [nI x])), o6] = .ok .nx [o0, some (.v (.int N)), some (.ml S), o3, some (.v (.int a)), some (.ml (pre ++ (chain (fun x => F N x (a + 1)) N k x).map nI)), o6'] := by
  intro k
  induction k with
  | zero =>
    intro x pre o6 n _ hx hk hn hp
    have e : x = N := by omega
    subst e
    obtain ⟨n, rfl⟩ : ∃ j, n = j + 1 := ⟨n - 1, by omega⟩
    refine ⟨o6, ?_⟩
    rw [whileN]
    simp [whlC, whlB, opf1, opf2, cmpf, negf, vI, idx_end, nI, chain]
  | succ k ih =>
    intro x pre o6 n hax hx hk hn hp
    obtain ⟨n, rfl⟩ : ∃ j, n = j + 1 := ⟨n - 1, by omega⟩
    by_cases e : x = N
    · subst e
      refine ⟨o6, ?_⟩
      rw [whileN]
      simp [whlC, whlB, opf1, opf2, cmpf, negf, vI, idx_end, nI, chain]
    · have hlo := F_lo (N := N) (a := x) (c := a + 1) (by omega) (by omega)
      have hp0 := (row_of (N := N) (a := x) (by omega) (by omega)).ch.pos
      obtain ⟨o6', ih'⟩ := ih (F N x (a + 1)) (pre ++ [nI x]) (some (.v (rowV (R N x)))) n (by omega) (by omega) (by omega) (by omega) (by rw [List.length_append, List.length_singleton]; omega)
      refine ⟨o6', ?_⟩
      have hm : modf (.int (a : Int)) (.int ((R N x).length : Int)) = some (.v (.int ((a % (R N x).length : Nat) : Int))) := by
        have : (0 : Int) < ((R N x).length : Int) := by omega
        rw [modf, if_pos this, vI, ← Int.natCast_emod]
      have t := rows_turn (cf := cf) (S := S) (pre := pre) (r := R N x) (X := (x : Int)) (A := (a : Int)) (o0 := o0) (o1 := some (.v (.int N))) (o3 := o3) (o6 := o6) (idx_at rfl (hS x hax hx)) rowV_len hm (rowV_at rfl (Nat.mod_lt _ hp0)) (by omega)
      have c : whlC cf [] (.op .ne (.cons false (.op .idx (.cons false (.x 5) (.cons false (.op .neg (.cons false (.c (.int 1)) .nil)) .nil))) (.cons false (.x 1) .nil))) [o0, some (.v (.int N)), some (.ml S), o3, some (.v (.int a)), some (.ml (pre ++ [nI x])), o6] = .ok true [o0, some (.v (.int N)), some (.ml S), o3, some (.v (.int a)), some (.ml (pre ++ [nI x])), o6] := by
        have : ((x : Int) != (N : Int)) = true := by simp; omega
        simp [whlC, opf1, opf2, cmpf, negf, vI, idx_end, nI, this]
      rw [whileN, c, Rs.bind_ok, if_pos rfl]
      have e2 : (R N x).getD (a % (R N x).length) 0 = F N x (a + 1) := rfl
      rw [e2] at t
      rw [show nI x = .int (x : Int) from rfl, t, Rs.bind_ok, chain, if_neg e]
      rw [show (PyData.int (F N x (a + 1) : Int)) = nI (F N x (a + 1)) from rfl]
      simp only [ih', List.map_cons, List.append_assoc, List.cons_append, List.nil_append] at ih' ⊢
      exact ih'
theorem R_zero {N : Nat} (h : 0 < N) : R N 0 = [] := by
  have : ∀ k, k ≤ N - 1 → (rowsA N k).getD 0 [] = [] := fun k => by
    induction k with
    | zero => intro _; rw [rowsA]; simp [List.getD, h]
    | succ k ih => intro hk; rw [rowsA, getD_set_ne (by omega), ih (by omega)]
  exact this _ (Nat.le_refl _)
theorem rowsD_one {N : Nat} (h : 0 < N) : rowsD N 1 = rowsV N := by
  rw [rowsD, rowsV]
  refine List.map_congr_left fun x _ => ?_
  by_cases e : 1 ≤ x
  · rw [if_pos e]
  · rw [if_neg e, show x = 0 by omega, R_zero h]
def rowsWhile : IS := .whl (.op .ne (.cons false (.op .idx (.cons false (.x 5) (.cons false (.op .neg (.cons false (.c (.int 1)) .nil)) .nil))) (.cons false (.x 1) .nil))) (.cons (.asg true 6 (.op .idx (.cons false (.x 2) (.cons false (.op .idx (.cons false (.x 5) (.cons false (.op .neg (.cons false (.c (.int 1)) .nil)) .nil))) .nil))))
    (.cons (.ap 5 (.op .idx (.cons false (.x 6) (.cons false (.op .mod (.cons false (.x 4) (.cons false (.op .len (.cons false (.x 6) .nil)) .nil))) .nil)))) .nil))
def rowsBody : ISs := .cons (.asg false 5 (.lst (.cons false (.op .add (.cons false (.x 4) (.cons false (.c (.int 1)) .nil))) .nil)))
    (.cons rowsWhile (.cons (.sub 2 (.x 4) (.x 5)) .nil))
theorem rows_turn2 {cf : Nat → List Ob → CR} {N a : Nat} (h1 : 1 ≤ a) (h2 : a < N) (hN : N ≤ 100000) {o0 o3 o4 o5 o6 : Option Ob} :
    ∃ o4' o5' o6', forT cf [] (.inr 4) rowsBody (.int (a : Int)) [o0, some (.v (.int N)), some (.ml (rowsD N (a + 1))), o3, o4, o5, o6] = .ok .nx [o0, some (.v (.int N)), some (.ml (rowsD N a)), o3, o4', o5', o6'] := by
  obtain ⟨o6', w⟩ := rows_while (cf := cf) h1 h2 hN (S := rowsD N (a + 1)) (fun x hx hx2 => by rw [rowsD_at hx2, if_pos (by omega)]) (o0 := o0) (o3 := o3) N (a + 1) [] o6 wfuel (by omega) (by omega) (by omega) (wfuel_big (by omega)) (by rw [List.length_nil]; omega)
  rw [← (row_of h1 h2).eq] at w
  have hset := rowsD_set h2
  have hix : ixN (rowsD N (a + 1)).length (a : Int) = some a := ixN_at rfl (by rw [rowsD_length]; omega)
  have e1 : (nI (a + 1)) = .int ((a : Int) + 1) := by rw [nI]; congr 1
  rw [e1] at w
  rw [rowV] at hset
  generalize rowsD N (a + 1) = S at w hset hix ⊢
  generalize (R N a).map nI = r at w hset
  generalize (a : Int) = A at w hix ⊢
  generalize (N : Int) = B at w ⊢
  refine ⟨some (.v (.int A)), some (.v (.list r)), o6', ?_⟩
  rw [List.nil_append, List.nil_append] at w
  have c1 : ∀ o4 o5 o6 : Option Ob, o4 = some (.v (.int A)) → evE cf [] (.lst (.cons false (.op .add (.cons false (.x 4) (.cons false (.c (.int 1)) .nil))) .nil)) [o0, some (.v (.int B)), some (.ml S), o3, o4, o5, o6] = .ok (.ml [.int (A + 1)]) [o0, some (.v (.int B)), some (.ml S), o3, o4, o5, o6] := fun o4 o5 o6 h => by
    subst h
    simp [opf2, addf, vI]
  have w' : evS cf [] rowsWhile [o0, some (.v (.int B)), some (.ml S), o3, some (.v (.int A)), some (.ml [.int (A + 1)]), o6] = .ok .nx [o0, some (.v (.int B)), some (.ml S), o3, some (.v (.int A)), some (.ml r), o6'] := by
    rw [rowsWhile, y_whl]; exact w
  have c2 : evS cf [] (.sub 2 (.x 4) (.x 5)) [o0, some (.v (.int B)), some (.ml S), o3, some (.v (.int A)), some (.ml r), o6'] = .ok .nx [o0, some (.v (.int B)), some (.ml (S.set a (.list r))), o3, some (.v (.int A)), some (.v (.list r)), o6'] := by
    simp [isMl, hix]
  rw [forT]
  simp only [setTg, List.set, rowsBody]
  rw [y_ss1, y_asg, if_pos (by rfl), c1 _ _ _ rfl, Rs.bind_ok, Rs.bind_ok]
  simp only [y_z0, List.set]
  rw [y_ss1, w', Rs.bind_ok]
  simp only []
  rw [y_ss1, c2, Rs.bind_ok]
  simp only [hset, y_ss0]
theorem rows_for {cf : Nat → List Ob → CR} {N : Nat} (hN : N ≤ 100000) {o0 o3 : Option Ob} : ∀ (n : Nat) (o4 o5 o6 : Option Ob), n < N →
    ∃ o4' o5' o6', forL (forT cf [] (.inr 4) rowsBody) (downL n) [o0, some (.v (.int N)), some (.ml (rowsD N (n + 1))), o3, o4, o5, o6] = .ok .nx [o0, some (.v (.int N)), some (.ml (rowsD N 1)), o3, o4', o5', o6']
  | 0, o4, o5, o6, _ => ⟨o4, o5, o6, by rw [downL, forL]⟩
  | n + 1, o4, o5, o6, h => by
    obtain ⟨p4, p5, p6, t⟩ := rows_turn2 (cf := cf) (N := N) (a := n + 1) (by omega) h hN (o0 := o0) (o3 := o3) (o4 := o4) (o5 := o5) (o6 := o6)
    obtain ⟨q4, q5, q6, u⟩ := rows_for (cf := cf) hN (o0 := o0) (o3 := o3) n p4 p5 p6 (by omega)
    refine ⟨q4, q5, q6, ?_⟩
    rw [downL, forL, t, Rs.bind_ok]
    exact u
theorem shl_one {l : Nat} (h : l ≤ 13) : shlf (.int 1) (.int (l : Int)) = some (.v (.int ((2 ^ l : Nat) : Int))) := by
  have h1 : powOk 1 (l : Int) = true := by simp [powOk]; omega
  rw [shlf, if_pos h1, vI, Int.toNat_natCast, Int.one_mul]
  congr 3
theorem pow_le13 {l : Nat} (h : l ≤ 13) : 1 ≤ 2 ^ l ∧ 2 ^ l ≤ 8192 := by
  refine ⟨Nat.one_le_two_pow, ?_⟩
  have := Nat.pow_le_pow_right (n := 2) (by omega) h
  omega
theorem listR_up {N : Nat} (h : N ≤ 100000) : listRf (.int 1) (.int ((N : Int) + 1)) = some (.ml ((upTo N).map nI)) := by
  have h1 : rgOk 1 ((N : Int) + 1) = true := by
    simp only [rgOk, Bool.and_eq_true, decide_eq_true_eq]
    omega
  have e : rgP 1 ((N : Int) + 1) = (upTo N).map nI := by
    have e2 : (PyData.int ∘ fun i : Nat => (1 : Int) + (i : Int)) = (nI ∘ fun x => x + 1) := by
      funext i
      show PyData.int (1 + (i : Int)) = PyData.int ((i + 1 : Nat) : Int)
      rw [Int.natCast_add, Int.add_comm]
      rfl
    rw [rgP, upTo, List.map_map, Int.add_sub_cancel, Int.toNat_natCast, ← e2]
    rfl
  rw [listRf, if_pos h1, e]
theorem rowsD_top {N : Nat} (h : 0 < N) : rowsD N N = List.replicate N (.list []) ++ [rowV (upTo N)] := by
  rw [rowsD, List.range_succ, List.map_append, List.map_singleton, if_pos (Nat.le_refl _), R_top h]
  congr 1
  refine List.ext_getElem? fun i => ?_
  by_cases hi : i < N
  · rw [List.getElem?_map, List.getElem?_range hi, List.getElem?_replicate_of_lt hi]
    simp only [Option.map_some]
    rw [if_neg (by omega)]; rfl
  · rw [List.getElem?_eq_none (by simp; omega), List.getElem?_eq_none (by simp; omega)]
theorem range_up {n : Nat} (h : n ≤ 100000) : rangeV [.int (n : Int)] = some (rangeL 0 n 1) := by
  have h1 : decide (-(2 ^ 62) ≤ (n : Int)) = true := decide_eq_true (by omega)
  have h2 : decide ((n : Int) < 2 ^ 62) = true := decide_eq_true (by omega)
  simp only [rangeV, h1, h2, Bool.and_self, if_true, Int.toNat_natCast]
theorem range_dn {n : Nat} {A : Int} (hA : A = n) (h : n ≤ 100000) : rangeV [.int A, .int 0, .int (-1)] = some (downL n) := by
  subst hA
  have h1 : decide (-(2 ^ 62) ≤ (n : Int)) = true := decide_eq_true (by omega)
  have h2 : decide ((n : Int) < 2 ^ 62) = true := decide_eq_true (by omega)
  have h3 : decide (-(2 ^ 62) ≤ (0 : Int)) = true := decide_eq_true (by omega)
  have h4 : decide ((0 : Int) < 2 ^ 62) = true := decide_eq_true (by omega)
  simp only [rangeV, h1, h2, h3, h4, Bool.and_self, if_true, Int.sub_zero, Int.toNat_natCast, rangeL_down]
end Pv
-- PvRows2
set_option maxRecDepth 100000
namespace Pv
open PySem L2
theorem run_ret {T : Nat → Option FD} {i k np ns : Nat} {body : ISs} {args : List Ob} {env env' : En} {o : Ob} (hT : T i = some ⟨np, ns, [], body⟩) (e2 : (args.length == np && ioOk [] 0 args) = true) (e1 : args.map some ++ List.replicate (ns - np) none = env) (hs : evSs (runF T k) [] body env = .ok (.rt o) env') : runF T (k + 1) i args = .ret o [] := by
  rw [y_run hT, if_pos e2]
  simp only [e1, hs]
  simp [outsOf]
theorem rows_c2 {cf : Nat → List Ob → CR} {B : Int} {U : List PV} {o0 o4 o5 o6 : Option Ob} (hl : listRf (.int 1) (.int (B + 1)) = some (.ml U)) :
    evE cf [] (.lst (.cons false (.op .listR (.cons false (.c (.int 1)) (.cons false (.op .add (.cons false (.x 1) (.cons false (.c (.int 1)) .nil))) .nil))) .nil))
      [o0, some (.v (.int B)), none, none, o4, o5, o6] = .ok (.ml [.list U]) [o0, some (.v (.int B)), none, none, o4, o5, o6] := by
  simp [opf2, addf, vI, hl]
theorem rows_c3 {cf : Nat → List Ob → CR} {B : Int} {N : Nat} {U : List PV} {o0 o4 o5 o6 : Option Ob} (hs : N + 1 ≤ 16777216)
  (c1 : evE cf [] (.lc [3] (.inr 3) (.range (.cons false (.x 1) .nil)) .nil (.lst .nil)) [o0, some (.v (.int B)), none, none, o4, o5, o6] = .ok (.ml (List.replicate N (.list []))) [o0, some (.v (.int B)), none, none, o4, o5, o6])
  (c2 : evE cf [] (.lst (.cons false (.op .listR (.cons false (.c (.int 1)) (.cons false (.op .add (.cons false (.x 1) (.cons false (.c (.int 1)) .nil))) .nil))) .nil))
      [o0, some (.v (.int B)), none, none, o4, o5, o6] = .ok (.ml [.list U]) [o0, some (.v (.int B)), none, none, o4, o5, o6]) :
    evE cf [] (.op .add (.cons false (.lc [3] (.inr 3) (.range (.cons false (.x 1) .nil)) .nil (.lst .nil)) (.cons false (.lst (.cons false (.op .listR (.cons false (.c (.int 1)) (.cons false (.op .add (.cons false (.x 1) (.cons false (.c (.int 1)) .nil))) .nil))) .nil)) .nil)))
      [o0, some (.v (.int B)), none, none, o4, o5, o6] = .ok (.ml (List.replicate N (.list []) ++ [.list U])) [o0, some (.v (.int B)), none, none, o4, o5, o6] := by
  rw [y_op, y_a1, y_A1lc, c1, Rs.bind_ok, Rs.bind_ok, y_a1, y_A1lst, c2]
  simp [opf2, addf, hs]
theorem rows_start {cf : Nat → List Ob → CR} {N : Nat} (h : 0 < N) (hN : N ≤ 100000) {o0 o4 o5 o6 : Option Ob} :
    evE cf [] (.op .add (.cons false (.lc [3] (.inr 3) (.range (.cons false (.x 1) .nil)) .nil (.lst .nil)) (.cons false (.lst (.cons false (.op .listR (.cons false (.c (.int 1)) (.cons false (.op .add (.cons false (.x 1) (.cons false (.c (.int 1)) .nil))) .nil))) .nil)) .nil)))
      [o0, some (.v (.int N)), none, none, o4, o5, o6] = .ok (.ml (rowsD N N)) [o0, some (.v (.int N)), none, none, o4, o5, o6] := by
  have hr := range_up hN
  have c1 : evE cf [] (.lc [3] (.inr 3) (.range (.cons false (.x 1) .nil)) .nil (.lst .nil)) [o0, some (.v (.int N)), none, none, o4, o5, o6] = .ok (.ml ((rangeL 0 N 1).map fun _ => .list [])) [o0, some (.v (.int N)), none, none, o4, o5, o6] := by
    refine lc_map _ (by simp) ?_ rfl (by rw [rangeL_length, lim_nat]; omega) fun d hd => ?_
    · have c : evF cf [] (.cons false (.x 1) .nil) [o0, some (.v (.int N)), none, none, o4, o5, o6] = .ok [.int N] [o0, some (.v (.int N)), none, none, o4, o5, o6] := by simp
      rw [y_range, c, Rs.bind_ok, hr, optR_some]
    · exact ⟨[o0, some (.v (.int N)), none, some (.v d), o4, o5, o6], .ml [], [o0, some (.v (.int N)), none, some (.v d), o4, o5, o6], rfl, by simp, rfl, rfl⟩
  have e1 : (rangeL 0 N 1).map (fun _ => PyData.list []) = List.replicate N (.list []) := by
    rw [List.map_const', rangeL_length]
  rw [e1] at c1
  have hl := listR_up hN
  rw [rowsD_top h, rowV]
  exact rows_c3 (by omega) c1 (rows_c2 hl)
theorem rows_in_spec {T : Nat → Option FD} {i : Nat} (hT : T i = some ⟨1, 7, [], q_rows_in_2⟩) (k l : Nat) (hl : l ≤ 13) : runF T (k + 1) i [.v (.int l)] = .ret (.ml (rowsV (2 ^ l))) [] := by
  have hp := pow_le13 hl
  have hs := shl_one hl
  generalize 2 ^ l = N at hp hs ⊢
  have c0 := rows_start (cf := runF T k) (N := N) (by omega) (by omega) (o0 := some (.v (.int l))) (o4 := none) (o5 := none) (o6 := none)
  obtain ⟨o4, o5, o6, f⟩ := rows_for (cf := runF T k) (N := N) (by omega) (o0 := some (.v (.int l))) (o3 := none) (N - 1) none none none (by omega)
  have hd : rangeV [.int ((N : Int) - 1), .int 0, .int (-1)] = some (downL (N - 1)) := range_dn (by omega) (by omega)
  rw [show N - 1 + 1 = N by omega, rowsD_one (by omega)] at f
  have c1 : evE (runF T k) [] (.op .shl (.cons false (.c (.int 1)) (.cons false (.x 0) .nil))) [some (.v (.int l)), none, none, none, none, none, none] = .ok (.v (.int N)) [some (.v (.int l)), none, none, none, none, none, none] := by
    generalize (l : Int) = A at hs ⊢
    simp [opf2, hs]
  have c3 : evF (runF T k) [] (.cons false (.op .sub (.cons false (.x 1) (.cons false (.c (.int 1)) .nil))) (.cons false (.c (.int 0)) (.cons false (.op .neg (.cons false (.c (.int 1)) .nil)) .nil))) [some (.v (.int l)), some (.v (.int N)), some (.ml (rowsD N N)), none, none, none, none] = .ok [.int ((N : Int) - 1), .int 0, .int (-1)] [some (.v (.int l)), some (.v (.int N)), some (.ml (rowsD N N)), none, none, none, none] := by
    generalize (l : Int) = A
    generalize (N : Int) = B
    simp [opf1, opf2, subf, negf, vI]
  refine run_ret hT rfl rfl (env' := [some (.v (.int l)), some (.v (.int N)), none, none, o4, o5, o6]) ?_
  rw [q_rows_in_2]
  show evSs (runF T k) [] _ [some (.v (.int l)), none, none, none, none, none, none] = _
  rw [y_ss1, y_asg, if_pos (by rfl), c1, Rs.bind_ok, Rs.bind_ok]
  simp only [y_z1, y_zv, List.set]
  rw [y_ss1, y_asg, if_pos (by rfl), c0, Rs.bind_ok, Rs.bind_ok]
  simp only [y_z0, List.set]
  rw [y_ss1, y_for, if_pos (by rfl), y_range, c3, Rs.bind_ok, hd, optR_some, Rs.bind_ok]
  rw [rowsBody, rowsWhile] at f
  rw [f, Rs.bind_ok]
  simp only []
  rw [y_ss1, y_ret, y_retx]
  simp [free]
end Pv
-- PvLawT
set_option maxRecDepth 100000
namespace Pv
open PySem L2
def rowP (N a m : Nat) : List PV := .int 0 :: (List.range m).map fun j => nI (F N a (j + 1))
def tabD (N a : Nat) : List PV := (List.range (N + 1)).map fun x => if a ≤ x then .list (rowP N x N) else .none
def tabV (N : Nat) : List PV := tabD N 1
theorem rowP_len (N a m : Nat) : (rowP N a m).length = m + 1 := by simp [rowP]
theorem rowP_at {N a m j : Nat} (h : j < m) : (rowP N a m)[j + 1]? = some (nI (F N a (j + 1))) := by
  rw [rowP, List.getElem?_cons_succ, List.getElem?_map, List.getElem?_range h]; rfl
theorem rowP_at' {N a m c : Nat} (h1 : 1 ≤ c) (h : c ≤ m) : (rowP N a m)[c]? = some (nI (F N a c)) := by
  obtain ⟨j, rfl⟩ : ∃ j, c = j + 1 := ⟨c - 1, by omega⟩
  exact rowP_at (by omega)
theorem rowP_snoc (N a m : Nat) : rowP N a m ++ [nI (F N a (m + 1))] = rowP N a (m + 1) := by
  rw [rowP, rowP, List.range_succ, List.map_append, List.map_singleton, List.cons_append]
theorem tabD_length (N a : Nat) : (tabD N a).length = N + 1 := by simp [tabD]
theorem tabD_at {N a x : Nat} (h : x ≤ N) : (tabD N a)[x]? = some (if a ≤ x then .list (rowP N x N) else .none) := by
  have : x < N + 1 := by omega
  rw [tabD, List.getElem?_map, List.getElem?_range this]; rfl
theorem tabD_set {N a : Nat} (h : a < N) : (tabD N (a + 1)).set a (.list (rowP N a N)) = tabD N a := by
  refine List.ext_getElem? fun x => ?_
  by_cases e : x = a
  · subst e
    rw [List.getElem?_set_self (by rw [tabD_length]; omega), tabD_at (by omega), if_pos (Nat.le_refl _)]
  · rw [List.getElem?_set_ne (fun q => e q.symm)]
    by_cases l : x ≤ N
    · rw [tabD_at l, tabD_at l]
      congr 1
      by_cases q : a ≤ x
      · rw [if_pos q, if_pos (by omega)]
      · rw [if_neg q, if_neg (by omega)]
    · rw [List.getElem?_eq_none (by rw [tabD_length]; omega), List.getElem?_eq_none (by rw [tabD_length]; omega)]
theorem rangeL_up {a : Int} {n : Nat} : rangeL a (n + 1) 1 = .int a :: rangeL (a + 1) n 1 := by
  rw [rangeL, rangeL, List.range_succ_eq_map, List.map_cons, List.map_map]
  have e : (fun k : Nat => PyData.int (a + (k : Int) * 1)) ∘ Nat.succ = fun k : Nat => PyData.int (a + 1 + (k : Int) * 1) := by
    funext k
    simp only [Function.comp]
    congr 1
    omega
  have e0 : a + ((0 : Nat) : Int) * 1 = a := by omega
  rw [e, e0]
def tabIn : ISs := .cons (.ap 4 (.op .idx (.cons false (.op .idx (.cons false (.x 2) (.cons false (.op .idx (.cons false (.x 4) (.cons false (.x 5) .nil))) .nil))) (.cons false (.op .add (.cons false (.x 3) (.cons false (.c (.int 1)) .nil))) .nil)))) .nil
theorem tab_turn {cf : Nat → List Ob → CR} {S P : List PV} {r : PV} {A b y : Int} {d : PV} {o0 o1 o5 : Option Ob} (h1 : idxf (.list P) (.int b) = some (.v (.int y))) (h2 : idxf (.list S) (.int y) = some (.v r)) (h3 : idxf r (.int (A + 1)) = some (.v d)) (hd : isD d = false) (hlen : P.length < 16777216) :
    forT cf [] (.inr 5) tabIn (.int b) [o0, o1, some (.ml S), some (.v (.int A)), some (.ml P), o5] = .ok .nx [o0, o1, some (.ml S), some (.v (.int A)), some (.ml (P ++ [d])), some (.v (.int b))] := by
  have hf := fun env => y_fzv (env := env) hd
  simp [forT, tabIn, setTg, free, opf2, addf, vI, h1, h2, h3, isMl, hf, hlen]
theorem tab_in {cf : Nat → List Ob → CR} {N a : Nat} (h1 : 1 ≤ a) (h2 : a < N) (hN : N ≤ 100000) {S : List PV} (hS : ∀ x, a < x → x ≤ N → S[x]? = some (.list (rowP N x N))) {o0 o1 : Option Ob} : ∀ (n m : Nat) (o5 : Option Ob), 1 ≤ m → m + n = N →
    ∃ o5', forL (forT cf [] (.inr 5) tabIn) (rangeL (m : Int) n 1) [o0, o1, some (.ml S), some (.v (.int a)), some (.ml (rowP N a m)), o5] = .ok .nx [o0, o1, some (.ml S), some (.v (.int a)), some (.ml (rowP N a N)), o5']
  | 0, m, o5, _, h => by
    obtain rfl : m = N := by omega
    exact ⟨o5, by rw [rangeL]; rfl⟩
  | n + 1, m, o5, hm, h => by
    have hF := F_lo (c := m) h1 h2
    have e := F_next h1 h2 hm
    obtain ⟨o5', ih⟩ := tab_in (cf := cf) h1 h2 hN hS (o0 := o0) (o1 := o1) n (m + 1) (some (.v (.int m))) (by omega) (by omega)
    refine ⟨o5', ?_⟩
    have t := tab_turn (cf := cf) (S := S) (P := rowP N a m) (r := .list (rowP N (F N a m) N)) (A := (a : Int)) (b := (m : Int)) (y := (F N a m : Int)) (d := nI (F N a (m + 1))) (o0 := o0) (o1 := o1) (o5 := o5)
      (idx_at rfl (rowP_at' hm (Nat.le_refl _))) (idx_at rfl (hS _ hF.1 hF.2)) (idx_at (j := a + 1) (by omega) (by rw [e]; exact rowP_at' (by omega) (by omega))) rfl (by rw [rowP_len]; omega)
    rw [rowP_snoc] at t
    rw [rangeL_up, forL, t, Rs.bind_ok]
    exact ih
def tabBody : ISs := .cons (.asg false 4 (.lst (.cons false (.c (.int 0)) (.cons false (.op .add (.cons false (.x 3) (.cons false (.c (.int 1)) .nil))) .nil))))
    (.cons (.for_ (.inr 5) (.range (.cons false (.c (.int 1)) (.cons false (.x 1) .nil))) tabIn) (.cons (.sub 2 (.x 3) (.x 4)) .nil))
theorem range_one {N : Nat} (h : 1 ≤ N) (h2 : N ≤ 100000) : rangeV [.int 1, .int (N : Int)] = some (rangeL ((1 : Nat) : Int) (N - 1) 1) := by
  have h1 : decide (-(2 ^ 62) ≤ (N : Int)) = true := decide_eq_true (by omega)
  have h2 : decide ((N : Int) < 2 ^ 62) = true := decide_eq_true (by omega)
  have h3 : decide (-(2 ^ 62) ≤ (1 : Int)) = true := decide_eq_true (by omega)
  have h4 : decide ((1 : Int) < 2 ^ 62) = true := decide_eq_true (by omega)
  have e : ((N : Int) - 1).toNat = N - 1 := by omega
  simp only [rangeV, h1, h2, h3, h4, Bool.and_self, if_true, e]
  rfl
theorem tab_c1 {cf : Nat → List Ob → CR} {A B : Int} {S : List PV} {o0 o4 o5 : Option Ob} : evE cf [] (.lst (.cons false (.c (.int 0)) (.cons false (.op .add (.cons false (.x 3) (.cons false (.c (.int 1)) .nil))) .nil))) [o0, some (.v (.int B)), some (.ml S), some (.v (.int A)), o4, o5] = .ok (.ml [.int 0, .int (A + 1)]) [o0, some (.v (.int B)), some (.ml S), some (.v (.int A)), o4, o5] := by
  simp [opf2, addf, vI]
theorem tab_c2 {cf : Nat → List Ob → CR} {A B : Int} {S r : List PV} {a : Nat} {o0 o5 : Option Ob} (hix : ixN S.length A = some a) : evS cf [] (.sub 2 (.x 3) (.x 4)) [o0, some (.v (.int B)), some (.ml S), some (.v (.int A)), some (.ml r), o5] = .ok .nx [o0, some (.v (.int B)), some (.ml (S.set a (.list r))), some (.v (.int A)), some (.v (.list r)), o5] := by
  simp [isMl, hix]
theorem tab_c3 {cf : Nat → List Ob → CR} {A B : Int} {S r ds : List PV} {o0 o5 : Option Ob} (hr : rangeV [.int 1, .int B] = some ds) : evIt cf [] (.range (.cons false (.c (.int 1)) (.cons false (.x 1) .nil))) [o0, some (.v (.int B)), some (.ml S), some (.v (.int A)), some (.ml r), o5] = .ok ds [o0, some (.v (.int B)), some (.ml S), some (.v (.int A)), some (.ml r), o5] := by
  have c : evF cf [] (.cons false (.c (.int 1)) (.cons false (.x 1) .nil)) [o0, some (.v (.int B)), some (.ml S), some (.v (.int A)), some (.ml r), o5] = .ok [.int 1, .int B] [o0, some (.v (.int B)), some (.ml S), some (.v (.int A)), some (.ml r), o5] := by simp
  rw [y_range, c, Rs.bind_ok, hr, optR_some]
theorem rowP_one {N a : Nat} (h1 : 1 ≤ a) (h2 : a < N) : rowP N a 1 = [.int 0, .int ((a : Int) + 1)] := by
  rw [rowP]
  show [PyData.int 0, nI (F N a 1)] = _
  rw [F_one h1 h2, nI]
  rfl
theorem tab_turn2 {cf : Nat → List Ob → CR} {N a : Nat} (h1 : 1 ≤ a) (h2 : a < N) (hN : N ≤ 100000) {o0 o3 o4 o5 : Option Ob} :
    ∃ o3' o4' o5', forT cf [] (.inr 3) tabBody (.int (a : Int)) [o0, some (.v (.int N)), some (.ml (tabD N (a + 1))), o3, o4, o5] = .ok .nx [o0, some (.v (.int N)), some (.ml (tabD N a)), o3', o4', o5'] := by
  obtain ⟨o5', w⟩ := tab_in (cf := cf) h1 h2 hN (S := tabD N (a + 1)) (fun x hx hx2 => by rw [tabD_at hx2, if_pos (by omega)]) (o0 := o0) (o1 := some (.v (.int N))) (N - 1) 1 o5 (by omega) (by omega)
  have hset := tabD_set h2
  have hr := range_one (N := N) (by omega) hN
  refine ⟨some (.v (.int a)), some (.v (.list (rowP N a N))), o5', ?_⟩
  rw [forT]
  simp only [setTg, List.set, tabBody]
  rw [y_ss1, y_asg, if_pos (by rfl), tab_c1, Rs.bind_ok, Rs.bind_ok]
  simp only [y_z0, List.set]
  rw [y_ss1, y_for, if_pos (by rfl), tab_c3 hr, Rs.bind_ok, ← rowP_one h1 h2, w, Rs.bind_ok]
  simp only []
  rw [y_ss1, tab_c2 (ixN_at rfl (by rw [tabD_length]; omega)), Rs.bind_ok, hset]
  simp only [y_ss0]
theorem tab_for {cf : Nat → List Ob → CR} {N : Nat} (hN : N ≤ 100000) {o0 : Option Ob} : ∀ (n : Nat) (o3 o4 o5 : Option Ob), n < N →
    ∃ o3' o4' o5', forL (forT cf [] (.inr 3) tabBody) (downL n) [o0, some (.v (.int N)), some (.ml (tabD N (n + 1))), o3, o4, o5] = .ok .nx [o0, some (.v (.int N)), some (.ml (tabD N 1)), o3', o4', o5']
  | 0, o3, o4, o5, _ => ⟨o3, o4, o5, by rw [downL, forL]⟩
  | n + 1, o3, o4, o5, h => by
    obtain ⟨p3, p4, p5, t⟩ := tab_turn2 (cf := cf) (N := N) (a := n + 1) (by omega) h hN (o0 := o0) (o3 := o3) (o4 := o4) (o5 := o5)
    obtain ⟨q3, q4, q5, u⟩ := tab_for (cf := cf) hN (o0 := o0) n p3 p4 p5 (by omega)
    refine ⟨q3, q4, q5, ?_⟩
    rw [downL, forL, t, Rs.bind_ok]
    exact u
theorem rep_flat {d : PV} : ∀ m : Nat, (List.replicate m [d]).flatten = List.replicate m d
  | 0 => rfl
  | m + 1 => by rw [List.replicate_succ, List.replicate_succ, List.flatten_cons, rep_flat m]; rfl
theorem mul_none {N : Nat} (h : N ≤ 100000) : mulf (.list [.none]) (.int ((N : Int) + 1)) = some (.ml (List.replicate (N + 1) .none)) := by
  have h1 : decide (-(2 ^ 63) ≤ (N : Int) + 1) = true := decide_eq_true (by omega)
  have h2 : decide ((N : Int) + 1 < 2 ^ 63) = true := decide_eq_true (by omega)
  have e : ((N : Int) + 1).toNat = N + 1 := by omega
  have h3 : decide (1 * (N + 1) ≤ lim) = true := decide_eq_true (by rw [lim_nat]; omega)
  simp only [mulf, List.length_singleton, e, h1, h2, h3, Bool.and_self, if_true, rep_flat]
theorem listR_zero {N : Nat} (h0 : 0 < N) (h : N ≤ 100000) : listRf (.int 0) (.int ((N : Int) + 1)) = some (.ml (rowP N N N)) := by
  have h1 : rgOk 0 ((N : Int) + 1) = true := by
    simp only [rgOk, Bool.and_eq_true, decide_eq_true_eq]
    omega
  have e : rgP 0 ((N : Int) + 1) = rowP N N N := by
    have e3 : ((N : Int) + 1 - 0).toNat = N + 1 := by omega
    rw [rgP, rowP, e3, List.range_succ_eq_map, List.map_cons, List.map_map]
    refine congrArg (List.cons (PyData.int 0)) ?_
    refine List.map_congr_left fun j hj => ?_
    have := List.mem_range.mp hj
    show PyData.int (0 + ((j + 1 : Nat) : Int)) = nI (F N N (j + 1))
    rw [F_top (by omega) (by omega), Int.zero_add]
    rfl
  rw [listRf, if_pos h1, e]
theorem tabD_top {N : Nat} : (List.replicate (N + 1) PyData.none).set N (.list (rowP N N N)) = tabD N N := by
  refine List.ext_getElem? fun x => ?_
  by_cases e : x = N
  · subst e
    rw [List.getElem?_set_self (by simp), tabD_at (Nat.le_refl _), if_pos (Nat.le_refl _)]
  · rw [List.getElem?_set_ne (fun q => e q.symm)]
    by_cases l : x ≤ N
    · rw [tabD_at l, List.getElem?_replicate_of_lt (by omega), if_neg (by omega)]
    · rw [List.getElem?_eq_none (by simp; omega), List.getElem?_eq_none (by rw [tabD_length]; omega)]
theorem tab_d1 {cf : Nat → List Ob → CR} {B : Int} {Z : List PV} {o0 o2 o3 o4 o5 : Option Ob} (h : mulf (.list [.none]) (.int (B + 1)) = some (.ml Z)) : evE cf [] (.op .mul (.cons false (.lst (.cons false (.c .none) .nil)) (.cons false (.op .add (.cons false (.x 1) (.cons false (.c (.int 1)) .nil))) .nil))) [o0, some (.v (.int B)), o2, o3, o4, o5] = .ok (.ml Z) [o0, some (.v (.int B)), o2, o3, o4, o5] := by
  simp [opf2, addf, vI, h]
theorem tab_d2 {cf : Nat → List Ob → CR} {B : Int} {n : Nat} {Z r : List PV} {o0 o3 o4 o5 : Option Ob} (hix : ixN Z.length B = some n) (h : listRf (.int 0) (.int (B + 1)) = some (.ml r)) : evS cf [] (.sub 2 (.x 1) (.op .listR (.cons false (.op .add (.cons false (.x 1) (.cons false (.c (.int 1)) .nil))) .nil))) [o0, some (.v (.int B)), some (.ml Z), o3, o4, o5] = .ok .nx [o0, some (.v (.int B)), some (.ml (Z.set n (.list r))), o3, o4, o5] := by
  simp [isMl, hix, opf1, opf2, addf, vI, h]
theorem tab_d3 {cf : Nat → List Ob → CR} {B : Int} {S ds : List PV} {o0 o3 o4 o5 : Option Ob} (hr : rangeV [.int (B - 1), .int 0, .int (-1)] = some ds) : evIt cf [] (.range (.cons false (.op .sub (.cons false (.x 1) (.cons false (.c (.int 1)) .nil))) (.cons false (.c (.int 0)) (.cons false (.op .neg (.cons false (.c (.int 1)) .nil)) .nil)))) [o0, some (.v (.int B)), some (.ml S), o3, o4, o5] = .ok ds [o0, some (.v (.int B)), some (.ml S), o3, o4, o5] := by
  have c : evF cf [] (.cons false (.op .sub (.cons false (.x 1) (.cons false (.c (.int 1)) .nil))) (.cons false (.c (.int 0)) (.cons false (.op .neg (.cons false (.c (.int 1)) .nil)) .nil))) [o0, some (.v (.int B)), some (.ml S), o3, o4, o5] = .ok [.int (B - 1), .int 0, .int (-1)] [o0, some (.v (.int B)), some (.ml S), o3, o4, o5] := by simp [opf1, opf2, subf, negf, vI]
  rw [y_range, c, Rs.bind_ok, hr, optR_some]
theorem law_table_spec {T : Nat → Option FD} {i : Nat} (hT : T i = some ⟨1, 6, [], q_law_table⟩) (k l : Nat) (hl : l ≤ 13) : runF T (k + 1) i [.v (.int l)] = .ret (.ml (tabV (2 ^ l))) [] := by
  have hp := pow_le13 hl
  have hs := shl_one hl
  generalize 2 ^ l = N at hp hs ⊢
  obtain ⟨o3, o4, o5, f⟩ := tab_for (cf := runF T k) (N := N) (by omega) (o0 := some (.v (.int l))) (N - 1) none none none (by omega)
  have hd : rangeV [.int ((N : Int) - 1), .int 0, .int (-1)] = some (downL (N - 1)) := range_dn (by omega) (by omega)
  rw [show N - 1 + 1 = N by omega] at f
  have c1 : evE (runF T k) [] (.op .shl (.cons false (.c (.int 1)) (.cons false (.x 0) .nil))) [some (.v (.int l)), none, none, none, none, none] = .ok (.v (.int N)) [some (.v (.int l)), none, none, none, none, none] := by
    generalize (l : Int) = A at hs ⊢
    simp [opf2, hs]
  refine run_ret hT rfl rfl (env' := [some (.v (.int l)), some (.v (.int N)), none, o3, o4, o5]) ?_
  rw [q_law_table]
  show evSs (runF T k) [] _ [some (.v (.int l)), none, none, none, none, none] = _
  rw [y_ss1, y_asg, if_pos (by rfl), c1, Rs.bind_ok, Rs.bind_ok]
  simp only [y_z1, y_zv, List.set]
  rw [y_ss1, y_asg, if_pos (by rfl), tab_d1 (mul_none (by omega)), Rs.bind_ok, Rs.bind_ok]
  simp only [y_z0, List.set]
  rw [y_ss1, tab_d2 (ixN_at rfl (by rw [List.length_replicate]; omega)) (listR_zero (by omega) (by omega)), Rs.bind_ok, tabD_top]
  simp only []
  rw [y_ss1, y_for, if_pos (by rfl), tab_d3 hd, Rs.bind_ok]
  rw [tabBody, tabIn] at f
  rw [f, Rs.bind_ok]
  simp only []
  rw [y_ss1, y_ret, y_retx, tabV]
  simp [free]
end Pv
-- PvNum
set_option maxRecDepth 100000
namespace Pv
open PySem L2
structure NumFns (T : Nat → Option FD) (isn isa sn : Nat) : Prop where
  h1 : T isn = some ⟨1, 1, [], q_is_number⟩
  h2 : T isa = some ⟨3, 3, [], q_is_among isn⟩
  h3 : T sn = some ⟨3, 3, [], q_sure_number isa⟩
def isNumV : PV → Bool
  | .int _ => true
  | _ => false
def among (lo hi : Int) : PV → Bool
  | .int i => decide (lo ≤ i) && decide (i ≤ hi)
  | _ => false
theorem is_number_spec {T : Nat → Option FD} {i : Nat} (hT : T i = some ⟨1, 1, [], q_is_number⟩) (k : Nat) (d : PV) (hd : isD d = false) : runF T (k + 1) i [.v d] = .ret (.v (.bool (isNumV d))) [] := by
  rw [y_run hT]
  cases d <;> first | (cases hd; done) | simp [q_is_number, ioOk, opf1, kindf, vB, isIntV, isBoolV, outsOf, isNumV]
theorem is_among_spec {T : Nat → Option FD} {isn isa sn : Nat} (N : NumFns T isn isa sn) (k : Nat) (d : PV) (hd : isD d = false) (lo hi : Int) : runF T (k + 2) isa [.v d, .v (.int lo), .v (.int hi)] = .ret (.v (.bool (among lo hi d))) [] := by
  have h := is_number_spec N.h1 k d hd
  rw [y_run N.h2]
  cases d <;> first | (cases hd; done) | skip
  case int i =>
    rw [isNumV] at h
    by_cases h1 : lo ≤ i
    · simp [q_is_among, ioOk, h, handsOk, ioNames, putBack, cmpf, lef, h1, outsOf, among]
    · simp [q_is_among, ioOk, h, handsOk, ioNames, putBack, cmpf, lef, h1, outsOf, among]
  all_goals
    rw [isNumV] at h
    simp [q_is_among, ioOk, h, handsOk, ioNames, putBack, outsOf, among]
    try (intros; contradiction)
theorem sure_number_spec {T : Nat → Option FD} {isn isa sn : Nat} (N : NumFns T isn isa sn) (k : Nat) (d : Int) {lo hi : Int} (h1 : lo ≤ d) (h2 : d ≤ hi) : runF T (k + 3) sn [.v (.int d), .v (.int lo), .v (.int hi)] = .ret (.v (.int d)) [] := by
  have h := is_among_spec N k (.int d) rfl lo hi
  rw [show among lo hi (.int d) = true by simp [among, h1, h2]] at h
  rw [y_run N.h3]
  simp [q_sure_number, ioOk, h, handsOk, ioNames, putBack, outsOf]
theorem sure_level_spec {T : Nat → Option FD} {isn isa sn i : Nat} (N : NumFns T isn isa sn) (hT : T i = some ⟨1, 1, [], q_sure_level sn⟩) (k : Nat) (d : Int) (h1 : 0 ≤ d) (h2 : d ≤ 12) : runF T (k + 4) i [.v (.int d)] = .ret (.v (.int d)) [] := by
  have h := sure_number_spec N k d h1 h2
  rw [y_run hT]
  simp [q_sure_level, ioOk, h, handsOk, ioNames, putBack, outsOf]
theorem sure_below_spec {T : Nat → Option FD} {isn isa sn i : Nat} (N : NumFns T isn isa sn) (hT : T i = some ⟨1, 1, [], q_sure_below sn⟩) (k : Nat) (d : Int) (h1 : 0 ≤ d) (h2 : d ≤ 11) : runF T (k + 4) i [.v (.int d)] = .ret (.v (.int d)) [] := by
  have h := sure_number_spec N k d h1 h2
  rw [y_run hT]
  simp [q_sure_below, ioOk, h, handsOk, ioNames, putBack, outsOf]
theorem sure_in_run {T : Nat → Option FD} {sn i : Nat} (hT : T i = some ⟨2, 2, [], q_sure_in sn⟩) (k : Nat) {L A B : Int} (hs : shlf (.int 1) (.int L) = some (.v (.int B))) (h : runF T k sn [.v (.int A), .v (.int 1), .v (.int B)] = .ret (.v (.int A)) []) : runF T (k + 1) i [.v (.int L), .v (.int A)] = .ret (.v (.int A)) [] := by
  rw [y_run hT]
  simp [q_sure_in, ioOk, opf2, hs, h, handsOk, ioNames, putBack, outsOf]
theorem sure_in_spec {T : Nat → Option FD} {isn isa sn i : Nat} (N : NumFns T isn isa sn) (hT : T i = some ⟨2, 2, [], q_sure_in sn⟩) (k l a : Nat) (hl : l ≤ 13) (h1 : 1 ≤ a) (h2 : a ≤ 2 ^ l) : runF T (k + 4) i [.v (.int l), .v (.int a)] = .ret (.v (.int a)) [] :=
  sure_in_run hT (k + 3) (shl_one hl) (sure_number_spec N k a (by omega) (by omega))
theorem product_run {T : Nat → Option FD} {i : Nat} (hT : T i = some ⟨3, 3, [], q_product_in⟩) (k : Nat) {rows : List PV} {r : PV} {A B L M Z : Int} (h1 : idxf (.list rows) (.int A) = some (.v r)) (h2 : lenf r = some (.v (.int L))) (h3 : modf (.int (B - 1)) (.int L) = some (.v (.int M))) (h4 : idxf r (.int M) = some (.v (.int Z))) : runF T (k + 1) i [.v (.list rows), .v (.int A), .v (.int B)] = .ret (.v (.int Z)) [] := by
  rw [y_run hT]
  simp [q_product_in, ioOk, opf1, opf2, subf, vI, h1, h2, h3, h4, outsOf]
theorem R_pos {N a : Nat} (h1 : 1 ≤ a) (h2 : a ≤ N) : 0 < (R N a).length := by
  by_cases e : a = N
  · subst e
    rw [R_top (by omega), upTo_length]; omega
  · exact (row_of (N := N) h1 (by omega)).ch.pos
theorem rowsV_at {N x : Nat} (h : x ≤ N) : (rowsV N)[x]? = some (rowV (R N x)) := by
  have : x < N + 1 := by omega
  rw [rowsV, List.getElem?_map, List.getElem?_range this]; rfl
theorem modf_nat {a l : Nat} (h : 0 < l) : modf (.int (a : Int)) (.int (l : Int)) = some (.v (.int ((a % l : Nat) : Int))) := by
  have : (0 : Int) < (l : Int) := by omega
  rw [modf, if_pos this, vI, ← Int.natCast_emod]
theorem product_spec {T : Nat → Option FD} {i : Nat} (hT : T i = some ⟨3, 3, [], q_product_in⟩) (k : Nat) {N a b : Nat} (h1 : 1 ≤ a) (h2 : a ≤ N) (h3 : 1 ≤ b) : runF T (k + 1) i [.v (.list (rowsV N)), .v (.int a), .v (.int b)] = .ret (.v (.int (F N a b))) [] := by
  have hp := R_pos h1 h2
  refine product_run hT k (idx_at rfl (rowsV_at h2)) rowV_len (M := (((b - 1) % (R N a).length : Nat) : Int)) ?_ (rowV_at rfl (Nat.mod_lt _ hp))
  have e : (b : Int) - 1 = ((b - 1 : Nat) : Int) := by omega
  rw [e]
  exact modf_nat hp
structure TblFns (T : Nat → Option FD) (isn isa sn ri pi si : Nat) : Prop where
  n : NumFns T isn isa sn
  h1 : T ri = some ⟨1, 7, [], q_rows_in_2⟩
  h2 : T pi = some ⟨3, 3, [], q_product_in⟩
  h3 : T si = some ⟨2, 2, [], q_sure_in sn⟩
theorem F_range {N a b : Nat} (h1 : 1 ≤ a) (h2 : a ≤ N) (hb : 1 ≤ b) (hb2 : b ≤ N) : 1 ≤ F N a b ∧ F N a b ≤ N := by
  by_cases e : a = N
  · subst e
    rw [F_top hb hb2]; exact ⟨hb, hb2⟩
  · have := F_lo (N := N) (a := a) (c := b) h1 (by omega)
    omega
def rowF (N a m : Nat) : List Nat := (List.range m).map fun j => F N a (j + 1)
theorem rowF_take {N a m : Nat} (h1 : 1 ≤ a) (h2 : a ≤ N) (hm : m ≤ (R N a).length) : rowF N a m = (R N a).take m := by
  refine List.ext_getElem? fun i => ?_
  by_cases hi : i < m
  · rw [rowF, List.getElem?_map, List.getElem?_range hi, List.getElem?_take_of_lt hi, List.getElem?_eq_getElem (by omega)]
    simp only [Option.map_some, F, atR, Nat.add_sub_cancel]
    rw [Nat.mod_eq_of_lt (by omega), List.getD_eq_getElem?_getD, List.getElem?_eq_getElem (by omega)]
    rfl
  · rw [List.getElem?_eq_none (by simp [rowF]; omega), List.getElem?_eq_none (by simp; omega)]
theorem rowF_all {N a : Nat} (h1 : 1 ≤ a) (h2 : a ≤ N) : rowF N a (R N a).length = R N a := by
  rw [rowF_take h1 h2 (Nat.le_refl _), List.take_length]
theorem chain_len {f : Nat → Nat} {N : Nat} : ∀ (k x : Nat), (∀ y, x ≤ y → y < N → y < f y ∧ f y ≤ N) → x ≤ N → (chain f N k x).length ≤ N - x + 1
  | 0, x, _, _ => by simp [chain]
  | k + 1, x, h, hx => by
    rw [chain]
    by_cases e : x = N
    · rw [if_pos e]; simp
    · have h1 := h x (Nat.le_refl _) (by omega)
      have := chain_len k (f x) (fun y hy hy2 => h y (by omega) hy2) h1.2
      rw [if_neg e, List.length_cons]
      omega
theorem R_len {N a : Nat} (h1 : 1 ≤ a) (h2 : a ≤ N) : (R N a).length ≤ N := by
  by_cases e : a = N
  · subst e
    rw [R_top (by omega), upTo_length]; omega
  · rw [(row_of (N := N) h1 (by omega)).eq]
    have := chain_len (f := fun x => F N x (a + 1)) (N := N) N (a + 1) (fun y hy hy2 => F_lo (by omega) hy2) (by omega)
    omega
theorem R_hi {N a : Nat} (h1 : 1 ≤ a) (h2 : a ≤ N) : ∀ e ∈ R N a, 1 ≤ e ∧ e ≤ N := by
  intro e he
  by_cases q : a = N
  · subst q
    rw [R_top (by omega), upTo] at he
    obtain ⟨j, hj, rfl⟩ := List.mem_map.mp he
    have := List.mem_range.mp hj
    omega
  · have h := (row_of (N := N) h1 (by omega)).ch
    have h3 := h.lo e he
    have h4 := h.hi e he
    omega
/-- before its end a row has not come to N -/
theorem F_early {N a c : Nat} (h1 : 1 ≤ a) (h2 : a ≤ N) (hc : 1 ≤ c) (hc2 : c < (R N a).length) : F N a c < N := by
  by_cases e : a = N
  · subst e
    rw [R_top (by omega), upTo_length] at hc2
    rw [F_top hc (by omega)]; exact hc2
  · have h := (row_of (N := N) h1 (by omega)).ch
    rw [F, atR, Nat.mod_eq_of_lt (by omega)]
    exact h.early (c - 1) (by omega)
theorem F_end {N a : Nat} (h1 : 1 ≤ a) (h2 : a ≤ N) : F N a (R N a).length = N := by
  by_cases e : a = N
  · subst e
    rw [R_top (by omega), upTo_length, F_top (by omega) (Nat.le_refl _)]
  · have h := (row_of (N := N) h1 (by omega)).ch
    have := h.pos
    rw [F, atR, Nat.mod_eq_of_lt (by omega)]
    exact h.last
end Pv
-- PvThr
set_option maxRecDepth 100000
namespace Pv
open PySem L2
theorem sl_to {xs : List PV} {i : Int} {j : Nat} (hi : i = j) : slicef (.list xs) none (some i) = some (.ml (xs.take j)) := by
  subst hi
  unfold slicef cutP
  simp only [HT.sIx_none, HT.sIx_nat, List.drop_zero, Nat.sub_zero]
  congr 2
  rw [List.take_eq_take_iff]
  omega
theorem sl_from {xs : List PV} {i : Int} {j : Nat} (hi : i = j) : slicef (.list xs) (some i) none = some (.ml (xs.drop j)) := by
  subst hi
  unfold slicef cutP
  simp only [HT.sIx_none, HT.sIx_nat]
  congr 2
  by_cases h : j ≤ xs.length
  · rw [Nat.min_eq_left h, List.take_of_length_le (by rw [List.length_drop]; omega)]
  · rw [Nat.min_eq_right (by omega), Nat.sub_self, List.take_zero, List.drop_eq_nil_of_le (by omega)]
theorem sl_mid {xs : List PV} {i1 i2 : Int} {j1 j2 : Nat} (h1 : i1 = j1) (h2 : i2 = j2) (hl1 : j1 ≤ xs.length) (hl2 : j2 ≤ xs.length) : slicef (.list xs) (some i1) (some i2) = some (.ml ((xs.drop j1).take (j2 - j1))) := by
  subst h1 h2
  unfold slicef cutP
  simp only [HT.sIx_nat]
  rw [Nat.min_eq_left hl1, Nat.min_eq_left hl2]
def cnt (N : Nat) (r : List Nat) : Nat := r.countP fun x => decide (x ≤ N)
def stay (N a : Nat) : Nat := cnt N ((R (2 * N) a).take (R N a).length)
theorem cnt_len {N : Nat} : ∀ r : List Nat, (r.filterMap fun x => if x ≤ N then some (PyData.int 1) else none).length = cnt N r
  | [] => rfl
  | x :: r => by
    have ih := cnt_len (N := N) r
    rw [List.filterMap_cons, cnt, List.countP_cons]
    unfold cnt at ih
    by_cases h : x ≤ N
    · rw [if_pos h, List.length_cons, ih]; simp [h]
    · rw [if_neg h, ih]; simp [h]
theorem bool_nat {x N : Nat} : (if decide ((x : Int) ≤ (N : Int)) then true else false) = decide (x ≤ N) := by
  by_cases h : x ≤ N
  · have : (x : Int) ≤ (N : Int) := by omega
    simp [h, this]
  · have : ¬ (x : Int) ≤ (N : Int) := by omega
    simp [h, this]
theorem thr_seq {cf : Nat → List Ob → CR} {r1 r2 : PV} {R1 R2 xs : List PV} {L A P : Int} (h2 : idxf (.list R2) (.int A) = some (.v r2)) (h1 : idxf (.list R1) (.int A) = some (.v r1)) (hl : lenf r1 = some (.v (.int P))) (hs : slicef r2 none (some P) = some (.ml xs)) :
    evIt cf [] (.seq (.op (.slice false true) (.cons false (.op .idx (.cons false (.x 2) (.cons false (.x 3) .nil))) (.cons false (.op .len (.cons false (.op .idx (.cons false (.x 1) (.cons false (.x 3) .nil))) .nil)) .nil)))) [some (.v (.int L)), some (.v (.list R1)), some (.v (.list R2)), some (.v (.int A)), none] = .ok xs [some (.v (.int L)), some (.v (.list R1)), some (.v (.list R2)), some (.v (.int A)), none] := by
  simp [opf1, opf2, h1, h2, hl, hs, bInt, itemsOf]
theorem thr_cond {cf : Nat → List Ob → CR} {R1 R2 : List PV} {L A B X : Int} (hs : shlf (.int 1) (.int L) = some (.v (.int B))) :
    evK cf [] (.cons false (.op .le (.cons false (.x 4) (.cons false (.op .shl (.cons false (.c (.int 1)) (.cons false (.x 0) .nil))) .nil))) .nil) [some (.v (.int L)), some (.v (.list R1)), some (.v (.list R2)), some (.v (.int A)), some (.v (.int X))] = .ok (decide (X ≤ B)) [some (.v (.int L)), some (.v (.list R1)), some (.v (.list R2)), some (.v (.int A)), some (.v (.int X))] := by
  simp [opf2, cmpf, lef, hs]
theorem thr_comp {cf : Nat → List Ob → CR} {r1 r2 : PV} {R1 R2 : List PV} {L A P : Int} {xs : List Nat} {N : Nat} (h2 : idxf (.list R2) (.int A) = some (.v r2)) (h1 : idxf (.list R1) (.int A) = some (.v r1)) (hl : lenf r1 = some (.v (.int P))) (hs : slicef r2 none (some P) = some (.ml (xs.map nI))) (hN : shlf (.int 1) (.int L) = some (.v (.int N))) (hx : xs.length ≤ 100000) :
    evE cf [] (.lc [4] (.inr 4) (.seq (.op (.slice false true) (.cons false (.op .idx (.cons false (.x 2) (.cons false (.x 3) .nil))) (.cons false (.op .len (.cons false (.op .idx (.cons false (.x 1) (.cons false (.x 3) .nil))) .nil)) .nil)))) (.cons false (.op .le (.cons false (.x 4) (.cons false (.op .shl (.cons false (.c (.int 1)) (.cons false (.x 0) .nil))) .nil))) .nil) (.c (.int 1))) [some (.v (.int L)), some (.v (.list R1)), some (.v (.list R2)), some (.v (.int A)), none] =
      .ok (.ml (xs.filterMap fun x => if x ≤ N then some (.int 1) else none)) [some (.v (.int L)), some (.v (.list R1)), some (.v (.list R2)), some (.v (.int A)), none] := by
  refine lc_fmE nI _ (by simp) (thr_seq h2 h1 hl hs) rfl (by rw [lim_nat]; omega) fun x hx => ?_
  have c := thr_cond (cf := cf) (R1 := R1) (R2 := R2) (A := A) (X := (x : Int)) hN
  refine ⟨[some (.v (.int L)), some (.v (.list R1)), some (.v (.list R2)), some (.v (.int A)), some (.v (nI x))], rfl, ?_⟩
  by_cases h : x ≤ N
  · rw [show decide ((x : Int) ≤ (N : Int)) = true from decide_eq_true (by omega)] at c
    simp only [if_pos h]
    exact ⟨_, .v (.int 1), _, c, by rw [y_c], rfl, rfl⟩
  · rw [show decide ((x : Int) ≤ (N : Int)) = false from decide_eq_false (by omega)] at c
    simp only [if_neg h]
    exact ⟨_, c, rfl⟩
theorem len_run {cf : Nat → List Ob → CR} {lk : List Nat} {own : List Nat} {tg : List Nat ⊕ Nat} {it : IT} {c : IEs} {e : IE} {env : En} {xs : List PV} (h : evE cf lk (.lc own tg it c e) env = .ok (.ml xs) env) : evE cf lk (.op .len (.cons false (.lc own tg it c e) .nil)) env = .ok (.v (.int xs.length)) env := by
  simp [h, opf1, lenf, vI]
theorem run_one {T : Nat → Option FD} {i k np ns : Nat} {e : IE} {args : List Ob} {env env' : En} {o : Ob} (hT : T i = some ⟨np, ns, [], .cons (.ret e) .nil⟩) (hx : e.isX = none) (e2 : (args.length == np && ioOk [] 0 args) = true) (e1 : args.map some ++ List.replicate (ns - np) none = env) (h : evE (runF T k) [] e env = .ok o env') : runF T (k + 1) i args = .ret o [] := by
  refine run_ret hT e2 e1 (env' := env') ?_
  rw [y_ss1, y_ret, y_retE hx, h]
  rfl
theorem threshold_in_spec {T : Nat → Option FD} {i : Nat} (hT : T i = some ⟨4, 5, [], q_threshold_in⟩) (k : Nat) {l N a : Nat} (hl : l ≤ 12) (hN : 2 ^ l = N) (h1 : 1 ≤ a) (h2 : a ≤ N) :
    runF T (k + 1) i [.v (.int l), .v (.list (rowsV N)), .v (.list (rowsV (2 * N))), .v (.int a)] = .ret (.v (.int (stay N a))) [] := by
  have hp := pow_le13 (l := l) (by omega)
  have hs := shl_one (l := l) (by omega)
  rw [hN] at hp hs
  have c := thr_comp (cf := runF T k) (L := l) (A := a) (xs := (R (2 * N) a).take (R N a).length) (idx_at rfl (rowsV_at (N := 2 * N) (by omega))) (idx_at rfl (rowsV_at h2)) rowV_len (by rw [rowV, sl_to rfl, List.map_take]) hs (by have := R_len h1 h2; rw [List.length_take]; omega)
  have c2 := len_run c
  rw [cnt_len] at c2
  exact run_one hT rfl rfl rfl c2
structure ThrFns (T : Nat → Option FD) (isn isa sn ri pi si sb li ti : Nat) : Prop where
  t : TblFns T isn isa sn ri pi si
  h1 : T sb = some ⟨1, 1, [], q_sure_below sn⟩
  h2 : T li = some ⟨2, 2, [], q_lowered_in⟩
  h3 : T ti = some ⟨4, 5, [], q_threshold_in⟩
section
variable {T : Nat → Option FD} {isn isa sn ri pi si sb li ti : Nat} (K : ThrFns T isn isa sn ri pi si sb li ti)
include K
theorem threshold_run {i k : Nat} (hT : T i = some ⟨2, 4, [], q_threshold sb si ti ri⟩) {L A Z : Int} {R1 R2 : List PV} (h1 : runF T k sb [.v (.int L)] = .ret (.v (.int L)) []) (h2 : runF T k si [.v (.int L), .v (.int A)] = .ret (.v (.int A)) []) (h3 : runF T k ri [.v (.int L)] = .ret (.ml R1) []) (h4 : runF T k ri [.v (.int (L + 1))] = .ret (.ml R2) []) (h5 : runF T k ti [.v (.int L), .v (.list R1), .v (.list R2), .v (.int A)] = .ret (.v (.int Z)) []) :
    runF T (k + 1) i [.v (.int L), .v (.int A)] = .ret (.v (.int Z)) [] := by
  rw [y_run hT]
  simp [q_threshold, ioOk, free, h1, h2, h3, h4, h5, opf2, addf, vI, handsOk, ioNames, putBack, outsOf]
theorem rows_next {k l N : Nat} (hl : l ≤ 12) (hN : 2 ^ l = N) : runF T (k + 1) ri [.v (.int ((l : Int) + 1))] = .ret (.ml (rowsV (2 * N))) [] := by
  have := rows_in_spec K.t.h1 k (l + 1) (by omega)
  rw [Nat.pow_succ, hN, Nat.mul_comm] at this
  exact this
theorem rows_here {k l N : Nat} (hl : l ≤ 12) (hN : 2 ^ l = N) : runF T (k + 1) ri [.v (.int l)] = .ret (.ml (rowsV N)) [] := by
  have := rows_in_spec K.t.h1 k l (by omega)
  rw [hN] at this
  exact this
theorem threshold_spec {i : Nat} (hT : T i = some ⟨2, 4, [], q_threshold sb si ti ri⟩) (k : Nat) {l N a : Nat} (hl : l ≤ 11) (hN : 2 ^ l = N) (h1 : 1 ≤ a) (h2 : a ≤ N) : runF T (k + 5) i [.v (.int l), .v (.int a)] = .ret (.v (.int (stay N a))) [] :=
  threshold_run K hT (sure_below_spec K.t.n K.h1 k l (by omega) (by omega)) (sure_in_spec K.t.n K.t.h3 k l a (by omega) h1 (by omega)) (rows_here K (by omega) hN) (rows_next K (by omega) hN) (threshold_in_spec K.h3 (k + 3) (by omega) hN h1 h2)
end
end Pv
-- PvThr2
set_option maxRecDepth 100000
namespace Pv
open PySem L2
theorem range_1n {N : Nat} (h : N ≤ 100000) : rangeV [.int 1, .int ((N : Int) + 1)] = some ((List.range N).map fun i => nI (i + 1)) := by
  have h1 : decide (-(2 ^ 62) ≤ (N : Int) + 1) = true := decide_eq_true (by omega)
  have h2 : decide ((N : Int) + 1 < 2 ^ 62) = true := decide_eq_true (by omega)
  have h3 : decide (-(2 ^ 62) ≤ (1 : Int)) = true := decide_eq_true (by omega)
  have h4 : decide ((1 : Int) < 2 ^ 62) = true := decide_eq_true (by omega)
  have e : ((N : Int) + 1 - 1).toNat = N := by omega
  have e2 : rangeL 1 N 1 = (List.range N).map fun i => nI (i + 1) := by
    rw [rangeL]
    refine List.map_congr_left fun i _ => ?_
    show PyData.int (1 + (i : Int) * 1) = PyData.int ((i + 1 : Nat) : Int)
    have : 1 + (i : Int) * 1 = ((i + 1 : Nat) : Int) := by omega
    rw [this]
  simp only [rangeV, h1, h2, h3, h4, Bool.and_self, if_true, e, e2]
section
variable {T : Nat → Option FD} {isn isa sn ri pi si sb li ti : Nat} (K : ThrFns T isn isa sn ri pi si sb li ti)
theorem thrs_it {cf : Nat → List Ob → CR} {L B : Int} {R1 R2 ds : List PV} {o0 : Option Ob} (hs : shlf (.int 1) (.int L) = some (.v (.int B))) (hr : rangeV [.int 1, .int (B + 1)] = some ds) :
    evIt cf [] (.range (.cons false (.c (.int 1)) (.cons false (.op .add (.cons false (.op .shl (.cons false (.c (.int 1)) (.cons false (.x 1) .nil))) (.cons false (.c (.int 1)) .nil))) .nil))) [o0, some (.v (.int L)), some (.v (.list R1)), some (.v (.list R2)), none] = .ok ds [o0, some (.v (.int L)), some (.v (.list R1)), some (.v (.list R2)), none] := by
  have c : evF cf [] (.cons false (.c (.int 1)) (.cons false (.op .add (.cons false (.op .shl (.cons false (.c (.int 1)) (.cons false (.x 1) .nil))) (.cons false (.c (.int 1)) .nil))) .nil)) [o0, some (.v (.int L)), some (.v (.list R1)), some (.v (.list R2)), none] = .ok [.int 1, .int (B + 1)] [o0, some (.v (.int L)), some (.v (.list R1)), some (.v (.list R2)), none] := by simp [opf2, addf, vI, hs]
  rw [y_range, c, Rs.bind_ok, hr, optR_some]
theorem thrs_call {cf : Nat → List Ob → CR} {L X Z : Int} {R1 R2 : List PV} {o0 : Option Ob} (h : cf ti [.v (.int L), .v (.list R1), .v (.list R2), .v (.int X)] = .ret (.v (.int Z)) []) :
    evE cf [] (.call ti (.cons false (.x 1) (.cons false (.x 2) (.cons false (.x 3) (.cons false (.x 4) .nil))))) [o0, some (.v (.int L)), some (.v (.list R1)), some (.v (.list R2)), some (.v (.int X))] = .ok (.v (.int Z)) [o0, some (.v (.int L)), some (.v (.list R1)), some (.v (.list R2)), some (.v (.int X))] := by
  simp [h, handsOk, ioNames, putBack]
theorem thrs_fin {i k : Nat} (hT : T i = some ⟨1, 5, [], q_thresholds sb ri ti⟩) {L : Int} {R1 R2 zs : List PV} (h1 : runF T k sb [.v (.int L)] = .ret (.v (.int L)) []) (h9 : L ≤ 9) (h3 : runF T k ri [.v (.int L)] = .ret (.ml R1) []) (h4 : runF T k ri [.v (.int (L + 1))] = .ret (.ml R2) [])
    (hc : evE (runF T k) [] (.lc [4] (.inr 4) (.range (.cons false (.c (.int 1)) (.cons false (.op .add (.cons false (.op .shl (.cons false (.c (.int 1)) (.cons false (.x 1) .nil))) (.cons false (.c (.int 1)) .nil))) .nil))) .nil (.call ti (.cons false (.x 1) (.cons false (.x 2) (.cons false (.x 3) (.cons false (.x 4) .nil)))))) [some (.v (.int L)), some (.v (.int L)), some (.v (.list R1)), some (.v (.list R2)), none] = .ok (.ml zs) [some (.v (.int L)), some (.v (.int L)), some (.v (.list R1)), some (.v (.list R2)), none]) :
    runF T (k + 1) i [.v (.int L)] = .ret (.v (.tuple zs)) [] := by
  have h9' : ¬ 9 < L := by omega
  rw [y_run hT]
  simp [q_thresholds, ioOk, free, h1, h3, h4, opf1, opf2, addf, vI, handsOk, ioNames, putBack, outsOf, cmpf, gtf, h9', setObs, hc, tuplef]
include K
theorem thresholds_spec {i : Nat} (hT : T i = some ⟨1, 5, [], q_thresholds sb ri ti⟩) (k : Nat) {l N : Nat} (hl : l ≤ 9) (hN : 2 ^ l = N) : runF T (k + 5) i [.v (.int l)] = .ret (.v (.tuple ((List.range N).map fun i => nI (stay N (i + 1))))) [] := by
  have hp := pow_le13 (l := l) (by omega)
  have hs := shl_one (l := l) (by omega)
  rw [hN] at hp hs
  refine thrs_fin hT (sure_below_spec K.t.n K.h1 k l (by omega) (by omega)) (by omega) (rows_here K (by omega) hN) (rows_next K (by omega) hN) ?_
  refine lc_mapE (fun i => nI (i + 1)) _ (by simp) (thrs_it hs (range_1n (by omega))) rfl (by rw [List.length_range, lim_nat]; omega) fun i hi => ?_
  have := List.mem_range.mp hi
  exact ⟨_, .v (nI (stay N (i + 1))), _, rfl, thrs_call (threshold_in_spec K.h3 (k + 3) (by omega) hN (by omega) (by omega)), rfl, rfl⟩
def above (N a : Nat) : List Nat := if stay N a = (R N a).length then R N a ++ (R N a).map (· + N) else (R N a).take (stay N a) ++ ((R N a).drop (stay N a)).map (· + N)
omit K
theorem plus_comp {cf : Nat → List Ob → CR} {e0 e1 e2 e3 e4 e5 : Option Ob} {it : IT} {N : Nat} {r : List Nat} (hx : r.length ≤ 100000) (hit : evIt cf [] it [e0, e1, e2, e3, e4, e5, some (.v (.int N)), none] = .ok (r.map nI) [e0, e1, e2, e3, e4, e5, some (.v (.int N)), none]) :
    evE cf [] (.lc [7] (.inr 7) it .nil (.op .add (.cons false (.x 7) (.cons false (.x 6) .nil)))) [e0, e1, e2, e3, e4, e5, some (.v (.int N)), none] = .ok (.ml ((r.map (· + N)).map nI)) [e0, e1, e2, e3, e4, e5, some (.v (.int N)), none] := by
  have q : ∀ X Y : Int, evE cf [] (.op .add (.cons false (.x 7) (.cons false (.x 6) .nil))) [e0, e1, e2, e3, e4, e5, some (.v (.int Y)), some (.v (.int X))] = .ok (.v (.int (X + Y))) [e0, e1, e2, e3, e4, e5, some (.v (.int Y)), some (.v (.int X))] := fun X Y => by
    simp [opf2, addf, vI]
  rw [List.map_map]
  refine lc_mapE nI _ (by simp) hit rfl (by rw [lim_nat]; omega) fun x _ => ?_
  exact ⟨_, _, _, rfl, q x N, rfl, rfl⟩
theorem tup_add {cf : Nat → List Ob → CR} {lk : List Nat} {a b : IE} {env : En} {xs ys : List PV} {oa : Ob} {ag : Nat ⊕ Ob} (ha : evA1 cf lk a env = .ok ag env) (hr : resolve env [ag, .inr (.ml ys)] = some [oa, .ml ys]) (hv : oa.view = some (.list xs)) (hb : evA1 cf lk b env = .ok (.inr (.ml ys)) env) (hl : xs.length + ys.length ≤ 16777216) :
    evE cf lk (.op .tuple (.cons false (.op .add (.cons false a (.cons false b .nil))) .nil)) env = .ok (.v (.tuple (xs ++ ys))) env := by
  have c : evE cf lk (.op .add (.cons false a (.cons false b .nil))) env = .ok (.ml (xs ++ ys)) env := by
    rw [y_op, y_a1, ha, Rs.bind_ok, y_a1, hb]
    simp only [Rs.bind_ok, y_a0, List.map, hr, Option.bind_some]
    simp [hv, opf2, addf, hl]
  simp [c, opf1, tuplef]
theorem sl4_to {cf : Nat → List Ob → CR} {e0 e1 e2 e3 e6 e7 : Option Ob} {r xs : List PV} {S : Int} (h : slicef (.list r) none (some S) = some (.ml xs)) : evE cf [] (.op (.slice false true) (.cons false (.x 4) (.cons false (.x 5) .nil))) [e0, e1, e2, e3, some (.v (.list r)), some (.v (.int S)), e6, e7] = .ok (.ml xs) [e0, e1, e2, e3, some (.v (.list r)), some (.v (.int S)), e6, e7] := by
  simp [opf2, bInt, h]
theorem sl4_from {cf : Nat → List Ob → CR} {e0 e1 e2 e3 e6 e7 : Option Ob} {r xs : List PV} {S : Int} (h : slicef (.list r) (some S) none = some (.ml xs)) : evE cf [] (.op (.slice true false) (.cons false (.x 4) (.cons false (.x 5) .nil))) [e0, e1, e2, e3, some (.v (.list r)), some (.v (.int S)), e6, e7] = .ok (.ml xs) [e0, e1, e2, e3, some (.v (.list r)), some (.v (.int S)), e6, e7] := by
  simp [opf2, bInt, h]
theorem ra_run {T : Nat → Option FD} {i k f3 : Nat} (hT : T i = some ⟨2, 8, [], q_row_above sb si ri f3⟩) {L A S B P : Int} {R1 r zs : List PV} (h1 : runF T k sb [.v (.int L)] = .ret (.v (.int L)) []) (h2 : runF T k si [.v (.int L), .v (.int A)] = .ret (.v (.int A)) []) (h3 : runF T k ri [.v (.int L)] = .ret (.ml R1) []) (h4 : idxf (.list R1) (.int A) = some (.v (.list r))) (h5 : runF T k f3 [.v (.int L), .v (.int A)] = .ret (.v (.int S)) []) (hs : shlf (.int 1) (.int L) = some (.v (.int B))) (hl : lenf (.list r) = some (.v (.int P)))
    (hc : ∀ env : En, env = [some (.v (.int L)), some (.v (.int A)), some (.v (.int L)), some (.v (.int A)), some (.v (.list r)), some (.v (.int S)), some (.v (.int B)), none] → if S = P then evE (runF T k) [] (.op .tuple (.cons false (.op .add (.cons false (.x 4) (.cons false (.lc [7] (.inr 7) (.seq (.x 4)) .nil (.op .add (.cons false (.x 7) (.cons false (.x 6) .nil)))) .nil))) .nil)) env = .ok (.v (.tuple zs)) env
      else evE (runF T k) [] (.op .tuple (.cons false (.op .add (.cons false (.op (.slice false true) (.cons false (.x 4) (.cons false (.x 5) .nil))) (.cons false (.lc [7] (.inr 7) (.seq (.op (.slice true false) (.cons false (.x 4) (.cons false (.x 5) .nil)))) .nil (.op .add (.cons false (.x 7) (.cons false (.x 6) .nil)))) .nil))) .nil)) env = .ok (.v (.tuple zs)) env) :
    runF T (k + 1) i [.v (.int L), .v (.int A)] = .ret (.v (.tuple zs)) [] := by
  have hc := hc _ rfl
  have b1 : evE (runF T k) [] (.call sb (.cons false (.x 0) .nil)) [some (.v (.int L)), some (.v (.int A)), none, none, none, none, none, none] = .ok (.v (.int L)) [some (.v (.int L)), some (.v (.int A)), none, none, none, none, none, none] := by simp [h1, handsOk, ioNames, putBack]
  have b2 : evE (runF T k) [] (.call si (.cons false (.x 2) (.cons false (.x 1) .nil))) [some (.v (.int L)), some (.v (.int A)), some (.v (.int L)), none, none, none, none, none] = .ok (.v (.int A)) [some (.v (.int L)), some (.v (.int A)), some (.v (.int L)), none, none, none, none, none] := by simp [h2, handsOk, ioNames, putBack]
  have b3 : evE (runF T k) [] (.op .idx (.cons false (.call ri (.cons false (.x 2) .nil)) (.cons false (.x 3) .nil))) [some (.v (.int L)), some (.v (.int A)), some (.v (.int L)), some (.v (.int A)), none, none, none, none] = .ok (.v (.list r)) [some (.v (.int L)), some (.v (.int A)), some (.v (.int L)), some (.v (.int A)), none, none, none, none] := by simp [h3, h4, opf2, handsOk, ioNames, putBack]
  have b4 : evO (runF T k) [] (.cons true (.call f3 (.cons false (.x 2) (.cons false (.x 3) .nil))) (.cons true (.op .shl (.cons false (.c (.int 1)) (.cons false (.x 2) .nil))) .nil)) [some (.v (.int L)), some (.v (.int A)), some (.v (.int L)), some (.v (.int A)), some (.v (.list r)), none, none, none] = .ok [.v (.int S), .v (.int B)] [some (.v (.int L)), some (.v (.int A)), some (.v (.int L)), some (.v (.int A)), some (.v (.list r)), none, none, none] := by simp [h5, hs, opf2, handsOk, ioNames, putBack]
  have b5 : evT (runF T k) [] (.op .eq (.cons false (.x 5) (.cons false (.op .len (.cons false (.x 4) .nil)) .nil))) [some (.v (.int L)), some (.v (.int A)), some (.v (.int L)), some (.v (.int A)), some (.v (.list r)), some (.v (.int S)), some (.v (.int B)), none] = .ok (S == P) [some (.v (.int L)), some (.v (.int A)), some (.v (.int L)), some (.v (.int A)), some (.v (.list r)), some (.v (.int S)), some (.v (.int B)), none] := by simp [hl, opf1, opf2, cmpf]
  refine run_ret hT rfl rfl (env' := [some (.v (.int L)), some (.v (.int A)), some (.v (.int L)), some (.v (.int A)), some (.v (.list r)), some (.v (.int S)), some (.v (.int B)), none]) ?_
  rw [q_row_above]
  show evSs (runF T k) [] _ [some (.v (.int L)), some (.v (.int A)), none, none, none, none, none, none] = _
  rw [y_ss1, y_asg, if_pos (by rfl), b1, Rs.bind_ok, Rs.bind_ok]
  simp only [y_z1, y_zv, List.set]
  rw [y_ss1, y_asg, if_pos (by rfl), b2, Rs.bind_ok, Rs.bind_ok]
  simp only [y_z1, y_zv, List.set]
  rw [y_ss1, y_asg, if_pos (by rfl), b3, Rs.bind_ok, Rs.bind_ok]
  simp only [y_z1, y_zv, List.set]
  rw [y_ss1, y_par, if_pos (by rfl), b4]
  simp only [Rs.bind_ok, setObs, List.set, optR_some]
  rw [y_ss1, y_ifs, b5, Rs.bind_ok]
  by_cases e : S = P
  · rw [if_pos e] at hc
    rw [if_pos (by simpa using e), y_ss1, y_ret, y_rop, hc]
    rfl
  · rw [if_neg e] at hc
    rw [if_neg (by simpa using e), y_ss0, Rs.bind_ok]
    simp only []
    rw [y_ss1, y_ret, y_rop, hc]
    rfl
include K
theorem stay_le (N a : Nat) : stay N a ≤ (R N a).length := by
  unfold stay cnt
  have := List.countP_le_length (p := fun x => decide (x ≤ N)) (l := (R (2 * N) a).take (R N a).length)
  rw [List.length_take] at this
  omega
theorem row_above_spec {i f3 : Nat} (hT : T i = some ⟨2, 8, [], q_row_above sb si ri f3⟩) (h3 : T f3 = some ⟨2, 4, [], q_threshold sb si ti ri⟩) (k : Nat) {l N a : Nat} (hl : l ≤ 11) (hN : 2 ^ l = N) (h1 : 1 ≤ a) (h2 : a ≤ N) : runF T (k + 6) i [.v (.int l), .v (.int a)] = .ret (.v (.tuple ((above N a).map nI))) [] := by
  have hp := pow_le13 (l := l) (by omega)
  have hs := shl_one (l := l) (by omega)
  rw [hN] at hp hs
  have hlen := R_len h1 h2
  have hst := stay_le K N a
  have hidx : idxf (.list (rowsV N)) (.int (a : Int)) = some (.v (.list ((R N a).map nI))) := idx_at rfl (rowsV_at h2)
  refine ra_run hT (sure_below_spec K.t.n K.h1 (k + 1) l (by omega) (by omega)) (sure_in_spec K.t.n K.t.h3 (k + 1) l a (by omega) h1 (by omega)) (rows_here K (by omega) hN) hidx (threshold_spec K h3 k hl hN h1 h2) hs rowV_len fun env he => ?_
  subst he
  by_cases e : stay N a = (R N a).length
  · rw [if_pos (by omega), above, if_pos e, List.map_append]
    refine tup_add (oa := .v (.list ((R N a).map nI))) (ag := .inl 4) ?_ rfl rfl ?_ (by simp; omega)
    · rw [y_A1x]; rfl
    · rw [y_A1lc, plus_comp (r := R N a) (by omega) (by simp [itemsOf]), Rs.bind_ok]
  · rw [if_neg (by omega), above, if_neg e, List.map_append]
    refine tup_add (oa := .ml (((R N a).take (stay N a)).map nI)) (ag := .inr (.ml (((R N a).take (stay N a)).map nI))) ?_ rfl rfl ?_ (by simp; omega)
    · rw [y_A1op, sl4_to (xs := ((R N a).take (stay N a)).map nI) (by rw [sl_to rfl, List.map_take]), Rs.bind_ok]
    · rw [y_A1lc, plus_comp (r := (R N a).drop (stay N a)) (by rw [List.length_drop]; omega) ?_, Rs.bind_ok]
      rw [y_seq, sl4_from (xs := ((R N a).drop (stay N a)).map nI) (by rw [sl_from rfl, List.map_drop])]
      rfl
theorem period_above_spec {i rb : Nat} (hT : T i = some ⟨2, 2, [], q_period_above rb⟩) {k : Nat} {L A : Int} {zs : List PV} (h : runF T k rb [.v (.int L), .v (.int A)] = .ret (.v (.tuple zs)) []) : runF T (k + 1) i [.v (.int L), .v (.int A)] = .ret (.v (.int zs.length)) [] := by
  rw [y_run hT]
  simp [q_period_above, ioOk, h, handsOk, ioNames, putBack, opf1, lenf, vI, outsOf]
theorem dd_run {i k : Nat} (hT : T i = some ⟨2, 4, [], q_does_double sb si ri⟩) {L A P1 P2 : Int} {R1 R2 : List PV} {r1 r2 : PV} (h1 : runF T k sb [.v (.int L)] = .ret (.v (.int L)) []) (h2 : runF T k si [.v (.int L), .v (.int A)] = .ret (.v (.int A)) []) (h3 : runF T k ri [.v (.int L)] = .ret (.ml R1) []) (h4 : runF T k ri [.v (.int (L + 1))] = .ret (.ml R2) []) (h5 : idxf (.list R1) (.int A) = some (.v r1)) (h6 : idxf (.list R2) (.int A) = some (.v r2)) (h7 : lenf r1 = some (.v (.int P1))) (h8 : lenf r2 = some (.v (.int P2))) :
    runF T (k + 1) i [.v (.int L), .v (.int A)] = .ret (.v (.bool (decide (P1 < P2)))) [] := by
  rw [y_run hT]
  simp [q_does_double, ioOk, free, h1, h2, h3, h4, h5, h6, h7, h8, handsOk, ioNames, putBack, opf1, opf2, addf, cmpf, gtf, vI, vB, outsOf]
theorem does_double_spec {i : Nat} (hT : T i = some ⟨2, 4, [], q_does_double sb si ri⟩) (k : Nat) {l N a : Nat} (hl : l ≤ 11) (hN : 2 ^ l = N) (h1 : 1 ≤ a) (h2 : a ≤ N) : runF T (k + 5) i [.v (.int l), .v (.int a)] = .ret (.v (.bool (decide (((R N a).length : Int) < ((R (2 * N) a).length : Int))))) [] :=
  dd_run K hT (sure_below_spec K.t.n K.h1 k l (by omega) (by omega)) (sure_in_spec K.t.n K.t.h3 k l a (by omega) h1 (by omega)) (rows_here K (by omega) hN) (rows_next K (by omega) hN) (idx_at rfl (rowsV_at h2)) (idx_at rfl (rowsV_at (by omega))) rowV_len rowV_len
/-- lowered -/
def low (N x : Nat) : Nat := (x - 1) % N + 1
theorem li_run {k : Nat} {L A B M : Int} (hs : shlf (.int 1) (.int L) = some (.v (.int B))) (hm : modf (.int (A - 1)) (.int B) = some (.v (.int M))) : runF T (k + 1) li [.v (.int L), .v (.int A)] = .ret (.v (.int (M + 1))) [] := by
  rw [y_run K.h2]
  simp [q_lowered_in, ioOk, opf2, subf, addf, vI, hs, hm, outsOf]
theorem lowered_in_spec (k : Nat) {l N x : Nat} (hl : l ≤ 13) (hN : 2 ^ l = N) (hx : 1 ≤ x) : runF T (k + 1) li [.v (.int l), .v (.int x)] = .ret (.v (.int (low N x))) [] := by
  have hp := pow_le13 hl
  have hs := shl_one hl
  rw [hN] at hp hs
  have e : (x : Int) - 1 = ((x - 1 : Nat) : Int) := by omega
  exact li_run K (k := k) (M := (((x - 1) % N : Nat) : Int)) hs (by rw [e]; exact modf_nat (by omega))
theorem lw_run {i k : Nat} (hT : T i = some ⟨2, 3, [], q_lowered sb li sn⟩) {L A Z : Int} (h1 : runF T k sb [.v (.int L)] = .ret (.v (.int L)) []) (h2 : runF T k sn [.v (.int A), .v (.int 1), .v (.int 4096)] = .ret (.v (.int A)) []) (h3 : runF T k li [.v (.int L), .v (.int A)] = .ret (.v (.int Z)) []) : runF T (k + 1) i [.v (.int L), .v (.int A)] = .ret (.v (.int Z)) [] := by
  rw [y_run hT]
  simp [q_lowered, ioOk, free, h1, h2, h3, handsOk, ioNames, putBack, outsOf]
theorem lowered_spec {i : Nat} (hT : T i = some ⟨2, 3, [], q_lowered sb li sn⟩) (k : Nat) {l N x : Nat} (hl : l ≤ 11) (hN : 2 ^ l = N) (hx : 1 ≤ x) (hx2 : x ≤ 4096) : runF T (k + 5) i [.v (.int l), .v (.int x)] = .ret (.v (.int (low N x))) [] :=
  lw_run K hT (sure_below_spec K.t.n K.h1 k l (by omega) (by omega)) (sure_number_spec K.t.n (k + 1) x (by omega) (by omega)) (lowered_in_spec K (k + 3) (by omega) hN hx)
theorem lp_run {i k : Nat} (hT : T i = some ⟨3, 7, [], q_lowered_product sb si li pi ri⟩) {L A B A' B' P P' Q : Int} {R1 R2 : List PV} (h1 : runF T k sb [.v (.int L)] = .ret (.v (.int L)) []) (h2 : runF T k si [.v (.int (L + 1)), .v (.int A)] = .ret (.v (.int A)) []) (h3 : runF T k si [.v (.int (L + 1)), .v (.int B)] = .ret (.v (.int B)) []) (h4 : runF T k ri [.v (.int (L + 1))] = .ret (.ml R2) []) (h5 : runF T k ri [.v (.int L)] = .ret (.ml R1) [])
    (h6 : runF T k pi [.v (.list R2), .v (.int A), .v (.int B)] = .ret (.v (.int P)) []) (h7 : runF T k li [.v (.int L), .v (.int P)] = .ret (.v (.int P')) []) (h8 : runF T k li [.v (.int L), .v (.int A)] = .ret (.v (.int A')) []) (h9 : runF T k li [.v (.int L), .v (.int B)] = .ret (.v (.int B')) []) (h10 : runF T k pi [.v (.list R1), .v (.int A'), .v (.int B')] = .ret (.v (.int Q)) []) :
    runF T (k + 1) i [.v (.int L), .v (.int A), .v (.int B)] = .ret (.v (.tuple [.int P', .int Q])) [] := by
  rw [y_run hT]
  simp [q_lowered_product, ioOk, free, h1, h2, h3, h4, h5, h6, h7, h8, h9, h10, opf2, addf, vI, handsOk, ioNames, putBack, outsOf]
theorem low_range {N x : Nat} (hN : 1 ≤ N) : 1 ≤ low N x ∧ low N x ≤ N := by
  have := Nat.mod_lt (x - 1) (show 0 < N by omega)
  unfold low
  omega
theorem lowered_product_spec {i : Nat} (hT : T i = some ⟨3, 7, [], q_lowered_product sb si li pi ri⟩) (k : Nat) {l N b c : Nat} (hl : l ≤ 11) (hN : 2 ^ l = N) (hb : 1 ≤ b) (hb2 : b ≤ 2 * N) (hc : 1 ≤ c) (hc2 : c ≤ 2 * N) : runF T (k + 5) i [.v (.int l), .v (.int b), .v (.int c)] = .ret (.v (.tuple [nI (low N (F (2 * N) b c)), nI (F N (low N b) (low N c))])) [] := by
  have hp := pow_le13 (l := l) (by omega)
  rw [hN] at hp
  have h2N : 2 ^ (l + 1) = 2 * N := by rw [Nat.pow_succ, hN, Nat.mul_comm]
  have fr := F_range hb hb2 hc hc2
  have lb := low_range K (x := b) hp.1
  have lc := low_range K (x := c) hp.1
  exact lp_run K hT (sure_below_spec K.t.n K.h1 k l (by omega) (by omega)) (sure_in_spec K.t.n K.t.h3 k (l + 1) b (by omega) hb (by omega)) (sure_in_spec K.t.n K.t.h3 k (l + 1) c (by omega) hc (by omega)) (rows_next K (by omega) hN) (rows_here K (by omega) hN)
    (product_spec K.t.h2 (k + 3) hb hb2 hc) (lowered_in_spec K (k + 3) (by omega) hN fr.1) (lowered_in_spec K (k + 3) (by omega) hN hb) (lowered_in_spec K (k + 3) (by omega) hN hc) (product_spec K.t.h2 (k + 3) lb.1 lb.2 lc.1)
end
end Pv
-- PvBush
set_option maxRecDepth 100000
namespace Pv
open PySem L2
mutual
def tupP : PV → PV
  | .list xs => .tuple (tupPs xs)
  | .tuple xs => .tuple (tupPs xs)
  | d => d
def tupPs : List PV → List PV
  | [] => []
  | x :: xs => tupP x :: tupPs xs
end
theorem tupPs_map : ∀ xs : List PV, tupPs xs = xs.map tupP
  | [] => rfl
  | x :: xs => by rw [tupPs, List.map_cons, tupPs_map xs]
def seqPV : PV → Bool
  | .list _ => true
  | .tuple _ => true
  | _ => false
theorem tupled_spec {T : Nat → Option FD} {i : Nat} (hT : T i = some ⟨1, 2, [], q_tupled i⟩) : ∀ (k : Nat) (d : PV), nice d = true → d.depth + 1 ≤ k → runF T k i [.v d] = .ret (.v (tupP d)) []
  | 0, d, _, h => by omega
  | k + 1, d, hd, hk => by
    have seq : ∀ (xs : List PV) (mk : List PV → PV), niceA xs = true → xs.length ≤ 16777216 → PyData.depthAll xs + 1 ≤ k → itemsOf (mk xs) = some xs → isD (mk xs) = false →
        evE (runF T k) [] (.lc [1] (.inr 1) (.seq (.x 0)) .nil (.call i (.cons false (.x 1) .nil))) [some (.v (mk xs)), none] = .ok (.ml (xs.map tupP)) [some (.v (mk xs)), none] := fun xs mk hx hl hdep hi hd => by
      refine lc_map tupP (by simp) ?_ rfl (by simpa using hl) fun d hd => ?_
      · have e1 := y_fzv (env := [some (.v (mk xs)), none]) hd
        simp [e1, hi]
      · have dm := depth_mem hd
        have ih := tupled_spec hT k d (niceA_mem hx hd) (by omega)
        refine ⟨_, .v (tupP d), [some (.v (mk xs)), some (.v d)], rfl, ?_, y_fzv ?_, rfl⟩
        · simp [ih, handsOk, ioNames, putBack]
        · have := niceA_mem hx hd
          cases d <;> first | rfl | (cases this)
    rw [y_run hT]
    cases d with
    | dict _ => cases hd
    | list xs =>
      rw [nice] at hd
      obtain ⟨h1, h2⟩ := and2 hd
      rw [PyData.depth] at hk
      have := seq xs .list h2 (of_decide_eq_true h1) (by omega) rfl rfl
      simp [q_tupled, ioOk, opf1, opf2, kindf, vB, isSeqV, isListV, isTupV, this, tuplef, outsOf, tupP, tupPs_map]
    | tuple xs =>
      rw [nice] at hd
      obtain ⟨h1, h2⟩ := and2 hd
      rw [PyData.depth] at hk
      have := seq xs .tuple h2 (of_decide_eq_true h1) (by omega) rfl rfl
      simp [q_tupled, ioOk, opf1, opf2, kindf, vB, isSeqV, isListV, isTupV, this, tuplef, outsOf, tupP, tupPs_map]
    | none => simp [q_tupled, ioOk, opf1, opf2, kindf, vB, isSeqV, isListV, isTupV, outsOf, tupP]
    | bool _ => simp [q_tupled, ioOk, opf1, opf2, kindf, vB, isSeqV, isListV, isTupV, outsOf, tupP]
    | int _ => simp [q_tupled, ioOk, opf1, opf2, kindf, vB, isSeqV, isListV, isTupV, outsOf, tupP]
    | str _ => simp [q_tupled, ioOk, opf1, opf2, kindf, vB, isSeqV, isListV, isTupV, outsOf, tupP]
theorem long_spec {T : Nat → Option FD} {i : Nat} (hT : T i = some ⟨2, 2, [], q_is_long⟩) (k : Nat) (xs : List PV) (n : Int) : runF T (k + 1) i [.v (.tuple xs), .v (.int n)] = .ret (.v (.bool ((xs.length : Int) == n))) [] := by
  rw [y_run hT]
  simp [q_is_long, ioOk, opf1, opf2, cmpf, kindf, vB, isTupV, lenf, vI, outsOf]
def bushP : PV → Bool
  | .tuple [] => true
  | .tuple [a, b] => bushP a && bushP b
  | _ => false
theorem is_bush_spec {T : Nat → Option FD} {i l : Nat} (hT : T i = some ⟨1, 1, [], q_is_bush_in l i⟩) (hl : T l = some ⟨2, 2, [], q_is_long⟩) : ∀ (k : Nat) (d : PV), nice d = true → d.depth + 2 ≤ k → runF T k i [.v d] = .ret (.v (.bool (bushP d))) []
  | 0, d, _, h => by omega
  | k + 1, d, hd, hk => by
    obtain ⟨k', rfl⟩ : ∃ j, k = j + 1 := ⟨k - 1, by omega⟩
    rw [y_run hT]
    cases d with
    | dict _ => cases hd
    | none => simp [q_is_bush_in, ioOk, opf1, opf2, kindf, vB, isTupV, outsOf, bushP]
    | bool _ => simp [q_is_bush_in, ioOk, opf1, opf2, kindf, vB, isTupV, outsOf, bushP]
    | int _ => simp [q_is_bush_in, ioOk, opf1, opf2, kindf, vB, isTupV, outsOf, bushP]
    | str _ => simp [q_is_bush_in, ioOk, opf1, opf2, kindf, vB, isTupV, outsOf, bushP]
    | list _ => simp [q_is_bush_in, ioOk, opf1, opf2, kindf, vB, isTupV, outsOf, bushP]
    | tuple xs =>
      have hlong := fun n => long_spec hl k' xs n
      match xs, hlong, hd, hk with
      | [], _, _, _ => simp [q_is_bush_in, ioOk, opf1, opf2, cmpf, kindf, vB, isTupV, outsOf, bushP]
      | [a], hlong, _, _ => simp [q_is_bush_in, ioOk, opf1, opf2, cmpf, kindf, vB, isTupV, outsOf, bushP, hlong, handsOk, putBack, ioNames]
      | [a, b], hlong, hd, hk =>
        rw [nice, niceA, niceA, niceA] at hd
        simp only [Bool.and_eq_true] at hd
        rw [PyData.depth, PyData.depthAll, PyData.depthAll, PyData.depthAll] at hk
        have ia := is_bush_spec hT hl (k' + 1) a hd.2.1 (by omega)
        have ib := is_bush_spec hT hl (k' + 1) b hd.2.2.1 (by omega)
        simp [q_is_bush_in, ioOk, opf1, opf2, cmpf, kindf, vB, isTupV, outsOf, bushP, hlong, handsOk, putBack, ioNames, idxf, atI, ixN, ia, ib]
        cases bushP a <;> simp [ib, putBack]
      | a :: b :: c :: r, hlong, _, _ =>
        have e : ((r.length : Int) + 1 + 1 + 1 == 2) = false := by simp; omega
        simp [q_is_bush_in, ioOk, opf1, opf2, cmpf, kindf, vB, isTupV, outsOf, bushP, hlong, handsOk, putBack, ioNames, e]
/-- a bush that one may ask for -/
theorem sure_bush_spec {T : Nat → Option FD} {i t b l : Nat} (hT : T i = some ⟨1, 2, [], q_sure_bush t b⟩) (ht : T t = some ⟨1, 2, [], q_tupled t⟩) (hb : T b = some ⟨1, 1, [], q_is_bush_in l b⟩) (hl : T l = some ⟨2, 2, [], q_is_long⟩)
    (k : Nat) (d : PV) (hd : nice d = true) (hd2 : nice (tupP d) = true) (hk : d.depth + 1 ≤ k) (hk2 : (tupP d).depth + 2 ≤ k) (ok : bushP (tupP d) = true) : runF T (k + 1) i [.v d] = .ret (.v (tupP d)) [] := by
  have h1 := tupled_spec ht k d hd hk
  have h2 := is_bush_spec hb hl k (tupP d) hd2 hk2
  rw [y_run hT]
  simp [q_sure_bush, ioOk, free, h1, h2, ok, handsOk, ioNames, putBack, outsOf]
end Pv
-- PvBush2
set_option maxRecDepth 100000
namespace Pv
open PySem L2
inductive Bush where
  | lf | nd (a b : Bush)
  deriving DecidableEq
namespace Bush
def enc : Bush → PV
  | lf => .tuple []
  | nd a b => .tuple [a.enc, b.enc]
def leaves : Bush → Nat
  | lf => 1
  | nd a b => a.leaves + b.leaves
def height : Bush → Nat
  | lf => 0
  | nd a b => 1 + max a.height b.height
def mirror : Bush → Bush
  | lf => lf
  | nd a b => nd b.mirror a.mirror
def places : Bush → List (List Bool)
  | lf => [[]]
  | nd a b => [] :: (a.places.map (false :: ·) ++ b.places.map (true :: ·))
def at_ : Bush → List Bool → Option Bush
  | b, [] => some b
  | lf, _ :: _ => none
  | nd a b, x :: p => (if x then b else a).at_ p
def put : Bush → List Bool → Bush → Bush
  | _, [], o => o
  | lf, _ :: _, _ => lf
  | nd a b, x :: p, o => if x then nd a (b.put p o) else nd (a.put p o) b
def lefts : Bush → List Bush
  | lf => [lf]
  | nd a b => nd a b :: a.lefts
end Bush
def bitP (b : Bool) : PV := .int (if b then 1 else 0)
def encP (p : List Bool) : PV := .tuple (p.map bitP)
section
variable {env : En}
@[simp] theorem enc_fz {b : Bush} : fzR (.v b.enc) env = .ok b.enc env := by cases b <;> rfl
@[simp] theorem encP_fz {p : List Bool} : fzR (.v (encP p)) env = .ok (encP p) env := rfl
@[simp] theorem bitP_fz {b : Bool} : fzR (.v (bitP b)) env = .ok (bitP b) env := rfl
@[simp] theorem enc_isD {b : Bush} : isD b.enc = false := by cases b <;> rfl
end
theorem enc_depth : ∀ b : Bush, b.enc.depth = b.height + 1
  | .lf => rfl
  | .nd a b => by
    rw [Bush.enc, PyData.depth, PyData.depthAll, PyData.depthAll, PyData.depthAll, enc_depth a, enc_depth b, Bush.height]
    omega
theorem enc_nice : ∀ b : Bush, nice b.enc = true
  | .lf => rfl
  | .nd a b => by
    rw [Bush.enc, nice, niceA, niceA, niceA, enc_nice a, enc_nice b]; rfl
theorem enc_tup : ∀ b : Bush, tupP b.enc = b.enc
  | .lf => rfl
  | .nd a b => by rw [Bush.enc, tupP, tupPs, tupPs, tupPs, enc_tup a, enc_tup b]
theorem enc_bush : ∀ b : Bush, bushP b.enc = true
  | .lf => by simp [Bush.enc, bushP]
  | .nd a b => by simp [Bush.enc, bushP, enc_bush a, enc_bush b]
theorem height_lt : ∀ b : Bush, b.height + 1 ≤ b.leaves
  | .lf => Nat.le_refl _
  | .nd a b => by
    have := height_lt a
    have := height_lt b
    rw [Bush.height, Bush.leaves]
    omega
theorem places_len : ∀ b : Bush, b.places.length + 1 = 2 * b.leaves
  | .lf => rfl
  | .nd a b => by
    have := places_len a
    have := places_len b
    rw [Bush.places, Bush.leaves]
    simp only [List.length_cons, List.length_append, List.length_map]
    omega
theorem enc_nil {b : Bush} : eqf b.enc (.tuple []) = some (decide (b = .lf)) := by
  cases b <;> simp [Bush.enc]
theorem enc_nnil {b : Bush} : nef b.enc (.tuple []) = some (!decide (b = .lf)) := by
  cases b <;> simp [Bush.enc]
theorem leaves_in_spec {T : Nat → Option FD} {i : Nat} (hT : T i = some ⟨1, 1, [], q_leaves_in i⟩) : ∀ (b : Bush) (k : Nat), b.height + 1 ≤ k → runF T k i [.v b.enc] = .ret (.v (.int b.leaves)) []
  | .lf, k, h => by
    obtain ⟨k, rfl⟩ : ∃ j, k = j + 1 := ⟨k - 1, by omega⟩
    rw [y_run hT]
    simp [q_leaves_in, Bush.enc, opf2, cmpf, ioOk, outsOf, Bush.leaves]
  | .nd a b, k, h => by
    obtain ⟨k, rfl⟩ : ∃ j, k = j + 1 := ⟨k - 1, by omega⟩
    have ha := leaves_in_spec hT a k (by simp only [Bush.height] at h; omega)
    have hb := leaves_in_spec hT b k (by simp only [Bush.height] at h; omega)
    rw [y_run hT]
    simp [q_leaves_in, Bush.enc, opf2, cmpf, ioOk, outsOf, Bush.leaves, ha, hb, idxf, atI, ixN, handsOk, addf, vI, putBack, ioNames]
theorem height_in_spec {T : Nat → Option FD} {i : Nat} (hT : T i = some ⟨1, 1, [], q_height_in i⟩) : ∀ (b : Bush) (k : Nat), b.height + 1 ≤ k → runF T k i [.v b.enc] = .ret (.v (.int b.height)) []
  | .lf, k, h => by
    obtain ⟨k, rfl⟩ : ∃ j, k = j + 1 := ⟨k - 1, by omega⟩
    rw [y_run hT]
    simp [q_height_in, Bush.enc, opf2, cmpf, ioOk, outsOf, Bush.height]
  | .nd a b, k, h => by
    obtain ⟨k, rfl⟩ : ∃ j, k = j + 1 := ⟨k - 1, by omega⟩
    have ha := height_in_spec hT a k (by simp only [Bush.height] at h; omega)
    have hb := height_in_spec hT b k (by simp only [Bush.height] at h; omega)
    have e : (1 : Int) + (if (b.height : Int) > a.height then (b.height : Int) else a.height) = ((1 + max a.height b.height : Nat) : Int) := by
      split <;> omega
    rw [y_run hT]
    simp [q_height_in, Bush.enc, opf2, cmpf, ioOk, outsOf, Bush.height, ha, hb, idxf, atI, ixN, handsOk, addf, vI, putBack, ioNames, max2f]
    split <;> omega
theorem mirror_in_spec {T : Nat → Option FD} {i : Nat} (hT : T i = some ⟨1, 1, [], q_mirrored_in i⟩) : ∀ (b : Bush) (k : Nat), b.height + 1 ≤ k → runF T k i [.v b.enc] = .ret (.v b.mirror.enc) []
  | .lf, k, h => by
    obtain ⟨k, rfl⟩ : ∃ j, k = j + 1 := ⟨k - 1, by omega⟩
    rw [y_run hT]
    simp [q_mirrored_in, Bush.enc, opf2, cmpf, ioOk, outsOf, Bush.mirror]
  | .nd a b, k, h => by
    obtain ⟨k, rfl⟩ : ∃ j, k = j + 1 := ⟨k - 1, by omega⟩
    have ha := mirror_in_spec hT a k (by simp only [Bush.height] at h; omega)
    have hb := mirror_in_spec hT b k (by simp only [Bush.height] at h; omega)
    rw [y_run hT]
    simp [q_mirrored_in, Bush.enc, opf2, cmpf, ioOk, outsOf, Bush.mirror, ha, hb, idxf, atI, ixN, handsOk, addf, vI, putBack, ioNames]
theorem step_idx {a b : Bush} {x : Bool} : idxf (Bush.nd a b).enc (bitP x) = some (.v (if x then b else a).enc) := by
  cases x <;> simp [Bush.enc, bitP, idxf, atI, ixN]
theorem part_loop {cf : Nat → List Ob → CR} {o0 o1 : Option Ob} : ∀ (p : List Bool) (b c : Bush) (o3 : Option Ob), b.at_ p = some c →
    ∃ o3', forL (forT cf [] (.inr 3) (.cons (.asg true 2 (.op .idx (.cons false (.x 2) (.cons false (.x 3) .nil)))) .nil)) (p.map bitP) [o0, o1, some (.v b.enc), o3] = .ok .nx [o0, o1, some (.v c.enc), o3']
  | [], b, c, o3, h => by
    rw [Bush.at_] at h
    cases h
    exact ⟨o3, by simp [forL]⟩
  | x :: p, .lf, c, o3, h => by rw [Bush.at_] at h; cases h
  | x :: p, .nd a b, c, o3, h => by
    rw [Bush.at_] at h
    obtain ⟨o3', h'⟩ := part_loop (cf := cf) (o0 := o0) (o1 := o1) p _ c (some (.v (bitP x))) h
    refine ⟨o3', ?_⟩
    rw [List.map_cons, forL, ← h']
    simp [forT, setTg, free, opf2, step_idx]
theorem part_in_spec {T : Nat → Option FD} {i : Nat} (hT : T i = some ⟨2, 4, [], q_part_in⟩) (k : Nat) {b c : Bush} {p : List Bool} (h : b.at_ p = some c) : runF T (k + 1) i [.v b.enc, .v (encP p)] = .ret (.v c.enc) [] := by
  obtain ⟨o3', h'⟩ := part_loop (cf := runF T k) (o0 := some (.v b.enc)) (o1 := some (.v (encP p))) p b c none h
  rw [y_run hT]
  simp [q_part_in, ioOk, free, freeTg, encP, itemsOf, outsOf] at h' ⊢
  simp [h', outsOf]
end Pv
-- PvBush3
set_option maxRecDepth 100000
namespace Pv
open PySem L2
theorem bit_eq0 {x : Bool} : eqf (bitP x) (.int 0) = some (!x) := by cases x <;> simp [bitP]
theorem cut_tail {x : PV} {r : List PV} : slicef (.tuple (x :: r)) (some 1) none = some (.v (.tuple r)) := by
  have := HT.sIx_nat (r.length + 1) 0 1
  have e : HT.sIx (r.length + 1) 0 (some 1) = 1 := by
    rw [show (some (1 : Int)) = some ((1 : Nat) : Int) from rfl, this]
    omega
  simp [slicef, cutP, e, HT.sIx_none]
theorem put_in_spec {T : Nat → Option FD} {i : Nat} (hT : T i = some ⟨3, 3, [], q_put_in i⟩) : ∀ (p : List Bool) (b o : Bush) (k : Nat), (b.at_ p).isSome = true → p.length + 1 ≤ k → runF T k i [.v b.enc, .v (encP p), .v o.enc] = .ret (.v (b.put p o).enc) []
  | [], b, o, k, _, h => by
    obtain ⟨k, rfl⟩ : ∃ j, k = j + 1 := ⟨k - 1, by omega⟩
    rw [y_run hT]
    cases b <;> simp [q_put_in, encP, opf2, cmpf, ioOk, outsOf, Bush.put, free]
  | x :: p, .lf, o, k, h, _ => by rw [Bush.at_] at h; cases h
  | x :: p, .nd a b, o, k, h, hk => by
    rw [List.length_cons] at hk
    obtain ⟨k, rfl⟩ : ∃ j, k = j + 1 := ⟨k - 1, by omega⟩
    rw [Bush.at_] at h
    have ih := put_in_spec hT p (if x then b else a) o k h (by omega)
    have e0 : idxf (encP (x :: p)) (.int 0) = some (.v (bitP x)) := by simp [encP, idxf, atI, ixN]
    have e1 : slicef (encP (x :: p)) (some 1) none = some (.v (encP p)) := by unfold encP; rw [List.map_cons, cut_tail]
    have e2 : eqf (encP (x :: p)) (.tuple []) = some false := by simp [encP]
    have a0 : idxf (Bush.nd a b).enc (.int 0) = some (.v a.enc) := by simp [Bush.enc, idxf, atI, ixN]
    have a1 : idxf (Bush.nd a b).enc (.int 1) = some (.v b.enc) := by simp [Bush.enc, idxf, atI, ixN]
    rw [y_run hT]
    cases x with
    | false =>
      simp only [Bool.false_eq_true, if_false] at ih
      simp [q_put_in, opf1, opf2, cmpf, ioOk, outsOf, free, e0, e1, e2, a0, a1, bit_eq0, bInt, ih, handsOk, ioNames, putBack, Bush.put]
      simp [Bush.enc]
    | true =>
      simp only [if_true] at ih
      simp [q_put_in, opf1, opf2, cmpf, ioOk, outsOf, free, e0, e1, e2, a0, a1, bit_eq0, bInt, ih, handsOk, ioNames, putBack, Bush.put]
      simp [Bush.enc]
theorem place_loop {cf : Nat → List Ob → CR} {o0 o1 : Option Ob} : ∀ (p : List Bool) (b : Bush) (o3 : Option Ob),
    ∃ e', forL (forT cf [] (.inr 3) (.cons (.ite (.op .eq (.cons false (.x 2) (.cons false (.tup .nil) .nil))) (.cons (.ret (.c (.bool false))) .nil) .nil) (.cons (.asg true 2 (.op .idx (.cons false (.x 2) (.cons false (.x 3) .nil)))) .nil))) (p.map bitP) [o0, o1, some (.v b.enc), o3] =
      .ok (if (b.at_ p).isSome then .nx else .rt (.v (.bool false))) e'
  | [], b, o3 => ⟨_, by rw [List.map_nil, forL, Bush.at_]; rfl⟩
  | x :: p, .lf, o3 => by
    refine ⟨[o0, o1, some (.v Bush.lf.enc), some (.v (bitP x))], ?_⟩
    rw [List.map_cons, forL, Bush.at_]
    simp [forT, setTg, free, opf2, cmpf, Bush.enc]
  | x :: p, .nd a b, o3 => by
    obtain ⟨e', h'⟩ := place_loop (cf := cf) (o0 := o0) (o1 := o1) p (if x then b else a) (some (.v (bitP x)))
    refine ⟨e', ?_⟩
    rw [List.map_cons, forL, Bush.at_, ← h']
    have e2 : eqf (Bush.nd a b).enc (.tuple []) = some false := by simp [Bush.enc]
    simp [forT, setTg, free, opf2, cmpf, step_idx, e2]
theorem is_place_in_spec {T : Nat → Option FD} {i : Nat} (hT : T i = some ⟨2, 4, [], q_is_place_in⟩) (k : Nat) (b : Bush) (p : List Bool) : runF T (k + 1) i [.v b.enc, .v (encP p)] = .ret (.v (.bool (b.at_ p).isSome)) [] := by
  obtain ⟨e', h'⟩ := place_loop (cf := runF T k) (o0 := some (.v b.enc)) (o1 := some (.v (encP p))) p b none
  rw [y_run hT]
  simp [q_is_place_in, ioOk, free, freeTg, encP, itemsOf, outsOf] at h' ⊢
  rw [h']
  cases h : (b.at_ p).isSome <;> simp [outsOf]
def addP (x : Int) : PV → PV
  | .tuple xs => .tuple (.int x :: xs)
  | d => d
theorem pre_ok {cf : Nat → List Ob → CR} {x : Int} {src : IE} {ps : List (List Bool)} {env : En} {oa ob : Option Ob} {o : Ob} (hsz : ∀ p ∈ ps, p.length < 1000000) (hl : ps.length ≤ 16777216) (he : evE cf [] src env = .ok o [oa, ob, none]) (ho : ∀ e, fzR o e = .ok (.list (ps.map encP)) e) :
    evE cf [] (.lc [2] (.inr 2) (.seq src) .nil (.op .add (.cons false (.tup (.cons false (.c (.int x)) .nil)) (.cons false (.x 2) .nil)))) env = .ok (.ml ((ps.map encP).map (addP x))) [oa, ob, none] := by
  refine lc_map (addP x) (by simp) ?_ rfl (by simpa using hl) fun d hd => ?_
  · simp [he, ho, itemsOf]
  · obtain ⟨p, hp, rfl⟩ := List.mem_map.mp hd
    have := hsz p hp
    refine ⟨_, .v (addP x (encP p)), [oa, ob, some (.v (encP p))], rfl, ?_, rfl, rfl⟩
    have h2 : 1 + p.length ≤ 16777216 := by omega
    simp [opf2, addf, encP, addP, h2]
theorem addP_enc {x : Bool} {ps : List (List Bool)} : (ps.map encP).map (addP (if x then 1 else 0)) = (ps.map (x :: ·)).map encP := by
  rw [List.map_map, List.map_map]
  rfl
theorem place_short : ∀ {b : Bush} {p : List Bool}, p ∈ b.places → p.length ≤ b.height
  | .lf, p, h => by
    rw [Bush.places] at h
    have : p = [] := by simpa using h
    rw [this]; exact Nat.zero_le _
  | .nd a b, p, h => by
    rw [Bush.places] at h
    rw [Bush.height]
    rcases List.mem_cons.mp h with e | h
    · rw [e]; exact Nat.zero_le _
    · rcases List.mem_append.mp h with h | h
      · obtain ⟨q, hq, rfl⟩ := List.mem_map.mp h
        have := place_short hq
        rw [List.length_cons]; omega
      · obtain ⟨q, hq, rfl⟩ := List.mem_map.mp h
        have := place_short hq
        rw [List.length_cons]; omega
theorem places_in_spec {T : Nat → Option FD} {i : Nat} (hT : T i = some ⟨1, 3, [], q_places_in i⟩) : ∀ (b : Bush) (k : Nat), b.leaves ≤ 100000 → b.height + 1 ≤ k → runF T k i [.v b.enc] = .ret (.ml (b.places.map encP)) []
  | .lf, k, _, h => by
    obtain ⟨k, rfl⟩ : ∃ j, k = j + 1 := ⟨k - 1, by omega⟩
    rw [y_run hT]
    simp [q_places_in, Bush.enc, opf2, cmpf, ioOk, outsOf, Bush.places, free, encP]
  | .nd a b, k, hl, h => by
    obtain ⟨k, rfl⟩ : ∃ j, k = j + 1 := ⟨k - 1, by omega⟩
    rw [Bush.height] at h
    rw [Bush.leaves] at hl
    have ha := places_in_spec hT a k (by omega) (by omega)
    have hb := places_in_spec hT b k (by omega) (by omega)
    have la := places_len a
    have lb := places_len b
    have a0 : idxf (Bush.nd a b).enc (.int 0) = some (.v a.enc) := by simp [Bush.enc, idxf, atI, ixN]
    have a1 : idxf (Bush.nd a b).enc (.int 1) = some (.v b.enc) := by simp [Bush.enc, idxf, atI, ixN]
    have e2 : eqf (Bush.nd a b).enc (.tuple []) = some false := by simp [Bush.enc]
    have ga := pre_ok (cf := runF T k) (x := 0) (src := .call i (.cons false (.op .idx (.cons false (.x 0) (.cons false (.c (.int 0)) .nil))) .nil)) (ps := a.places) (env := [some (.v (Bush.nd a b).enc), none, none]) (o := .ml (a.places.map encP))
      (oa := some (.v (Bush.nd a b).enc)) (ob := none) (fun p hp => by have := place_short hp; have := height_lt a; omega) (by omega) (by simp [opf2, a0, ha, handsOk, ioNames, putBack]) (fun e => rfl)
    have gb := pre_ok (cf := runF T k) (x := 1) (src := .call i (.cons false (.op .idx (.cons false (.x 0) (.cons false (.c (.int 1)) .nil))) .nil)) (ps := b.places) (env := [some (.v (Bush.nd a b).enc), some (.v (.list ((a.places.map (false :: ·)).map encP))), none]) (o := .ml (b.places.map encP))
      (oa := some (.v (Bush.nd a b).enc)) (ob := some (.v (.list ((a.places.map (false :: ·)).map encP)))) (fun p hp => by have := place_short hp; have := height_lt b; omega) (by omega) (by simp [opf2, a1, hb, handsOk, ioNames, putBack]) (fun e => rfl)
    rw [show (0 : Int) = if false = true then 1 else 0 from rfl, addP_enc] at ga
    rw [show (1 : Int) = if true = true then 1 else 0 from rfl, addP_enc] at gb
    have s1 : 1 + a.places.length ≤ 16777216 := by omega
    have s2 : a.places.length + 1 + b.places.length ≤ 16777216 := by omega
    rw [y_run hT]
    simp only [Bool.false_eq_true, if_false, if_true] at ga gb
    simp [-List.map_map, q_places_in, opf1, opf2, cmpf, ioOk, outsOf, free, e2, ga, gb, addf, s1, s2, Bush.places]
    simp [encP]
theorem idx_last {pre : List PV} {x : PV} : idxf (.list (pre ++ [x])) (.int (-1)) = some (.v x) := by
  have h : ¬ ((0 : Int) ≤ -1) := by omega
  have h2 : -(((pre ++ [x]).length : Nat) : Int) ≤ -1 := by simp; omega
  have h3 : (-1 + (((pre ++ [x]).length : Nat) : Int)).toNat = pre.length := by
    rw [List.length_append, List.length_singleton]; omega
  simp only [idxf, atI, ixN]
  rw [if_neg h, if_pos h2, h3]
  simp
theorem lefts_loop {cf : Nat → List Ob → CR} {o0 : Option Ob} : ∀ (b : Bush) (pre : List PV) (n : Nat), b.lefts.length < n → pre.length + b.lefts.length ≤ 16777216 →
    whileN (whlC cf [] (.op .ne (.cons false (.op .idx (.cons false (.x 1) (.cons false (.op .neg (.cons false (.c (.int 1)) .nil)) .nil))) (.cons false (.tup .nil) .nil)))) (whlB cf [] (.cons (.ap 1 (.op .idx (.cons false (.op .idx (.cons false (.x 1) (.cons false (.op .neg (.cons false (.c (.int 1)) .nil)) .nil))) (.cons false (.c (.int 0)) .nil)))) .nil)) n
      [o0, some (.ml (pre ++ [b.enc]))] = .ok .nx [o0, some (.ml (pre ++ b.lefts.map Bush.enc))]
  | .lf, pre, n, h, _ => by
    obtain ⟨n, rfl⟩ : ∃ j, n = j + 1 := ⟨n - 1, by omega⟩
    have e2 : nef Bush.lf.enc (.tuple []) = some false := by simp [Bush.enc]
    rw [whileN]
    simp [whlC, whlB, opf1, opf2, cmpf, negf, vI, idx_last, e2, Bush.lefts]
  | .nd a b, pre, n, h, hl => by
    rw [Bush.lefts, List.length_cons] at h hl
    obtain ⟨n, rfl⟩ : ∃ j, n = j + 1 := ⟨n - 1, by omega⟩
    have ih := lefts_loop (cf := cf) (o0 := o0) a (pre ++ [(Bush.nd a b).enc]) n (by omega) (by rw [List.length_append, List.length_singleton]; omega)
    have e2 : nef (Bush.nd a b).enc (.tuple []) = some true := by simp [Bush.enc]
    have a0 : idxf (Bush.nd a b).enc (.int 0) = some (.v a.enc) := by simp [Bush.enc, idxf, atI, ixN]
    have hlt : pre.length + 1 < 16777216 := by
      have : 1 ≤ a.lefts.length := by cases a <;> simp [Bush.lefts]
      omega
    rw [whileN]
    simp only [List.append_assoc, List.cons_append, List.nil_append] at ih
    simp [whlC, whlB, opf1, opf2, cmpf, negf, vI, idx_last, e2, a0, isMl, hlt, ih, Bush.lefts]
theorem lefts_len : ∀ b : Bush, b.lefts.length = (b.lefts.length - 1) + 1 ∧ b.lefts.length ≤ b.height + 1
  | .lf => ⟨rfl, Nat.le_refl _⟩
  | .nd a b => by
    have := (lefts_len a).2
    rw [Bush.lefts, Bush.height, List.length_cons]
    omega
theorem lefts_in_spec {T : Nat → Option FD} {i : Nat} (hT : T i = some ⟨1, 2, [], q_lefts_in⟩) (k : Nat) (b : Bush) (hb : b.height ≤ 100000) : runF T (k + 1) i [.v b.enc] = .ret (.ml (b.lefts.map Bush.enc)) [] := by
  have hl := (lefts_len b).2
  have h := lefts_loop (cf := runF T k) (o0 := some (.v b.enc)) b [] wfuel (by unfold wfuel; omega) (by simp; omega)
  rw [y_run hT]
  simp only [List.nil_append] at h
  simp [q_lefts_in, ioOk, free, outsOf, h]
end Pv
-- PvBush4
set_option maxRecDepth 100000
namespace Pv
open PySem L2
/-- a value that stands for a bush: tuples or lists -/
structure Soft (d : PV) (b : Bush) : Prop where
  n : nice d = true
  t : tupP d = b.enc
  d : d.depth ≤ b.height + 1
theorem Soft.enc (b : Bush) : Soft b.enc b := ⟨enc_nice b, enc_tup b, by rw [enc_depth b]; exact Nat.le_refl _⟩
/-- the defs of bushes in a table -/
structure BushFns (T : Nat → Option FD) (long tup isb sure : Nat) : Prop where
  h1 : T long = some ⟨2, 2, [], q_is_long⟩
  h2 : T tup = some ⟨1, 2, [], q_tupled tup⟩
  h3 : T isb = some ⟨1, 1, [], q_is_bush_in long isb⟩
  h4 : T sure = some ⟨1, 2, [], q_sure_bush tup isb⟩
theorem sure_soft {T : Nat → Option FD} {long tup isb sure : Nat} (F : BushFns T long tup isb sure) {d : PV} {b : Bush} (s : Soft d b) (k : Nat) (hk : b.height + 4 ≤ k) : runF T k sure [.v d] = .ret (.v b.enc) [] := by
  obtain ⟨k, rfl⟩ : ∃ j, k = j + 1 := ⟨k - 1, by omega⟩
  have := s.d
  rw [sure_bush_spec F.h4 F.h2 F.h3 F.h1 k d s.n (by rw [s.t]; exact enc_nice b) (by omega) (by rw [s.t, enc_depth]; omega) (by rw [s.t]; exact enc_bush b), s.t]
def int01 : PV → Bool
  | .int i => i == 0 || i == 1
  | _ => false
def zerosP : PV → Bool
  | .tuple xs => xs.all int01
  | _ => false
def told1 (d : PV) : PV := .bool (mem d [.int 0, .int 1] && !isBoolV d)
def isI (d : PV) : PV := .bool (isIntV d)
theorem all_map {f : PV → Bool} : ∀ xs : List PV, bBools (xs.map fun d => .bool (f d)) = some (xs.map f)
  | [] => rfl
  | x :: xs => by rw [List.map_cons, bBools, all_map xs]; rfl
theorem and_same {α : Type} {f g : α → Bool} : ∀ xs : List α, ((xs.map f).all id && (xs.map g).all id) = xs.all fun x => f x && g x
  | [] => rfl
  | x :: xs => by
    rw [List.map_cons, List.map_cons, List.all_cons, List.all_cons, List.all_cons, ← and_same xs]
    cases f x <;> cases g x <;> simp
theorem told1_ok {d : PV} (h : nice d = true) : (isIntV d && (mem d [.int 0, .int 1] && !isBoolV d)) = int01 d := by
  cases d <;> first | (cases h; done) | simp [isIntV, mem, isBoolV, int01, PyData.eqv]
  rename_i i
  rw [Bool.eq_iff_iff]
  simp
  omega
theorem told_spec {T : Nat → Option FD} {i : Nat} (hT : T i = some ⟨1, 2, [], q_is_place_told⟩) (k : Nat) (xs : List PV) (hx : niceA xs = true) (hl : xs.length ≤ 16777216) (hd : ∀ d ∈ xs, d.depth ≤ 150) :
    runF T (k + 1) i [.v (.tuple xs)] = .ret (.v (.bool ((xs.map fun d => mem d [.int 0, .int 1] && !isBoolV d).all id))) [] := by
  have hs : evE (runF T k) [] (.lc [1] (.inr 1) (.seq (.x 0)) .nil (.and (.op .isin (.cons false (.x 1) (.cons false (.tup (.cons false (.c (.int 0)) (.cons false (.c (.int 1)) .nil))) .nil))) (.not (.op .isBool (.cons false (.x 1) .nil))))) [some (.v (.tuple xs)), none] =
      .ok (.ml (xs.map told1)) [some (.v (.tuple xs)), none] := by
    refine lc_map told1 (by simp) (by simp [itemsOf]) rfl (by simpa using hl) fun d hd' => ?_
    have hn := niceA_mem hx hd'
    have h1 : isD d = false := by cases d <;> first | rfl | (cases hn)
    have h2 := hd d hd'
    refine ⟨_, .v (told1 d), [some (.v (.tuple xs)), some (.v d)], rfl, ?_, rfl, rfl⟩
    simp [opf1, opf2, cmpf, inf, h1, h2, kindf, vB, told1]
    cases mem d [.int 0, .int 1] <;> simp
  rw [y_run hT]
  simp [q_is_place_told, ioOk, opf1, opf2, kindf, vB, isTupV, hs, allf, outsOf]
  rw [show xs.map told1 = xs.map fun d => .bool (mem d [.int 0, .int 1] && !isBoolV d) from rfl, all_map]
  simp [outsOf]
theorem zeros_spec {T : Nat → Option FD} {i j : Nat} (hT : T i = some ⟨1, 2, [], q_is_zeros_and_ones j⟩) (hj : T j = some ⟨1, 2, [], q_is_place_told⟩) (k : Nat) (d : PV) (hn : nice d = true) (hd : d.depth ≤ 150) :
    runF T (k + 2) i [.v d] = .ret (.v (.bool (zerosP d))) [] := by
  rw [y_run hT]
  cases d with
  | dict _ => cases hn
  | none => simp [q_is_zeros_and_ones, ioOk, opf1, opf2, kindf, vB, isTupV, outsOf, zerosP]
  | bool _ => simp [q_is_zeros_and_ones, ioOk, opf1, opf2, kindf, vB, isTupV, outsOf, zerosP]
  | int _ => simp [q_is_zeros_and_ones, ioOk, opf1, opf2, kindf, vB, isTupV, outsOf, zerosP]
  | str _ => simp [q_is_zeros_and_ones, ioOk, opf1, opf2, kindf, vB, isTupV, outsOf, zerosP]
  | list _ => simp [q_is_zeros_and_ones, ioOk, opf1, opf2, kindf, vB, isTupV, outsOf, zerosP]
  | tuple xs =>
    rw [nice] at hn
    obtain ⟨h1, h2⟩ := and2 hn
    have hl := of_decide_eq_true h1
    rw [PyData.depth] at hd
    have ht := told_spec hj k xs h2 hl fun d hd' => by
      have := depth_mem hd'
      omega
    have hs : evE (runF T (k + 1)) [] (.lc [1] (.inr 1) (.seq (.x 0)) .nil (.op .isInt (.cons false (.x 1) .nil))) [some (.v (.tuple xs)), none] = .ok (.ml (xs.map isI)) [some (.v (.tuple xs)), none] := by
      refine lc_map isI (by simp) (by simp [itemsOf]) rfl (by simpa using hl) fun d hd' => ?_
      have hn := niceA_mem h2 hd'
      have h1 : isD d = false := by cases d <;> first | rfl | (cases hn)
      refine ⟨_, .v (isI d), [some (.v (.tuple xs)), some (.v d)], rfl, ?_, rfl, rfl⟩
      simp [opf1, kindf, h1, vB, isI]
    have e : zerosP (.tuple xs) = ((xs.map isIntV).all id && (xs.map fun d => mem d [.int 0, .int 1] && !isBoolV d).all id) := by
      rw [and_same, zerosP]
      clear hs ht hd hl hn h1
      induction xs with
      | nil => rfl
      | cons x xs ih =>
        rw [niceA] at h2
        obtain ⟨n1, n2⟩ := and2 h2
        rw [List.all_cons, List.all_cons, ih n2, told1_ok n1]
    rw [e]
    have hb : bBools (xs.map isI) = some (xs.map isIntV) := all_map xs
    generalize hA : (xs.map isIntV).all id = A
    generalize (xs.map fun d => mem d [.int 0, .int 1] && !isBoolV d).all id = B at ht
    simp [q_is_zeros_and_ones, ioOk, opf1, opf2, kindf, vB, isTupV, hs, allf, hb]
    have hA2 : (∀ x, x ∈ xs → isIntV x = true) ↔ A = true := by rw [← hA]; simp
    have hA3 : xs.all isIntV = A := by rw [← hA, List.all_map]; rfl
    simp only [hA2, hA3]
    cases A <;> simp [outsOf, ht, handsOk, ioNames, putBack]
end Pv
-- PvBush5
set_option maxRecDepth 100000
namespace Pv
open PySem L2
/-- a value that stands for a place -/
structure SoftP (d : PV) (p : List Bool) : Prop where
  n : nice d = true
  t : tupP d = encP p
  d : d.depth ≤ 2
theorem bits_nice : ∀ p : List Bool, niceA (p.map bitP) = true
  | [] => rfl
  | x :: p => by
    rw [List.map_cons, niceA, bits_nice p]; cases x <;> rfl
theorem bits_depth : ∀ p : List Bool, PyData.depthAll (p.map bitP) = 0
  | [] => rfl
  | x :: p => by
    rw [List.map_cons, PyData.depthAll, bits_depth p]; cases x <;> rfl
theorem bits_tup : ∀ p : List Bool, tupPs (p.map bitP) = p.map bitP
  | [] => rfl
  | x :: p => by
    rw [List.map_cons, tupPs, bits_tup p]; cases x <;> rfl
theorem bits_01 : ∀ p : List Bool, (p.map bitP).all int01 = true
  | [] => rfl
  | x :: p => by
    rw [List.map_cons, List.all_cons, bits_01 p]; cases x <;> rfl
theorem encP_nice {p : List Bool} (h : p.length ≤ 16777216) : nice (encP p) = true := by
  rw [encP, nice, bits_nice, List.length_map]; simpa using h
theorem encP_depth {p : List Bool} : (encP p).depth = 1 := by rw [encP, PyData.depth, bits_depth]
theorem SoftP.enc {p : List Bool} (h : p.length ≤ 16777216) : SoftP (encP p) p := ⟨encP_nice h, by rw [encP, tupP, bits_tup], by rw [encP_depth]; omega⟩
theorem SoftP.lst {p : List Bool} (h : p.length ≤ 16777216) : SoftP (.list (p.map bitP)) p := ⟨by rw [nice, bits_nice, List.length_map]; simpa using h, by rw [tupP, bits_tup]; rfl, by rw [PyData.depth, bits_depth]; omega⟩
theorem zerosP_enc {p : List Bool} : zerosP (encP p) = true := by rw [encP, zerosP, bits_01]
structure PlaceFns (T : Nat → Option FD) (tup told zer stold isin sp : Nat) : Prop where
  h1 : T tup = some ⟨1, 2, [], q_tupled tup⟩
  h2 : T told = some ⟨1, 2, [], q_is_place_told⟩
  h3 : T zer = some ⟨1, 2, [], q_is_zeros_and_ones told⟩
  h4 : T stold = some ⟨1, 2, [], q_sure_place_told tup zer⟩
  h5 : T isin = some ⟨2, 4, [], q_is_place_in⟩
  h6 : T sp = some ⟨2, 3, [], q_sure_place stold isin⟩
theorem stold_spec {T : Nat → Option FD} {tup told zer stold isin sp : Nat} (F : PlaceFns T tup told zer stold isin sp) (k : Nat) {d : PV} {p : List Bool} (s : SoftP d p) (hl : p.length ≤ 16777216) : runF T (k + 4) stold [.v d] = .ret (.v (encP p)) [] := by
  have h1 := tupled_spec F.h1 (k + 3) d s.n (by have := s.d; omega)
  rw [s.t] at h1
  have h2 := zeros_spec F.h3 F.h2 (k + 1) (encP p) (encP_nice hl) (by rw [encP_depth]; omega)
  rw [zerosP_enc] at h2
  rw [y_run F.h4]
  simp [q_sure_place_told, ioOk, free, h1, h2, handsOk, ioNames, putBack, outsOf]
theorem sp_spec {T : Nat → Option FD} {tup told zer stold isin sp : Nat} (F : PlaceFns T tup told zer stold isin sp) (k : Nat) {b : Bush} {d : PV} {p : List Bool} (s : SoftP d p) (hl : p.length ≤ 16777216) (hp : (b.at_ p).isSome = true) :
    runF T (k + 5) sp [.v b.enc, .v d] = .ret (.v (encP p)) [] := by
  have h1 := stold_spec F k s hl
  have h2 := is_place_in_spec F.h5 (k + 3) b p
  rw [hp] at h2
  rw [y_run F.h6]
  simp [q_sure_place, ioOk, free, h1, h2, handsOk, ioNames, putBack, outsOf]
section
variable {T : Nat → Option FD} {long tup isb sure : Nat} (F : BushFns T long tup isb sure) {d : PV} {b : Bush}
include F
theorem leaves_spec {i li : Nat} (hT : T i = some ⟨1, 1, [], q_leaves li sure⟩) (hl : T li = some ⟨1, 1, [], q_leaves_in li⟩) (s : Soft d b) (k : Nat) (hk : b.height + 5 ≤ k) : runF T k i [.v d] = .ret (.v (.int b.leaves)) [] := by
  obtain ⟨k, rfl⟩ : ∃ j, k = j + 1 := ⟨k - 1, by omega⟩
  have h1 := sure_soft F s k (by omega)
  have h2 := leaves_in_spec hl b k (by omega)
  rw [y_run hT]
  simp [q_leaves, ioOk, h1, h2, handsOk, ioNames, putBack, outsOf]
theorem height_spec {i li : Nat} (hT : T i = some ⟨1, 1, [], q_height li sure⟩) (hl : T li = some ⟨1, 1, [], q_height_in li⟩) (s : Soft d b) (k : Nat) (hk : b.height + 5 ≤ k) : runF T k i [.v d] = .ret (.v (.int b.height)) [] := by
  obtain ⟨k, rfl⟩ : ∃ j, k = j + 1 := ⟨k - 1, by omega⟩
  have h1 := sure_soft F s k (by omega)
  have h2 := height_in_spec hl b k (by omega)
  rw [y_run hT]
  simp [q_height, ioOk, h1, h2, handsOk, ioNames, putBack, outsOf]
theorem mirrored_spec {i li : Nat} (hT : T i = some ⟨1, 1, [], q_mirrored li sure⟩) (hl : T li = some ⟨1, 1, [], q_mirrored_in li⟩) (s : Soft d b) (k : Nat) (hk : b.height + 5 ≤ k) : runF T k i [.v d] = .ret (.v b.mirror.enc) [] := by
  obtain ⟨k, rfl⟩ : ∃ j, k = j + 1 := ⟨k - 1, by omega⟩
  have h1 := sure_soft F s k (by omega)
  have h2 := mirror_in_spec hl b k (by omega)
  rw [y_run hT]
  simp [q_mirrored, ioOk, h1, h2, handsOk, ioNames, putBack, outsOf]
theorem all_places_spec {i li : Nat} (hT : T i = some ⟨1, 1, [], q_all_places li sure⟩) (hl : T li = some ⟨1, 3, [], q_places_in li⟩) (s : Soft d b) (hb : b.leaves ≤ 100000) (k : Nat) (hk : b.height + 5 ≤ k) : runF T k i [.v d] = .ret (.ml (b.places.map encP)) [] := by
  obtain ⟨k, rfl⟩ : ∃ j, k = j + 1 := ⟨k - 1, by omega⟩
  have h1 := sure_soft F s k (by omega)
  have h2 := places_in_spec hl b k hb (by omega)
  rw [y_run hT]
  simp [q_all_places, ioOk, h1, h2, handsOk, ioNames, putBack, outsOf]
theorem part_at_spec {i pi told zer stold isin sp : Nat} (P : PlaceFns T tup told zer stold isin sp) (hT : T i = some ⟨2, 3, [], q_part_at sure pi sp⟩) (hp : T pi = some ⟨2, 4, [], q_part_in⟩) (s : Soft d b) {e : PV} {p : List Bool} (sp' : SoftP e p) (hl : p.length ≤ 16777216) {c : Bush} (hc : b.at_ p = some c) (k : Nat) (hk : b.height + 7 ≤ k) :
    runF T k i [.v d, .v e] = .ret (.v c.enc) [] := by
  obtain ⟨k, rfl⟩ : ∃ j, k = j + 6 := ⟨k - 6, by omega⟩
  have h1 := sure_soft F s (k + 5) (by omega)
  have h2 := sp_spec P k (b := b) sp' hl (by rw [hc]; rfl)
  have h3 := part_in_spec hp (k + 4) hc
  rw [y_run hT]
  simp [q_part_at, ioOk, free, h1, h2, h3, handsOk, ioNames, putBack, outsOf]
theorem put_at_spec {i pi told zer stold isin sp : Nat} (P : PlaceFns T tup told zer stold isin sp) (hT : T i = some ⟨3, 5, [], q_put_at sure sp pi⟩) (hp : T pi = some ⟨3, 3, [], q_put_in pi⟩) (s : Soft d b) {e : PV} {p : List Bool} (sp' : SoftP e p) (hl : p.length ≤ 16777216) {g : PV} {o : Bush} (so : Soft g o) (hc : (b.at_ p).isSome = true) (k : Nat) (hk : b.height + 7 ≤ k) (hk2 : o.height + 7 ≤ k) (hk3 : p.length + 2 ≤ k) :
    runF T k i [.v d, .v e, .v g] = .ret (.v (b.put p o).enc) [] := by
  obtain ⟨k, rfl⟩ : ∃ j, k = j + 6 := ⟨k - 6, by omega⟩
  have h1 := sure_soft F s (k + 5) (by omega)
  have h1' := sure_soft F so (k + 5) (by omega)
  have h2 := sp_spec P k (b := b) sp' hl hc
  have h3 := put_in_spec hp p b o (k + 5) hc (by omega)
  rw [y_run hT]
  simp [q_put_at, ioOk, free, h1, h1', h2, h3, handsOk, ioNames, putBack, outsOf]
theorem is_place_spec {i told zer stold isin sp : Nat} (P : PlaceFns T tup told zer stold isin sp) (hT : T i = some ⟨2, 3, [], q_is_place sure zer isin⟩) (s : Soft d b) (e : PV) (hn : nice e = true) (hd : e.depth ≤ 150) (k : Nat) (hk : b.height + 7 ≤ k) :
    runF T k i [.v d, .v e] = .ret (.v (.bool (zerosP e && match e with
      | .tuple xs => (b.at_ (xs.map fun x => match x with | .int 1 => true | _ => false)).isSome
      | _ => false))) [] := by
  obtain ⟨k, rfl⟩ : ∃ j, k = j + 6 := ⟨k - 6, by omega⟩
  have h1 := sure_soft F s (k + 5) (by omega)
  have h2 := zeros_spec P.h3 P.h2 (k + 3) e hn hd
  rw [y_run hT]
  by_cases hz : zerosP e = true
  · cases e <;> first | (cases hz; done) | skip
    rename_i xs
    have hx : xs = (xs.map fun x => match x with | .int 1 => true | _ => false).map bitP := by
      rw [zerosP] at hz
      clear h2 hn hd
      induction xs with
      | nil => rfl
      | cons x xs ih =>
        rw [List.all_cons] at hz
        obtain ⟨z1, z2⟩ := and2 hz
        rw [List.map_cons, List.map_cons, ← ih z2]
        congr 1
        cases x <;> first | (cases z1; done) | skip
        rename_i v
        unfold int01 at z1
        simp at z1
        rcases z1 with rfl | rfl <;> rfl
    have h3 := is_place_in_spec P.h5 (k + 4) b (xs.map fun x => match x with | .int 1 => true | _ => false)
    rw [encP, ← hx] at h3
    simp [q_is_place, ioOk, free, h1, h2, h3, hz, handsOk, ioNames, putBack, outsOf]
  · have hz : zerosP e = false := by simpa using hz
    simp [q_is_place, ioOk, free, h1, h2, hz, handsOk, ioNames, putBack, outsOf]
end
end Pv
-- PvBush6
set_option maxRecDepth 100000
namespace Pv
open PySem L2
def decB : PV → Bool
  | .int 1 => true
  | _ => false
def decP : PV → List Bool
  | .tuple xs => xs.map decB
  | _ => []
theorem decP_enc (p : List Bool) : decP (encP p) = p := by
  rw [encP, decP, List.map_map]
  induction p with
  | nil => rfl
  | cons x p ih => rw [List.map_cons, ih]; cases x <;> rfl
theorem mem_places : ∀ {b : Bush} {p : List Bool}, p ∈ b.places ↔ (b.at_ p).isSome = true
  | .lf, [] => by simp [Bush.places, Bush.at_]
  | .lf, _ :: _ => by simp [Bush.places, Bush.at_]
  | .nd a b, [] => by simp [Bush.places, Bush.at_]
  | .nd a b, x :: p => by
    have ha := @mem_places a p
    have hb := @mem_places b p
    cases x <;> simp [Bush.places, Bush.at_, ha, hb]
def Bush.ends (b : Bush) : List (List Bool) := b.places.filter fun p => decide (b.at_ p = some .lf)
theorem fm_enc {f : List Bool → Bool} : ∀ ps : List (List Bool), (ps.map encP).filterMap (fun d => if f (decP d) then some d else none) = (ps.filter f).map encP
  | [] => rfl
  | p :: ps => by
    rw [List.map_cons, List.filterMap_cons, List.filter_cons, decP_enc]
    cases f p <;> simp [fm_enc ps]
section
variable {T : Nat → Option FD} {long tup isb sure : Nat} (F : BushFns T long tup isb sure) {d : PV} {b : Bush}
include F
theorem leaf_places_spec {i li pi : Nat} (hT : T i = some ⟨1, 3, [], q_leaf_places sure li pi⟩) (hl : T li = some ⟨1, 3, [], q_places_in li⟩) (hp : T pi = some ⟨2, 4, [], q_part_in⟩) (s : Soft d b) (hb : b.leaves ≤ 100000) (k : Nat) (hk : b.height + 5 ≤ k) :
    runF T k i [.v d] = .ret (.ml (b.ends.map encP)) [] := by
  obtain ⟨k, rfl⟩ : ∃ j, k = j + 2 := ⟨k - 2, by omega⟩
  have h1 := sure_soft F s (k + 1) (by omega)
  have h2 := places_in_spec hl b (k + 1) hb (by omega)
  have hlen := places_len b
  have hc : evE (runF T (k + 1)) [] (.lc [2] (.inr 2) (.seq (.call li (.cons false (.x 1) .nil))) (.cons false (.op .eq (.cons false (.call pi (.cons false (.x 1) (.cons false (.x 2) .nil))) (.cons false (.tup .nil) .nil))) .nil) (.x 2)) [some (.v d), some (.v b.enc), none] =
      .ok (.ml ((b.places.map encP).filterMap fun d => if decide (b.at_ (decP d) = some .lf) then some d else none)) [some (.v d), some (.v b.enc), none] := by
    refine lc_fm _ (by simp) ?_ rfl (by simp; omega) fun e he => ?_
    · simp [h2, handsOk, ioNames, putBack, itemsOf]
    · obtain ⟨p, hp', rfl⟩ := List.mem_map.mp he
      have hs := mem_places.mp hp'
      obtain ⟨c, hc⟩ := Option.isSome_iff_exists.mp hs
      have h3 := part_in_spec hp k hc
      refine ⟨[some (.v d), some (.v b.enc), some (.v (encP p))], rfl, ?_⟩
      rw [decP_enc, hc]
      cases c with
      | lf =>
        have hg : (if decide (some Bush.lf = some Bush.lf) = true then some (encP p) else none) = some (encP p) := by simp
        simp only [hg]
        exact ⟨[some (.v d), some (.v b.enc), some (.v (encP p))], .v (encP p), [some (.v d), some (.v b.enc), some (.v (encP p))], by simp [h3, handsOk, ioNames, putBack, opf2, cmpf, enc_nil], by simp, rfl, rfl⟩
      | nd x y =>
        have hg : (if decide (some (Bush.nd x y) = some Bush.lf) = true then some (encP p) else none) = none := by simp
        simp only [hg]
        exact ⟨[some (.v d), some (.v b.enc), some (.v (encP p))], by simp [h3, handsOk, ioNames, putBack, opf2, cmpf, enc_nil], rfl⟩
  rw [fm_enc (f := fun p => decide (b.at_ p = some .lf))] at hc
  rw [y_run hT]
  simp [q_leaf_places, ioOk, free, h1, handsOk, ioNames, putBack, hc, Bush.ends, outsOf]
theorem left_parts_spec {i li : Nat} (hT : T i = some ⟨1, 1, [], q_left_parts li sure⟩) (hl : T li = some ⟨1, 2, [], q_lefts_in⟩) (s : Soft d b) (hb : b.height ≤ 100000) (k : Nat) (hk : b.height + 5 ≤ k) : runF T k i [.v d] = .ret (.v (.tuple (b.lefts.map Bush.enc))) [] := by
  obtain ⟨k, rfl⟩ : ∃ j, k = j + 2 := ⟨k - 2, by omega⟩
  have h1 := sure_soft F s (k + 1) (by omega)
  have h2 := lefts_in_spec hl k b hb
  rw [y_run hT]
  simp [q_left_parts, ioOk, h1, h2, handsOk, ioNames, putBack, outsOf, opf1, tuplef]
end
def Bush.rights : Bush → List Bush
  | .lf => []
  | .nd a b => a.rights ++ [b]
def secP : PV → PV
  | .tuple [_, b] => b
  | _ => .none
theorem lefts_cut : ∀ b : Bush, ((b.lefts.map Bush.enc).dropLast.map secP).reverse = b.rights.map Bush.enc
  | .lf => rfl
  | .nd a b => by
    have ih := lefts_cut a
    have hne : a.lefts.map Bush.enc ≠ [] := by cases a <;> simp [Bush.lefts]
    rw [Bush.lefts, List.map_cons, List.dropLast_cons_of_ne_nil hne, List.map_cons, List.reverse_cons, ih, Bush.rights, List.map_append]
    rfl
theorem cut_last {xs : List PV} : cutP xs none (some (-1)) = xs.dropLast := by
  have h : HT.sIx xs.length xs.length (some (-1)) = xs.length - 1 := by
    show (if (-1 : Int) < 0 then (-1 + (xs.length : Int)).toNat else min (-1 : Int).toNat xs.length) = _
    rw [if_pos (by omega)]
    omega
  rw [cutP, h, HT.sIx_none, List.drop_zero, Nat.sub_zero, List.dropLast_eq_take]
theorem lefts_nd : ∀ (b : Bush) (d : PV), d ∈ (b.lefts.map Bush.enc).dropLast → ∃ x y : Bush, d = (Bush.nd x y).enc
  | .lf, d, h => by cases h
  | .nd a b, d, h => by
    have hne : a.lefts.map Bush.enc ≠ [] := by cases a <;> simp [Bush.lefts]
    rw [Bush.lefts, List.map_cons, List.dropLast_cons_of_ne_nil hne] at h
    rcases List.mem_cons.mp h with e | h
    · exact ⟨a, b, e⟩
    · exact lefts_nd a d h
section
variable {T : Nat → Option FD} {long tup isb sure : Nat} (F : BushFns T long tup isb sure) {d : PV} {b : Bush}
include F
theorem right_parts_spec {i li : Nat} (hT : T i = some ⟨1, 2, [], q_right_parts li sure⟩) (hl : T li = some ⟨1, 2, [], q_lefts_in⟩) (s : Soft d b) (hb : b.height ≤ 100000) (k : Nat) (hk : b.height + 5 ≤ k) : runF T k i [.v d] = .ret (.v (.tuple (b.rights.map Bush.enc))) [] := by
  obtain ⟨k, rfl⟩ : ∃ j, k = j + 2 := ⟨k - 2, by omega⟩
  have h1 := sure_soft F s (k + 1) (by omega)
  have h2 := lefts_in_spec hl k b hb
  have hlen := (lefts_len b).2
  have hc : evE (runF T (k + 1)) [] (.lc [1] (.inr 1) (.seq (.op (.slice false true) (.cons false (.call li (.cons false (.call sure (.cons false (.x 0) .nil)) .nil)) (.cons false (.op .neg (.cons false (.c (.int 1)) .nil)) .nil)))) .nil (.op .idx (.cons false (.x 1) (.cons false (.c (.int 1)) .nil)))) [some (.v d), none] =
      .ok (.ml ((b.lefts.map Bush.enc).dropLast.map secP)) [some (.v d), none] := by
    refine lc_map secP (by simp) ?_ rfl (by simp; omega) fun e he => ?_
    · simp [h1, h2, handsOk, ioNames, putBack, opf1, opf2, negf, vI, bInt, slicef, cut_last, itemsOf]
    · obtain ⟨x, y, rfl⟩ := lefts_nd b e he
      refine ⟨[some (.v d), some (.v (Bush.nd x y).enc)], .v y.enc, [some (.v d), some (.v (Bush.nd x y).enc)], rfl, ?_, by rw [enc_fz]; rfl, rfl⟩
      have a1 : idxf (Bush.nd x y).enc (.int 1) = some (.v y.enc) := by simp [Bush.enc, idxf, atI, ixN]
      simp [opf2, a1]
  rw [y_run hT]
  simp [-List.map_dropLast, q_right_parts, ioOk, hc, opf1, revf, tuplef, lefts_cut, outsOf]
end
end Pv
-- PvBush7
set_option maxRecDepth 100000
namespace Pv
open PySem L2
structure SoftL (d : PV) (bs : List Bush) (h : Nat) : Prop where
  n : nice d = true
  t : tupP d = .tuple (bs.map Bush.enc)
  d : d.depth ≤ h
  h : ∀ b ∈ bs, b.height + 2 ≤ h
  l : bs.length ≤ 100000
theorem encs_nice : ∀ bs : List Bush, niceA (bs.map Bush.enc) = true
  | [] => rfl
  | b :: bs => by rw [List.map_cons, niceA, enc_nice, encs_nice bs]; rfl
theorem all_true {α : Type} : ∀ xs : List α, bBools (xs.map fun _ => PyData.bool true) = some (xs.map fun _ => true)
  | [] => rfl
  | x :: xs => by rw [List.map_cons, bBools, all_true xs]; rfl
theorem all_const {α : Type} : ∀ xs : List α, (xs.map fun _ => true).all id = true
  | [] => rfl
  | x :: xs => by rw [List.map_cons, List.all_cons, all_const xs]; rfl
def constP (c : PV) (_ : PV) : PV := c
def Bush.build (bs : List Bush) : Bush := bs.foldl Bush.nd .lf
theorem sums : ∀ bs : List Bush, bInts (bs.map fun b => PyData.int b.leaves) = some (bs.map fun b => (b.leaves : Int))
  | [] => rfl
  | b :: bs => by rw [List.map_cons, bInts, sums bs]; rfl
theorem build_loop {cf : Nat → List Ob → CR} {o0 o1 : Option Ob} : ∀ (bs : List Bush) (acc : Bush) (o2 : Option Ob),
    ∃ o2', forL (forT cf [] (.inr 2) (.cons (.asg true 3 (.tup (.cons false (.x 3) (.cons false (.x 2) .nil)))) .nil)) (bs.map Bush.enc) [o0, o1, o2, some (.v acc.enc)] = .ok .nx [o0, o1, o2', some (.v (bs.foldl Bush.nd acc).enc)]
  | [], acc, o2 => ⟨o2, by simp [forL]⟩
  | b :: bs, acc, o2 => by
    obtain ⟨o2', h'⟩ := build_loop (cf := cf) (o0 := o0) (o1 := o1) bs (Bush.nd acc b) (some (.v b.enc))
    refine ⟨o2', ?_⟩
    rw [List.map_cons, forL, List.foldl_cons, ← h']
    simp [forT, setTg, free, Bush.enc]
theorem enc_inj : ∀ {a b : Bush}, a.enc = b.enc → a = b
  | .lf, .lf, _ => rfl
  | .lf, .nd _ _, h => by simp [Bush.enc] at h
  | .nd _ _, .lf, h => by simp [Bush.enc] at h
  | .nd a b, .nd c d, h => by
    simp only [Bush.enc, PyData.tuple.injEq, List.cons.injEq, and_true] at h
    rw [enc_inj h.1, enc_inj h.2]
section
variable {T : Nat → Option FD} {long tup isb sure : Nat} (F : BushFns T long tup isb sure) {d : PV} {bs : List Bush} {h : Nat}
include F
theorem sure_bushes_spec {i : Nat} (hT : T i = some ⟨1, 3, [], q_sure_bushes tup isb⟩) (s : SoftL d bs h) (k : Nat) (hk : h + 3 ≤ k) : runF T k i [.v d] = .ret (.v (.tuple (bs.map Bush.enc))) [] := by
  obtain ⟨k, rfl⟩ : ∃ j, k = j + 1 := ⟨k - 1, by omega⟩
  have h1 := tupled_spec F.h2 k d s.n (by have := s.d; omega)
  rw [s.t] at h1
  have hc : evE (runF T k) [] (.lc [2] (.inr 2) (.seq (.x 1)) .nil (.call isb (.cons false (.x 2) .nil))) [some (.v d), some (.v (.tuple (bs.map Bush.enc))), none] =
      .ok (.ml ((bs.map Bush.enc).map fun _ => .bool true)) [some (.v d), some (.v (.tuple (bs.map Bush.enc))), none] := by
    refine lc_map _ (by simp) (by simp [itemsOf]) rfl (by simp; have := s.l; omega) fun e he => ?_
    obtain ⟨b, hb, rfl⟩ := List.mem_map.mp he
    have h2 := is_bush_spec F.h3 F.h1 k b.enc (enc_nice b) (by rw [enc_depth]; have := s.h b hb; omega)
    rw [enc_bush] at h2
    exact ⟨[some (.v d), some (.v (.tuple (bs.map Bush.enc))), some (.v b.enc)], .v (.bool true), [some (.v d), some (.v (.tuple (bs.map Bush.enc))), some (.v b.enc)], rfl, by simp [h2, handsOk, ioNames, putBack], rfl, rfl⟩
  rw [y_run hT]
  have h3 := all_true (bs.map Bush.enc)
  have h4 := all_const (bs.map Bush.enc)
  simp only [List.map_map] at h3 h4
  simp [q_sure_bushes, ioOk, free, h1, handsOk, ioNames, putBack, opf1, kindf, isTupV, vB, hc, allf, outsOf, h3, h4]
theorem from_rights_spec {i sb li : Nat} (hT : T i = some ⟨1, 4, [], q_from_right_parts sb li⟩) (hs : T sb = some ⟨1, 3, [], q_sure_bushes tup isb⟩) (hl : T li = some ⟨1, 1, [], q_leaves_in li⟩) (s : SoftL d bs h) (hsum : 1 + (bs.map fun b => (b.leaves : Int)).sum ≤ 12) (k : Nat) (hk : h + 4 ≤ k) : runF T k i [.v d] = .ret (.v (Bush.build bs).enc) [] := by
  obtain ⟨k, rfl⟩ : ∃ j, k = j + 1 := ⟨k - 1, by omega⟩
  have h1 := sure_bushes_spec F hs s k (by omega)
  have hc : evE (runF T k) [] (.lc [2] (.inr 2) (.seq (.x 1)) .nil (.call li (.cons false (.x 2) .nil))) [some (.v d), some (.v (.tuple (bs.map Bush.enc))), none, none] =
      .ok (.ml (bs.map fun b => .int b.leaves)) [some (.v d), some (.v (.tuple (bs.map Bush.enc))), none, none] := by
    refine lc_mapE Bush.enc _ (by simp) (by simp [itemsOf]) rfl (by simp; have := s.l; omega) fun b hb => ?_
    have h2 := leaves_in_spec hl b k (by have := s.h b hb; omega)
    exact ⟨[some (.v d), some (.v (.tuple (bs.map Bush.enc))), some (.v b.enc), none], .v (.int b.leaves), [some (.v d), some (.v (.tuple (bs.map Bush.enc))), some (.v b.enc), none], rfl, by simp [h2, handsOk, ioNames, putBack], rfl, rfl⟩
  obtain ⟨o2', hloop⟩ := build_loop (cf := runF T k) (o0 := some (.v d)) (o1 := some (.v (.tuple (bs.map Bush.enc)))) bs .lf none
  have hn : ¬ (12 : Int) < 1 + (bs.map fun b => (b.leaves : Int)).sum := by omega
  rw [y_run hT]
  simp only [Bush.enc] at hloop
  simp [q_from_right_parts, ioOk, free, freeTg, h1, handsOk, ioNames, putBack, opf1, opf2, cmpf, hc, sumf, sums, vI, addf, gtf, hn, itemsOf, hloop, outsOf, Bush.build]
end
end Pv
-- PvBushLaw
set_option maxRecDepth 100000
namespace Pv
open PySem L2
mutual
def listP : PV → PV
  | .list xs => .list (listPs xs)
  | .tuple xs => .list (listPs xs)
  | d => d
def listPs : List PV → List PV
  | [] => []
  | x :: xs => listP x :: listPs xs
end
theorem listPs_map : ∀ xs : List PV, listPs xs = xs.map listP
  | [] => rfl
  | x :: xs => by rw [listPs, List.map_cons, listPs_map xs]
/-- as it comes back -/
def listO : PV → Ob
  | .list xs => .ml (xs.map listP)
  | .tuple xs => .ml (xs.map listP)
  | d => .v d
theorem listO_fz (d : PV) (h : nice d = true) (env : En) : fzR (listO d) env = .ok (listP d) env := by
  cases d <;> first | (cases h; done) | rfl | (simp [listO, listP, listPs_map])
theorem lists_spec {T : Nat → Option FD} {i : Nat} (hT : T i = some ⟨1, 2, [], q_law_lists i⟩) : ∀ (k : Nat) (d : PV), nice d = true → d.depth + 1 ≤ k → runF T k i [.v d] = .ret (listO d) []
  | 0, d, _, h => by omega
  | k + 1, d, hd, hk => by
    have seq : ∀ (xs : List PV) (mk : List PV → PV), niceA xs = true → xs.length ≤ 16777216 → PyData.depthAll xs + 1 ≤ k → itemsOf (mk xs) = some xs → isD (mk xs) = false →
        evE (runF T k) [] (.lc [1] (.inr 1) (.seq (.x 0)) .nil (.call i (.cons false (.x 1) .nil))) [some (.v (mk xs)), none] = .ok (.ml (xs.map listP)) [some (.v (mk xs)), none] := fun xs mk hx hl hdep hi hd => by
      refine lc_map listP (by simp) ?_ rfl (by simpa using hl) fun d hd => ?_
      · have e1 := y_fzv (env := [some (.v (mk xs)), none]) hd
        simp [e1, hi]
      · have dm := depth_mem hd
        have hn := niceA_mem hx hd
        have ih := lists_spec hT k d hn (by omega)
        exact ⟨[some (.v (mk xs)), some (.v d)], listO d, [some (.v (mk xs)), some (.v d)], rfl, by simp [ih, handsOk, ioNames, putBack], listO_fz d hn _, rfl⟩
    rw [y_run hT]
    cases d with
    | dict _ => cases hd
    | list xs =>
      rw [nice] at hd
      obtain ⟨h1, h2⟩ := and2 hd
      rw [PyData.depth] at hk
      have := seq xs .list h2 (of_decide_eq_true h1) (by omega) rfl rfl
      simp [q_law_lists, ioOk, opf1, opf2, kindf, vB, isSeqV, isListV, isTupV, this, outsOf, listO]
    | tuple xs =>
      rw [nice] at hd
      obtain ⟨h1, h2⟩ := and2 hd
      rw [PyData.depth] at hk
      have := seq xs .tuple h2 (of_decide_eq_true h1) (by omega) rfl rfl
      simp [q_law_lists, ioOk, opf1, opf2, kindf, vB, isSeqV, isListV, isTupV, this, outsOf, listO]
    | none => simp [q_law_lists, ioOk, opf1, opf2, kindf, vB, isSeqV, isListV, isTupV, outsOf, listO]
    | bool _ => simp [q_law_lists, ioOk, opf1, opf2, kindf, vB, isSeqV, isListV, isTupV, outsOf, listO]
    | int _ => simp [q_law_lists, ioOk, opf1, opf2, kindf, vB, isSeqV, isListV, isTupV, outsOf, listO]
    | str _ => simp [q_law_lists, ioOk, opf1, opf2, kindf, vB, isSeqV, isListV, isTupV, outsOf, listO]
def Bush.soft (b : Bush) : PV := listP b.enc
theorem soft_nice : ∀ b : Bush, nice b.soft = true
  | .lf => rfl
  | .nd a b => by
    have := soft_nice a
    have := soft_nice b
    simp_all [Bush.soft, Bush.enc, listP, listPs, nice, niceA]
theorem soft_tup : ∀ b : Bush, tupP b.soft = b.enc
  | .lf => rfl
  | .nd a b => by
    have := soft_tup a
    have := soft_tup b
    simp_all [Bush.soft, Bush.enc, listP, listPs, tupP, tupPs]
theorem soft_depth : ∀ b : Bush, b.soft.depth = b.height + 1
  | .lf => rfl
  | .nd a b => by
    have ha := soft_depth a
    have hb := soft_depth b
    simp only [Bush.soft] at ha hb
    simp only [Bush.soft, Bush.enc, listP, listPs, PyData.depth, PyData.depthAll, ha, hb, Bush.height]
    omega
theorem Soft.soft (b : Bush) : Soft b.soft b := ⟨soft_nice b, soft_tup b, by rw [soft_depth]; exact Nat.le_refl _⟩
theorem lists_enc {T : Nat → Option FD} {i : Nat} (hT : T i = some ⟨1, 2, [], q_law_lists i⟩) (k : Nat) (b : Bush) (hk : b.height + 2 ≤ k) : ∃ xs, runF T k i [.v b.enc] = .ret (.ml xs) [] ∧ b.soft = .list xs := by
  have h := lists_spec hT k b.enc (enc_nice b) (by rw [enc_depth]; omega)
  cases b with
  | lf => exact ⟨_, h, rfl⟩
  | nd x y => exact ⟨_, h, rfl⟩
def sumL (bs : List Bush) : Nat := (bs.map Bush.leaves).sum
theorem len_sumL (st : List Bush) : st.length ≤ sumL st := by
  induction st with
  | nil => exact Nat.le_refl _
  | cons b st ih =>
    have := height_lt b
    simp only [sumL, List.map_cons, List.sum_cons, List.length_cons] at ih ⊢
    omega
theorem leafs_loop {cf : Nat → List Ob → CR} {o0 : Option Ob} : ∀ (n : Nat) (st : List Bush) (c : Nat) (o3 : Option Ob), 2 * sumL st < n + st.length → sumL st ≤ 10000 →
    ∃ o3', whileN (whlC cf [] (.op .ne (.cons false (.x 1) (.cons false (.lst .nil) .nil)))) (whlB cf [] (.cons (.asg true 3 (.pop 1))
      (.cons (.ite (.op .eq (.cons false (.x 3) (.cons false (.tup .nil) .nil))) (.cons (.asg true 2 (.op .add (.cons false (.x 2) (.cons false (.c (.int 1)) .nil)))) .nil) (.cons (.ext 1 (.lst (.cons false (.op .idx (.cons false (.x 3) (.cons false (.c (.int 0)) .nil))) (.cons false (.op .idx (.cons false (.x 3) (.cons false (.c (.int 1)) .nil))) .nil)))) .nil)) .nil))) n
      [o0, some (.ml (st.map Bush.enc)), some (.v (.int c)), o3] = .ok .nx [o0, some (.ml []), some (.v (.int ((c + sumL st : Nat) : Int))), o3']
  | 0, st, c, o3, h, _ => by
    exfalso
    have := len_sumL st
    omega
  | n + 1, st, c, o3, h, hl => by
    rcases List.eq_nil_or_concat st with rfl | ⟨st', b, rfl⟩
    · refine ⟨o3, ?_⟩
      rw [whileN]
      simp [whlC, opf2, cmpf, sumL]
    · have hs : sumL (st' ++ [b]) = sumL st' + b.leaves := by simp [sumL]
      rw [List.concat_eq_append] at h hl ⊢
      rw [hs, List.length_append, List.length_singleton] at h
      rw [hs] at hl
      rw [hs]
      cases b with
      | lf =>
        obtain ⟨o3', h'⟩ := leafs_loop (cf := cf) (o0 := o0) n st' (c + 1) (some (.v Bush.lf.enc)) (by simp only [Bush.leaves] at h; omega) (by simp only [Bush.leaves] at hl; omega)
        refine ⟨o3', ?_⟩
        have e : c + (sumL st' + Bush.lf.leaves) = c + 1 + sumL st' := by simp only [Bush.leaves]; omega
        rw [e, ← h', whileN]
        simp [whlC, whlB, opf2, cmpf, free, Bush.enc, addf, vI]
      | nd x y =>
        have hs2 : sumL (st' ++ [x, y]) = sumL st' + (Bush.nd x y).leaves := by simp [sumL, Bush.leaves]
        obtain ⟨o3', h'⟩ := leafs_loop (cf := cf) (o0 := o0) n (st' ++ [x, y]) c (some (.v (Bush.nd x y).enc)) (by rw [hs2, List.length_append]; simp only [List.length_cons, List.length_nil]; omega) (by rw [hs2]; exact hl)
        refine ⟨o3', ?_⟩
        have e2 : eqf (Bush.nd x y).enc (.tuple []) = some false := by simp [Bush.enc]
        have a0 : idxf (Bush.nd x y).enc (.int 0) = some (.v x.enc) := by simp [Bush.enc, idxf, atI, ixN]
        have a1 : idxf (Bush.nd x y).enc (.int 1) = some (.v y.enc) := by simp [Bush.enc, idxf, atI, ixN]
        have hlen : st'.length + 2 ≤ 16777216 := by have := len_sumL st'; omega
        rw [← hs2, ← h', whileN]
        simp [whlC, whlB, opf2, cmpf, free, e2, a0, a1, isMl, hlen]
theorem leafs_spec {T : Nat → Option FD} {i : Nat} (hT : T i = some ⟨1, 4, [], q_law_leafs⟩) (k : Nat) (b : Bush) (hb : b.leaves ≤ 1000) : runF T (k + 1) i [.v b.enc] = .ret (.v (.int b.leaves)) [] := by
  obtain ⟨o3', h'⟩ := leafs_loop (cf := runF T k) (o0 := some (.v b.enc)) wfuel [b] 0 none (by simp [sumL]; unfold wfuel; omega) (by simp [sumL]; omega)
  rw [y_run hT]
  simp [sumL] at h'
  simp [q_law_leafs, ioOk, free, setObs, h', outsOf]
end Pv
-- PvWho
set_option maxRecDepth 100000
namespace Pv
open PySem L2
structure LvlFns (T : Nat → Option FD) (isn isa sn ri pi si sl : Nat) : Prop where
  t : TblFns T isn isa sn ri pi si
  h1 : T sl = some ⟨1, 1, [], q_sure_level sn⟩
section
variable {T : Nat → Option FD} {isn isa sn ri pi si sl : Nat}
theorem times_run {i k : Nat} (hT : T i = some ⟨3, 5, [], q_times sl si pi ri⟩) {L A B Z : Int} {R1 : List PV} (h1 : runF T k sl [.v (.int L)] = .ret (.v (.int L)) []) (h2 : runF T k si [.v (.int L), .v (.int A)] = .ret (.v (.int A)) []) (h2b : runF T k si [.v (.int L), .v (.int B)] = .ret (.v (.int B)) []) (h3 : runF T k ri [.v (.int L)] = .ret (.ml R1) []) (h4 : runF T k pi [.v (.list R1), .v (.int A), .v (.int B)] = .ret (.v (.int Z)) []) :
    runF T (k + 1) i [.v (.int L), .v (.int A), .v (.int B)] = .ret (.v (.int Z)) [] := by
  rw [y_run hT]
  simp [q_times, ioOk, free, h1, h2, h2b, h3, h4, handsOk, ioNames, putBack, outsOf]
theorem trow_run {i k : Nat} (hT : T i = some ⟨2, 4, [], q_table_row sl si ri⟩) {L A : Int} {R1 r : List PV} (h1 : runF T k sl [.v (.int L)] = .ret (.v (.int L)) []) (h2 : runF T k si [.v (.int L), .v (.int A)] = .ret (.v (.int A)) []) (h3 : runF T k ri [.v (.int L)] = .ret (.ml R1) []) (h4 : idxf (.list R1) (.int A) = some (.v (.list r))) :
    runF T (k + 1) i [.v (.int L), .v (.int A)] = .ret (.v (.tuple r)) [] := by
  rw [y_run hT]
  simp [q_table_row, ioOk, free, h1, h2, h3, h4, opf1, opf2, tuplef, handsOk, ioNames, putBack, outsOf]
theorem period_run {i k tr : Nat} (hT : T i = some ⟨2, 2, [], q_period tr⟩) {L A : Int} {r : List PV} (h : runF T k tr [.v (.int L), .v (.int A)] = .ret (.v (.tuple r)) []) : runF T (k + 1) i [.v (.int L), .v (.int A)] = .ret (.v (.int r.length)) [] := by
  rw [y_run hT]
  simp [q_period, ioOk, h, opf1, lenf, vI, handsOk, ioNames, putBack, outsOf]
theorem itn_run {i k : Nat} (hT : T i = some ⟨2, 2, [], q_is_table_number isa sl⟩) {L N : Int} {d : PV} {q : Bool} (h1 : runF T k sl [.v (.int L)] = .ret (.v (.int L)) []) (hs : shlf (.int 1) (.int L) = some (.v (.int N))) (h : runF T k isa [.v d, .v (.int 1), .v (.int N)] = .ret (.v (.bool q)) []) : runF T (k + 1) i [.v (.int L), .v d] = .ret (.v (.bool q)) [] := by
  rw [y_run hT]
  simp [q_is_table_number, ioOk, h1, hs, h, opf2, handsOk, ioNames, putBack, outsOf]
theorem spr_run {i k : Nat} (hT : T i = some ⟨4, 10, [], q_spreads_at sl si ri pi⟩) {L A B C BC X AB AC Y : Int} {R1 : List PV} (h1 : runF T k sl [.v (.int L)] = .ret (.v (.int L)) []) (hA : runF T k si [.v (.int L), .v (.int A)] = .ret (.v (.int A)) []) (hB : runF T k si [.v (.int L), .v (.int B)] = .ret (.v (.int B)) []) (hC : runF T k si [.v (.int L), .v (.int C)] = .ret (.v (.int C)) []) (h3 : runF T k ri [.v (.int L)] = .ret (.ml R1) [])
    (h4 : runF T k pi [.v (.list R1), .v (.int B), .v (.int C)] = .ret (.v (.int BC)) []) (h5 : runF T k pi [.v (.list R1), .v (.int A), .v (.int BC)] = .ret (.v (.int X)) []) (h6 : runF T k pi [.v (.list R1), .v (.int A), .v (.int B)] = .ret (.v (.int AB)) []) (h7 : runF T k pi [.v (.list R1), .v (.int A), .v (.int C)] = .ret (.v (.int AC)) []) (h8 : runF T k pi [.v (.list R1), .v (.int AB), .v (.int AC)] = .ret (.v (.int Y)) []) :
    runF T (k + 1) i [.v (.int L), .v (.int A), .v (.int B), .v (.int C)] = .ret (.v (.tuple [.int X, .int Y])) [] := by
  have c1 : ∀ e6 e7 : Option Ob, evSs (runF T k) [] (.cons (.asg true 8 (.call ri (.cons false (.x 4) .nil))) .nil) [some (.v (.int L)), e6, e7, none, some (.v (.int L)), none, none, none, none, none] = .ok .nx [some (.v (.int L)), e6, e7, none, some (.v (.int L)), none, none, none, some (.v (.list R1)), none] := fun e6 e7 => by
    simp [h3, free, handsOk, ioNames, putBack]
  rw [y_run hT]
  simp [q_spreads_at, ioOk, free, h1, hA, hB, hC, h3, h4, h5, h6, h7, h8, handsOk, ioNames, putBack, outsOf]
variable (K : LvlFns T isn isa sn ri pi si sl)
include K
theorem rows_at {k l N : Nat} (hl : l ≤ 13) (hN : 2 ^ l = N) : runF T (k + 1) ri [.v (.int l)] = .ret (.ml (rowsV N)) [] := by
  have := rows_in_spec K.t.h1 k l (by omega)
  rw [hN] at this
  exact this
theorem times_spec {i : Nat} (hT : T i = some ⟨3, 5, [], q_times sl si pi ri⟩) (k : Nat) {l N a b : Nat} (hl : l ≤ 12) (hN : 2 ^ l = N) (h1 : 1 ≤ a) (h2 : a ≤ N) (h3 : 1 ≤ b) (h4 : b ≤ N) : runF T (k + 5) i [.v (.int l), .v (.int a), .v (.int b)] = .ret (.v (.int (F N a b))) [] :=
  times_run hT (sure_level_spec K.t.n K.h1 k l (by omega) (by omega)) (sure_in_spec K.t.n K.t.h3 k l a (by omega) h1 (by omega)) (sure_in_spec K.t.n K.t.h3 k l b (by omega) h3 (by omega)) (rows_at K (by omega) hN) (product_spec K.t.h2 (k + 3) h1 h2 h3)
theorem table_row_spec {i : Nat} (hT : T i = some ⟨2, 4, [], q_table_row sl si ri⟩) (k : Nat) {l N a : Nat} (hl : l ≤ 12) (hN : 2 ^ l = N) (h1 : 1 ≤ a) (h2 : a ≤ N) : runF T (k + 5) i [.v (.int l), .v (.int a)] = .ret (.v (.tuple ((R N a).map nI))) [] :=
  trow_run hT (sure_level_spec K.t.n K.h1 k l (by omega) (by omega)) (sure_in_spec K.t.n K.t.h3 k l a (by omega) h1 (by omega)) (rows_at K (by omega) hN) (idx_at rfl (rowsV_at h2))
theorem period_spec {i tr : Nat} (hT : T i = some ⟨2, 2, [], q_period tr⟩) (ht : T tr = some ⟨2, 4, [], q_table_row sl si ri⟩) (k : Nat) {l N a : Nat} (hl : l ≤ 12) (hN : 2 ^ l = N) (h1 : 1 ≤ a) (h2 : a ≤ N) : runF T (k + 6) i [.v (.int l), .v (.int a)] = .ret (.v (.int (R N a).length)) [] := by
  have := period_run hT (table_row_spec K ht k hl hN h1 h2)
  rw [List.length_map] at this
  exact this
theorem itn_spec {i : Nat} (hT : T i = some ⟨2, 2, [], q_is_table_number isa sl⟩) (k : Nat) {l N : Nat} (hl : l ≤ 12) (hN : 2 ^ l = N) (d : PV) (hd : isD d = false) : runF T (k + 5) i [.v (.int l), .v d] = .ret (.v (.bool (among 1 N d))) [] := by
  have hs := shl_one (l := l) (by omega)
  rw [hN] at hs
  exact itn_run hT (sure_level_spec K.t.n K.h1 k l (by omega) (by omega)) hs (is_among_spec K.t.n (k + 2) d hd 1 N)
theorem spreads_spec {i : Nat} (hT : T i = some ⟨4, 10, [], q_spreads_at sl si ri pi⟩) (k : Nat) {l N a b c : Nat} (hl : l ≤ 12) (hN : 2 ^ l = N) (h1 : 1 ≤ a) (h2 : a ≤ N) (h3 : 1 ≤ b) (h4 : b ≤ N) (h5 : 1 ≤ c) (h6 : c ≤ N) : runF T (k + 5) i [.v (.int l), .v (.int a), .v (.int b), .v (.int c)] = .ret (.v (.tuple [nI (F N a (F N b c)), nI (F N (F N a b) (F N a c))])) [] := by
  have f1 := F_range (N := N) h3 h4 h5 h6
  have f2 := F_range (N := N) h1 h2 h3 h4
  have f3 := F_range (N := N) h1 h2 h5 h6
  exact spr_run hT (sure_level_spec K.t.n K.h1 k l (by omega) (by omega)) (sure_in_spec K.t.n K.t.h3 k l a (by omega) h1 (by omega)) (sure_in_spec K.t.n K.t.h3 k l b (by omega) h3 (by omega)) (sure_in_spec K.t.n K.t.h3 k l c (by omega) h5 (by omega)) (rows_at K (by omega) hN)
    (product_spec K.t.h2 (k + 3) h3 h4 h5) (product_spec K.t.h2 (k + 3) h1 h2 f1.1) (product_spec K.t.h2 (k + 3) h1 h2 h3) (product_spec K.t.h2 (k + 3) h1 h2 h5) (product_spec K.t.h2 (k + 3) f2.1 f2.2 f3.1)
end
end Pv
-- PvWho2
set_option maxRecDepth 100000
namespace Pv
open PySem L2
def wrowP (N a : Nat) : PV := .tuple ((List.range N).map fun j => nI (F N a (j + 1)))
def wholeL (N : Nat) : List PV := (List.range N).map fun i => wrowP N (i + 1)
def wholeP (N : Nat) : PV := .tuple (wholeL N)
section
variable {T : Nat → Option FD} {isn isa sn ri pi si sl : Nat}
theorem who_it {cf : Nat → List Ob → CR} {B : Int} {ds : List PV} {e0 e1 e2 e4 e5 : Option Ob} (hr : rangeV [.int 1, .int (B + 1)] = some ds) : evIt cf [] (.range (.cons false (.c (.int 1)) (.cons false (.op .add (.cons false (.x 3) (.cons false (.c (.int 1)) .nil))) .nil))) [e0, e1, e2, some (.v (.int B)), e4, e5] = .ok ds [e0, e1, e2, some (.v (.int B)), e4, e5] := by
  have c : evF cf [] (.cons false (.c (.int 1)) (.cons false (.op .add (.cons false (.x 3) (.cons false (.c (.int 1)) .nil))) .nil)) [e0, e1, e2, some (.v (.int B)), e4, e5] = .ok [.int 1, .int (B + 1)] [e0, e1, e2, some (.v (.int B)), e4, e5] := by simp [opf2, addf, vI]
  rw [y_range, c, Rs.bind_ok, hr, optR_some]
theorem who_call {cf : Nat → List Ob → CR} {R1 : List PV} {A X Z : Int} {e0 e2 e3 : Option Ob} (h : cf pi [.v (.list R1), .v (.int A), .v (.int X)] = .ret (.v (.int Z)) []) : evE cf [] (.call pi (.cons false (.x 1) (.cons false (.x 4) (.cons false (.x 5) .nil)))) [e0, some (.v (.list R1)), e2, e3, some (.v (.int A)), some (.v (.int X))] = .ok (.v (.int Z)) [e0, some (.v (.list R1)), e2, e3, some (.v (.int A)), some (.v (.int X))] := by
  simp [h, handsOk, ioNames, putBack]
def whoBody (pi : Nat) : ISs := .cons (.ap 2 (.op .tuple (.cons false (.lc [5] (.inr 5) (.range (.cons false (.c (.int 1)) (.cons false (.op .add (.cons false (.x 3) (.cons false (.c (.int 1)) .nil))) .nil))) .nil (.call pi (.cons false (.x 1) (.cons false (.x 4) (.cons false (.x 5) .nil))))) .nil))) .nil
theorem who_comp (hp : T pi = some ⟨3, 3, [], q_product_in⟩) {k N a : Nat} (hN : N ≤ 100000) (h1 : 1 ≤ a) (h2 : a ≤ N) {e0 e2 : Option Ob} :
    evE (runF T (k + 1)) [] (.lc [5] (.inr 5) (.range (.cons false (.c (.int 1)) (.cons false (.op .add (.cons false (.x 3) (.cons false (.c (.int 1)) .nil))) .nil))) .nil (.call pi (.cons false (.x 1) (.cons false (.x 4) (.cons false (.x 5) .nil))))) [e0, some (.v (.list (rowsV N))), e2, some (.v (.int N)), some (.v (.int a)), none] = .ok (.ml ((List.range N).map fun j => nI (F N a (j + 1)))) [e0, some (.v (.list (rowsV N))), e2, some (.v (.int N)), some (.v (.int a)), none] := by
  refine lc_mapE (fun j => nI (j + 1)) _ (by simp) (who_it (range_1n hN)) rfl (by rw [List.length_range, lim_nat]; omega) fun j hj => ?_
  have := List.mem_range.mp hj
  exact ⟨_, .v (nI (F N a (j + 1))), _, rfl, who_call (product_spec hp k h1 h2 (by omega)), rfl, rfl⟩
theorem tup_lc {cf : Nat → List Ob → CR} {lk own : List Nat} {tg : List Nat ⊕ Nat} {it : IT} {c : IEs} {e : IE} {env env' : En} {ys : List PV} (h : evE cf lk (.lc own tg it c e) env = .ok (.ml ys) env') : evE cf lk (.op .tuple (.cons false (.lc own tg it c e) .nil)) env = .ok (.v (.tuple ys)) env' := by
  simp [h, opf1, tuplef]
theorem who_turn (hp : T pi = some ⟨3, 3, [], q_product_in⟩) {k N a : Nat} (hN : N ≤ 100000) (h1 : 1 ≤ a) (h2 : a ≤ N) {f : List PV} (hf : f.length ≤ 100000) {e0 e4 : Option Ob} : forT (runF T (k + 1)) [] (.inr 4) (whoBody pi) (.int (a : Int)) [e0, some (.v (.list (rowsV N))), some (.ml f), some (.v (.int N)), e4, none] = .ok .nx [e0, some (.v (.list (rowsV N))), some (.ml (f ++ [wrowP N a])), some (.v (.int N)), some (.v (.int a)), none] := by
  have c := tup_lc (who_comp hp (k := k) hN h1 h2 (e0 := e0) (e2 := some (.ml f)))
  rw [forT]
  simp only [setTg, List.set, whoBody]
  have hl : f.length < 16777216 := by omega
  rw [y_ss1, y_ap, if_pos (by rfl), c, Rs.bind_ok]
  simp [hl, wrowP]
theorem who_for (hp : T pi = some ⟨3, 3, [], q_product_in⟩) {k N : Nat} (hN : N ≤ 10000) {e0 : Option Ob} : ∀ (n m : Nat) (e4 : Option Ob), m + n = N → ∃ e4', forL (forT (runF T (k + 1)) [] (.inr 4) (whoBody pi)) (rangeL ((m : Int) + 1) n 1) [e0, some (.v (.list (rowsV N))), some (.ml ((List.range m).map fun i => wrowP N (i + 1))), some (.v (.int N)), e4, none] = .ok .nx [e0, some (.v (.list (rowsV N))), some (.ml (wholeL N)), some (.v (.int N)), e4', none]
  | 0, m, e4, h => by
    obtain rfl : m = N := by omega
    exact ⟨e4, by rw [rangeL]; rfl⟩
  | n + 1, m, e4, h => by
    obtain ⟨e4', ih⟩ := who_for hp (k := k) hN (e0 := e0) n (m + 1) (some (.v (.int ((m : Int) + 1)))) (by omega)
    refine ⟨e4', ?_⟩
    have t := who_turn hp (k := k) (N := N) (a := m + 1) (by omega) (by omega) (by omega) (f := (List.range m).map fun i => wrowP N (i + 1)) (by simp; omega) (e0 := e0) (e4 := e4)
    have e : ((List.range m).map fun i => wrowP N (i + 1)) ++ [wrowP N (m + 1)] = (List.range (m + 1)).map fun i => wrowP N (i + 1) := by rw [List.range_succ, List.map_append, List.map_singleton]
    rw [e, show ((m + 1 : Nat) : Int) = (m : Int) + 1 from rfl] at t
    rw [show ((m + 1 : Nat) : Int) = (m : Int) + 1 from rfl] at ih
    rw [rangeL_up, forL, t, Rs.bind_ok]
    exact ih
theorem range_1r {N : Nat} (h : N ≤ 100000) : rangeV [.int 1, .int ((N : Int) + 1)] = some (rangeL (((0 : Nat) : Int) + 1) N 1) := by
  have h1 : decide (-(2 ^ 62) ≤ (N : Int) + 1) = true := decide_eq_true (by omega)
  have h2 : decide ((N : Int) + 1 < 2 ^ 62) = true := decide_eq_true (by omega)
  have h3 : decide (-(2 ^ 62) ≤ (1 : Int)) = true := decide_eq_true (by omega)
  have h4 : decide ((1 : Int) < 2 ^ 62) = true := decide_eq_true (by omega)
  have e : ((N : Int) + 1 - 1).toNat = N := by omega
  simp only [rangeV, h1, h2, h3, h4, Bool.and_self, if_true, e]
  rfl
theorem who_c1 {cf : Nat → List Ob → CR} {L : Int} {R1 : List PV} (h : cf ri [.v (.int L)] = .ret (.ml R1) []) : evO cf [] (.cons true (.call ri (.cons false (.x 0) .nil)) (.cons false (.lst .nil) .nil)) [some (.v (.int L)), none, none, none, none, none] = .ok [.v (.list R1), .ml []] [some (.v (.int L)), none, none, none, none, none] := by
  simp [h, handsOk, ioNames, putBack]
theorem who_c2 {cf : Nat → List Ob → CR} {L B : Int} {e1 e2 : Option Ob} (h : shlf (.int 1) (.int L) = some (.v (.int B))) : evE cf [] (.op .shl (.cons false (.c (.int 1)) (.cons false (.x 0) .nil))) [some (.v (.int L)), e1, e2, none, none, none] = .ok (.v (.int B)) [some (.v (.int L)), e1, e2, none, none, none] := by
  simp [h, opf2]
theorem who_c3 {cf : Nat → List Ob → CR} {zs : List PV} {e0 e1 e3 e4 e5 : Option Ob} : evE cf [] (.op .tuple (.cons false (.x 2) .nil)) [e0, e1, some (.ml zs), e3, e4, e5] = .ok (.v (.tuple zs)) [e0, e1, some (.ml zs), e3, e4, e5] := by
  simp [opf1, tuplef]
theorem whole_in_spec (F : TblFns T isn isa sn ri pi si) {i : Nat} (hT : T i = some ⟨1, 6, [], q_whole_in ri pi⟩) (k : Nat) {l N : Nat} (hl : l ≤ 12) (hN : 2 ^ l = N) : runF T (k + 2) i [.v (.int l)] = .ret (.v (wholeP N)) [] := by
  have hp := pow_le13 (l := l) (by omega)
  have hs := shl_one (l := l) (by omega)
  have hr := rows_in_spec F.h1 k l (by omega)
  rw [hN] at hp hs hr
  obtain ⟨e4, f⟩ := who_for F.h2 (k := k) (N := N) (by omega) (e0 := some (.v (.int l))) N 0 none (by omega)
  refine run_ret (k := k + 1) hT rfl rfl (env' := ?env) ?h
  case h =>
    rw [q_whole_in]
    show evSs (runF T (k + 1)) [] _ [some (.v (.int l)), none, none, none, none, none] = _
    rw [y_ss1, y_par, if_pos (by rfl), who_c1 hr]
    simp only [Rs.bind_ok, setObs, List.set, optR_some]
    rw [y_ss1, y_asg, if_pos (by rfl), who_c2 hs, Rs.bind_ok, Rs.bind_ok]
    simp only [y_z1, y_zv, List.set]
    rw [y_ss1, y_for, if_pos (by rfl), who_it (range_1r (by omega)), Rs.bind_ok]
    rw [whoBody] at f
    have f' : forL (forT (runF T (k + 1)) [] (.inr 4) _) (rangeL (((0 : Nat) : Int) + 1) N 1) [some (.v (.int l)), some (.v (.list (rowsV N))), some (.ml []), some (.v (.int N)), none, none] = _ := f
    rw [f', Rs.bind_ok]
    simp only []
    rw [y_ss1, y_ret, y_rop, who_c3, Rs.bind_ok, Rs.bind_ok]
    rfl
theorem wt_run {i k wi : Nat} (hT : T i = some ⟨1, 1, [], q_whole_table sl wi⟩) {L : Int} {d : PV} (h1 : runF T k sl [.v (.int L)] = .ret (.v (.int L)) []) (h6 : L ≤ 6) (h2 : runF T k wi [.v (.int L)] = .ret (.v d) []) : runF T (k + 1) i [.v (.int L)] = .ret (.v d) [] := by
  have h6' : ¬ 6 < L := by omega
  rw [y_run hT]
  simp [q_whole_table, ioOk, h1, h2, opf2, cmpf, gtf, vB, h6', handsOk, ioNames, putBack, outsOf]
theorem whole_table_spec (F : LvlFns T isn isa sn ri pi si sl) {i wi : Nat} (hT : T i = some ⟨1, 1, [], q_whole_table sl wi⟩) (hw : T wi = some ⟨1, 6, [], q_whole_in ri pi⟩) (k : Nat) {l N : Nat} (hl : l ≤ 6) (hN : 2 ^ l = N) : runF T (k + 5) i [.v (.int l)] = .ret (.v (wholeP N)) [] :=
  wt_run hT (sure_level_spec F.t.n F.h1 k l (by omega) (by omega)) (by omega) (whole_in_spec F.t hw (k + 2) (by omega) hN)
end
end Pv
-- PvWho3
set_option maxRecDepth 100000
namespace Pv
open PySem L2
mutual
def numT : PV → Bool
  | .int _ => true
  | .tuple xs => numTs xs
  | _ => false
def numTs : List PV → Bool
  | [] => true
  | x :: xs => numT x && numTs xs
end
theorem numTs_mem : ∀ {xs : List PV} {x : PV}, numTs xs = true → x ∈ xs → numT x = true
  | _ :: xs, x, h, hx => by
    rw [numTs] at h
    obtain ⟨h1, h2⟩ := and2 h
    rcases List.mem_cons.mp hx with e | hx
    · rw [e]; exact h1
    · exact numTs_mem h2 hx
theorem long_any {T : Nat → Option FD} {i : Nat} (hT : T i = some ⟨2, 2, [], q_is_long⟩) (k : Nat) (g : PV) (n : Int) (hg : nice g = true) (h : isTupV g = false) : runF T (k + 1) i [.v g, .v (.int n)] = .ret (.v (.bool false)) [] := by
  rw [y_run hT]
  cases g <;> first | (cases hg; done) | (cases h; done) | simp [q_is_long, ioOk, opf1, kindf, vB, isTupV, outsOf]
theorem just_spec {T : Nat → Option FD} {i il isn : Nat} (hT : T i = some ⟨2, 4, [], q_is_just il i isn⟩) (hl : T il = some ⟨2, 2, [], q_is_long⟩) (hn : T isn = some ⟨1, 1, [], q_is_number⟩) : ∀ (k : Nat) (d g : PV), nice d = true → numT d = true → nice g = true → d.depth + 2 ≤ k → runF T k i [.v g, .v d] = .ret (.v (.bool (pvEq g d))) []
  | 0, d, g, _, _, _, h => by omega
  | k + 1, d, g, hd, hp, hg, hk => by
    obtain ⟨k', rfl⟩ : ∃ j, k = j + 1 := ⟨k - 1, by omega⟩
    have hgd : isD g = false := by cases g <;> first | rfl | (cases hg)
    rw [y_run hT]
    cases d with
    | dict _ => cases hd
    | none => cases hp
    | bool b => cases hp
    | str b => cases hp
    | list b => cases hp
    | int b =>
      have h1 := is_number_spec hn k' g hgd
      cases g <;> first | (cases hg; done) | skip
      case int a =>
        rw [isNumV] at h1
        simp [q_is_just, ioOk, opf1, opf2, cmpf, kindf, vB, isTupV, isStrV, isNf, isNone, h1, handsOk, ioNames, putBack, outsOf, pvEq, bdec]
      all_goals
        rw [isNumV] at h1
        simp [q_is_just, ioOk, opf1, opf2, cmpf, kindf, vB, isTupV, isStrV, isNf, isNone, h1, handsOk, ioNames, putBack, outsOf, pvEq]
        try (intros; contradiction)
    | tuple ys =>
      rw [nice] at hd
      obtain ⟨hd1, hd2⟩ := and2 hd
      rw [numT] at hp
      rw [PyData.depth] at hk
      by_cases ht : isTupV g = true
      · cases g <;> first | (cases ht; done) | skip
        rename_i xs
        rw [nice] at hg
        obtain ⟨hg1, hg2⟩ := and2 hg
        have h1 := long_spec hl k' xs (ys.length : Int)
        have hs : evE (runF T (k' + 1)) [] (.lc [2, 3] (.inl [2, 3]) (.zip (.x 0) (.x 1)) .nil (.call i (.cons false (.x 2) (.cons false (.x 3) .nil)))) [some (.v (.tuple xs)), some (.v (.tuple ys)), none, none] =
            .ok (.ml ((zipL xs ys).map sameF)) [some (.v (.tuple xs)), some (.v (.tuple ys)), none, none] := by
          refine lc_map sameF (by simp) (by simp [zipOf, listOf]) rfl (by rw [zipL_length]; simp; have := of_decide_eq_true hd1; omega) fun d hd => ?_
          obtain ⟨a, b, rfl, ha, hb⟩ := zip_mem hd
          have dm := depth_mem hb
          have ih := just_spec hT hl hn (k' + 1) b a (niceA_mem hd2 hb) (numTs_mem hp hb) (niceA_mem hg2 ha) (by omega)
          refine ⟨_, .v (.bool (pvEq a b)), [some (.v (.tuple xs)), some (.v (.tuple ys)), some (.v a), some (.v b)], rfl, ?_, rfl, rfl⟩
          simp [ih, handsOk, ioNames, putBack]
        by_cases hl : xs.length = ys.length
        · obtain ⟨bs, b1, b2⟩ := same_all hl
          rw [hl] at h1
          simp [q_is_just, ioOk, opf1, opf2, cmpf, kindf, vB, isTupV, lenf, vI, h1, handsOk, ioNames, putBack, hs, allf, b1, b2, outsOf, pvEq]
        · have hl' : ((xs.length : Int) == ys.length) = false := by simpa using fun e => hl (by omega)
          rw [hl'] at h1
          simp [q_is_just, ioOk, opf1, opf2, cmpf, kindf, vB, isTupV, lenf, vI, h1, handsOk, ioNames, putBack, outsOf, pvEq, pvEqs_len hl]
      · have ht : isTupV g = false := by simpa using ht
        have h1 := long_any hl k' g (ys.length : Int) hg ht
        have he : pvEq g (.tuple ys) = false := by cases g <;> first | rfl | (cases ht)
        simp [q_is_just, ioOk, opf1, opf2, cmpf, kindf, vB, isTupV, lenf, vI, h1, handsOk, ioNames, putBack, outsOf, he]
end Pv
-- PvWho4
set_option maxRecDepth 100000
namespace Pv
open PySem L2
theorem numTs_ints : ∀ xs : List Nat, numTs (xs.map nI) = true
  | [] => rfl
  | x :: xs => by rw [List.map_cons, numTs, numTs_ints xs]; rfl
theorem niceA_ints : ∀ xs : List Nat, niceA (xs.map nI) = true
  | [] => rfl
  | x :: xs => by rw [List.map_cons, niceA, niceA_ints xs]; rfl
theorem depthA_ints : ∀ xs : List Nat, PyData.depthAll (xs.map nI) = 0
  | [] => rfl
  | x :: xs => by rw [List.map_cons, PyData.depthAll, depthA_ints xs]; rfl
theorem wrowP_ints (N a : Nat) : wrowP N a = .tuple ((rowF N a N).map nI) := by
  rw [wrowP, rowF, List.map_map]; rfl
theorem whole_num : ∀ N : Nat, numT (wholeP N) = true := fun N => by
  have : ∀ xs : List Nat, numTs (xs.map fun i => wrowP N (i + 1)) = true := fun xs => by
    induction xs with
    | nil => rfl
    | cons x xs ih => rw [List.map_cons, numTs, ih, wrowP_ints, numT, numTs_ints]; rfl
  exact this _
theorem wrowP_nice {N a : Nat} (h : N ≤ 100000) : nice (wrowP N a) = true := by
  have : decide ((rowF N a N).length ≤ 16777216) = true := decide_eq_true (by simp [rowF]; omega)
  rw [wrowP_ints, nice, niceA_ints, List.length_map, this]; rfl
theorem wholeL_nice {N : Nat} (h : N ≤ 100000) : niceA (wholeL N) = true := by
  have : ∀ xs : List Nat, niceA (xs.map fun i => wrowP N (i + 1)) = true := fun xs => by
    induction xs with
    | nil => rfl
    | cons x xs ih => rw [List.map_cons, niceA, ih, wrowP_nice h]; rfl
  exact this _
theorem wholeL_len (N : Nat) : (wholeL N).length = N := by simp [wholeL]
theorem whole_nice {N : Nat} (h : N ≤ 100000) : nice (wholeP N) = true := by
  have : decide (N ≤ 16777216) = true := decide_eq_true (by omega)
  rw [wholeP, nice, wholeL_nice h, wholeL_len, this]; rfl
theorem wrowP_depth (N a : Nat) : (wrowP N a).depth = 1 := by rw [wrowP_ints, PyData.depth, depthA_ints]
theorem wholeL_depth (N : Nat) : PyData.depthAll (wholeL N) ≤ 1 := by
  have : ∀ xs : List Nat, PyData.depthAll (xs.map fun i => wrowP N (i + 1)) ≤ 1 := fun xs => by
    induction xs with
    | nil => exact Nat.zero_le _
    | cons x xs ih => rw [List.map_cons, PyData.depthAll, wrowP_depth]; omega
  exact this _
theorem whole_depth (N : Nat) : (wholeP N).depth ≤ 2 := by
  have := wholeL_depth N
  rw [wholeP, PyData.depth]; omega
def rowOk (N : Nat) : PV → Bool
  | .tuple r => decide (r.length = N)
  | _ => false
theorem rowOk_eq {N : Nat} {x y : PV} (h : pvEq x y = true) (hy : rowOk N y = true) : rowOk N x = true := by
  cases y <;> first | (cases hy; done) | skip
  rename_i ys
  cases x <;> first | (cases h; done) | skip
  rename_i xs
  rw [pvEq] at h
  rw [rowOk] at hy ⊢
  by_cases e : xs.length = ys.length
  · rw [e]; exact hy
  · rw [pvEqs_len e] at h; cases h
theorem rowOk_all {N : Nat} : ∀ {xs ys : List PV}, pvEqs xs ys = true → (∀ y ∈ ys, rowOk N y = true) → xs.all (rowOk N) = true
  | [], _, _, _ => rfl
  | x :: xs, [], h, _ => by cases h
  | x :: xs, y :: ys, h, hy => by
    rw [pvEqs] at h
    obtain ⟨h1, h2⟩ := and2 h
    rw [List.all_cons, rowOk_eq h1 (hy y List.mem_cons_self), rowOk_all h2 fun z hz => hy z (List.mem_cons_of_mem _ hz)]; rfl
theorem whole_rows {N : Nat} : ∀ y ∈ wholeL N, rowOk N y = true := fun y hy => by
  obtain ⟨i, _, rfl⟩ := List.mem_map.mp hy
  rw [wrowP, rowOk, List.length_map, List.length_range]; simp
theorem maps_bool {f : PV → Bool} : ∀ xs : List PV, bBools (xs.map fun d => .bool (f d)) = some (xs.map f)
  | [] => rfl
  | x :: xs => by rw [List.map_cons, bBools, maps_bool xs]; rfl
theorem all_id {f : PV → Bool} (xs : List PV) : (xs.map f).all id = xs.all f := by
  rw [List.all_map]; rfl
section
variable {T : Nat → Option FD} {isn isa sn ri pi si sl : Nat}
theorem iw_elt {cf : Nat → List Ob → CR} {L : Int} {N : Nat} {x : PV} {e0 e1 : Option Ob} (hs : shlf (.int 1) (.int L) = some (.v (.int N))) (hx : nice x = true) : evE cf [] (.and (.op .isTuple (.cons false (.x 3) .nil)) (.op .eq (.cons false (.op .len (.cons false (.x 3) .nil)) (.cons false (.op .shl (.cons false (.c (.int 1)) (.cons false (.x 2) .nil))) .nil)))) [e0, e1, some (.v (.int L)), some (.v x)] = .ok (.v (.bool (rowOk N x))) [e0, e1, some (.v (.int L)), some (.v x)] := by
  cases x <;> first | (cases hx; done) | skip
  case tuple r =>
    have : ((r.length : Int) == (N : Int)) = decide (r.length = N) := by
      rw [Bool.eq_iff_iff]; simp; omega
    simp [opf1, opf2, cmpf, kindf, vB, isTupV, lenf, vI, hs, rowOk, this]
  all_goals simp [opf1, opf2, cmpf, kindf, vB, isTupV, rowOk]
theorem iw_comp {cf : Nat → List Ob → CR} {L : Int} {N : Nat} {xs : List PV} {e0 : Option Ob} (hs : shlf (.int 1) (.int L) = some (.v (.int N))) (hx : niceA xs = true) (hl : xs.length ≤ 16777216) : evE cf [] (.lc [3] (.inr 3) (.seq (.x 1)) .nil (.and (.op .isTuple (.cons false (.x 3) .nil)) (.op .eq (.cons false (.op .len (.cons false (.x 3) .nil)) (.cons false (.op .shl (.cons false (.c (.int 1)) (.cons false (.x 2) .nil))) .nil))))) [e0, some (.v (.tuple xs)), some (.v (.int L)), none] = .ok (.ml (xs.map fun d => .bool (rowOk N d))) [e0, some (.v (.tuple xs)), some (.v (.int L)), none] := by
  refine lc_map _ (by simp) (by simp [itemsOf]) rfl (by simpa using hl) fun d hd => ?_
  exact ⟨_, .v (.bool (rowOk N d)), _, rfl, iw_elt hs (niceA_mem hx hd), rfl, rfl⟩
theorem iw_not {i k ij wi : Nat} (hT : T i = some ⟨2, 4, [], q_is_whole_table sl ij wi⟩) {L : Int} {d : PV} (h1 : runF T k sl [.v (.int L)] = .ret (.v (.int L)) []) (hd : nice d = true) (ht : isTupV d = false) : runF T (k + 1) i [.v (.int L), .v d] = .ret (.v (.bool false)) [] := by
  rw [y_run hT]
  cases d <;> first | (cases hd; done) | (cases ht; done) | simp [q_is_whole_table, ioOk, free, h1, opf1, kindf, vB, isTupV, handsOk, ioNames, putBack, outsOf]
theorem iw_len {i k ij wi : Nat} (hT : T i = some ⟨2, 4, [], q_is_whole_table sl ij wi⟩) {L B M : Int} {xs : List PV} (h1 : runF T k sl [.v (.int L)] = .ret (.v (.int L)) []) (hs : shlf (.int 1) (.int L) = some (.v (.int B))) (hl : lenf (.tuple xs) = some (.v (.int M))) (hne : (M != B) = true) : runF T (k + 1) i [.v (.int L), .v (.tuple xs)] = .ret (.v (.bool false)) [] := by
  rw [y_run hT]
  simp [q_is_whole_table, ioOk, free, h1, hs, hl, hne, opf1, opf2, cmpf, kindf, vB, isTupV, handsOk, ioNames, putBack, outsOf]
theorem iw_rows {i k ij wi : Nat} (hT : T i = some ⟨2, 4, [], q_is_whole_table sl ij wi⟩) {L B : Int} {xs ys : List PV} {q z : Bool} {w : PV} (h1 : runF T k sl [.v (.int L)] = .ret (.v (.int L)) []) (hs : shlf (.int 1) (.int L) = some (.v (.int B))) (hl : lenf (.tuple xs) = some (.v (.int B)))
    (hc : evE (runF T k) [] (.lc [3] (.inr 3) (.seq (.x 1)) .nil (.and (.op .isTuple (.cons false (.x 3) .nil)) (.op .eq (.cons false (.op .len (.cons false (.x 3) .nil)) (.cons false (.op .shl (.cons false (.c (.int 1)) (.cons false (.x 2) .nil))) .nil))))) [some (.v (.int L)), some (.v (.tuple xs)), some (.v (.int L)), none] = .ok (.ml ys) [some (.v (.int L)), some (.v (.tuple xs)), some (.v (.int L)), none])
    (ha : allf (.list ys) = some (.v (.bool q))) (hw : runF T k wi [.v (.int L)] = .ret (.v w) []) (hj : q = true → runF T k ij [.v (.tuple xs), .v w] = .ret (.v (.bool z)) []) (hz : q = false → z = false) : runF T (k + 1) i [.v (.int L), .v (.tuple xs)] = .ret (.v (.bool z)) [] := by
  have hne : (B != B) = false := by simp
  rw [y_run hT]
  cases q with
  | false =>
    rw [hz rfl]
    simp [q_is_whole_table, ioOk, free, h1, hs, hl, hne, hc, ha, opf1, opf2, cmpf, kindf, vB, isTupV, handsOk, ioNames, putBack, outsOf]
  | true =>
    have hj := hj rfl
    simp [q_is_whole_table, ioOk, free, h1, hs, hl, hne, hc, ha, hw, hj, opf1, opf2, cmpf, kindf, vB, isTupV, handsOk, ioNames, putBack, outsOf]
theorem is_whole_spec (K : LvlFns T isn isa sn ri pi si sl) {i ij il wi : Nat} (hT : T i = some ⟨2, 4, [], q_is_whole_table sl ij wi⟩) (hj : T ij = some ⟨2, 4, [], q_is_just il ij isn⟩) (hl' : T il = some ⟨2, 2, [], q_is_long⟩) (hw : T wi = some ⟨1, 6, [], q_whole_in ri pi⟩) (k : Nat) {l N : Nat} (hl : l ≤ 12) (hN : 2 ^ l = N) (d : PV) (hd : nice d = true) : runF T (k + 5) i [.v (.int l), .v d] = .ret (.v (.bool (pvEq d (wholeP N)))) [] := by
  have hp := pow_le13 (l := l) (by omega)
  have hs := shl_one (l := l) (by omega)
  rw [hN] at hp hs
  have h1 := sure_level_spec K.t.n K.h1 k l (by omega) (by omega)
  by_cases ht : isTupV d = true
  · cases d <;> first | (cases ht; done) | skip
    rename_i xs
    rw [nice] at hd
    obtain ⟨hd1, hd2⟩ := and2 hd
    have hd1 := of_decide_eq_true hd1
    by_cases hlen : xs.length = N
    · have hq : xs.all (rowOk N) = false → pvEq (.tuple xs) (wholeP N) = false := fun h => by
        cases e : pvEq (.tuple xs) (wholeP N) with
        | false => rfl
        | true =>
          rw [wholeP, pvEq] at e
          rw [rowOk_all e whole_rows] at h; cases h
      refine iw_rows hT h1 hs (by rw [lenf, vI, hlen]) (iw_comp hs hd2 (by omega)) (q := xs.all (rowOk N)) (by rw [allf, maps_bool, Option.bind_some, all_id, vB]) (whole_in_spec K.t hw (k + 2) (by omega) hN) (fun _ => ?_) hq
      exact just_spec hj hl' K.t.n.h1 (k + 4) (wholeP N) (.tuple xs) (whole_nice (by omega)) (whole_num N) (by rw [nice, hd2]; simpa using hd1) (by have := whole_depth N; omega)
    · have he : pvEq (.tuple xs) (wholeP N) = false := by rw [wholeP, pvEq, pvEqs_len (by rw [wholeL_len]; exact hlen)]
      rw [he]
      exact iw_len hT h1 hs (by rw [lenf, vI]) (by simp; omega)
  · have ht : isTupV d = false := by simpa using ht
    have he : pvEq d (wholeP N) = false := by cases d <;> first | rfl | (cases ht)
    rw [he]
    exact iw_not hT h1 hd ht
end
end Pv
-- PvWho5
set_option maxRecDepth 100000
namespace Pv
open PySem L2
/-- a value that stands for a row of numbers -/
structure SoftN (d : PV) (xs : List Nat) : Prop where
  n : nice d = true
  t : tupP d = .tuple (xs.map nI)
  d : d.depth ≤ 1
theorem tupPs_ints : ∀ xs : List Nat, tupPs (xs.map nI) = xs.map nI
  | [] => rfl
  | x :: xs => by rw [List.map_cons, tupPs, tupPs_ints xs]; rfl
theorem SoftN.tup {xs : List Nat} (h : xs.length ≤ 100000) : SoftN (.tuple (xs.map nI)) xs :=
  ⟨by rw [nice, niceA_ints, List.length_map]; simp; omega, by rw [tupP, tupPs_ints], by rw [PyData.depth, depthA_ints]; omega⟩
theorem SoftN.lst {xs : List Nat} (h : xs.length ≤ 100000) : SoftN (.list (xs.map nI)) xs :=
  ⟨by rw [nice, niceA_ints, List.length_map]; simp; omega, by rw [tupP, tupPs_ints], by rw [PyData.depth, depthA_ints]; omega⟩
theorem sl_toT {xs : List PV} {i : Int} {j : Nat} (hi : i = j) : slicef (.tuple xs) none (some i) = some (.v (.tuple (xs.take j))) := by
  subst hi
  unfold slicef cutP
  simp only [HT.sIx_none, HT.sIx_nat, List.drop_zero, Nat.sub_zero]
  congr 3
  rw [List.take_eq_take_iff]
  omega
theorem sl_fromT {xs : List PV} {i : Int} {j : Nat} (hi : i = j) : slicef (.tuple xs) (some i) none = some (.v (.tuple (xs.drop j))) := by
  subst hi
  unfold slicef cutP
  simp only [HT.sIx_none, HT.sIx_nat]
  congr 3
  by_cases h : j ≤ xs.length
  · rw [Nat.min_eq_left h, List.take_of_length_le (by rw [List.length_drop]; omega)]
  · rw [Nat.min_eq_right (by omega), Nat.sub_self, List.take_zero, List.drop_eq_nil_of_le (by omega)]
section
variable {T : Nat → Option FD} {isn isa sn ri pi si sl : Nat}
theorem sai_elt {cf : Nat → List Ob → CR} {L B : Int} {x : PV} {q : Bool} {e1 e2 : Option Ob} (hs : shlf (.int 1) (.int L) = some (.v (.int B))) (h : cf isa [.v x, .v (.int 1), .v (.int B)] = .ret (.v (.bool q)) []) : evE cf [] (.call isa (.cons false (.x 3) (.cons false (.c (.int 1)) (.cons false (.op .shl (.cons false (.c (.int 1)) (.cons false (.x 0) .nil))) .nil)))) [some (.v (.int L)), e1, e2, some (.v x)] = .ok (.v (.bool q)) [some (.v (.int L)), e1, e2, some (.v x)] := by
  simp [opf2, hs, h, handsOk, ioNames, putBack]
theorem sai_run {i k tp : Nat} (hT : T i = some ⟨2, 4, [], q_sure_all_in tp isa⟩) {L : Int} {d : PV} {xs ys : List PV} (h1 : runF T k tp [.v d] = .ret (.v (.tuple xs)) [])
    (hc : evE (runF T k) [] (.lc [3] (.inr 3) (.seq (.x 2)) .nil (.call isa (.cons false (.x 3) (.cons false (.c (.int 1)) (.cons false (.op .shl (.cons false (.c (.int 1)) (.cons false (.x 0) .nil))) .nil))))) [some (.v (.int L)), some (.v d), some (.v (.tuple xs)), none] = .ok (.ml ys) [some (.v (.int L)), some (.v d), some (.v (.tuple xs)), none]) (ha : allf (.list ys) = some (.v (.bool true))) : runF T (k + 1) i [.v (.int L), .v d] = .ret (.v (.tuple xs)) [] := by
  rw [y_run hT]
  simp [q_sure_all_in, ioOk, free, h1, hc, ha, opf1, kindf, vB, isTupV, handsOk, ioNames, putBack, outsOf]
theorem trues : ∀ xs : List Nat, allf (.list (xs.map fun _ => PyData.bool true)) = some (.v (.bool true)) := fun xs => by
  have h := all_true xs
  have h2 := all_const xs
  rw [allf, h, Option.bind_some, h2, vB]
theorem sai_spec (K : NumFns T isn isa sn) {i tp : Nat} (hT : T i = some ⟨2, 4, [], q_sure_all_in tp isa⟩) (ht : T tp = some ⟨1, 2, [], q_tupled tp⟩) (k : Nat) {l N : Nat} (hl : l ≤ 13) (hN : 2 ^ l = N) {d : PV} {xs : List Nat} (s : SoftN d xs) (hlen : xs.length ≤ 100000) (hx : ∀ x ∈ xs, 1 ≤ x ∧ x ≤ N) : runF T (k + 3) i [.v (.int l), .v d] = .ret (.v (.tuple (xs.map nI))) [] := by
  have hs := shl_one hl
  rw [hN] at hs
  have h1 := tupled_spec ht (k + 2) d s.n (by have := s.d; omega)
  rw [s.t] at h1
  refine sai_run hT h1 (ys := xs.map fun _ => .bool true) ?_ (trues xs)
  refine lc_mapE nI _ (by simp) (by simp [itemsOf]) rfl (by rw [lim_nat]; omega) fun x hx' => ?_
  have h2 := is_among_spec K k (nI x) rfl 1 N
  have h3 : among 1 N (nI x) = true := by
    have := hx x hx'
    simp [among, nI]; omega
  rw [h3] at h2
  exact ⟨_, .v (.bool true), _, rfl, sai_elt hs h2, rfl, rfl⟩
def tirBody (pi : Nat) : ISs := .cons (.asg true 5 (.call pi (.cons false (.x 4) (.cons false (.x 5) (.cons false (.x 6) .nil))))) .nil
theorem tir_turn {cf : Nat → List Ob → CR} {R1 : List PV} {A X Z : Int} {e0 e1 e2 e3 e6 : Option Ob} (h : cf pi [.v (.list R1), .v (.int A), .v (.int X)] = .ret (.v (.int Z)) []) : forT cf [] (.inr 6) (tirBody pi) (.int X) [e0, e1, e2, e3, some (.v (.list R1)), some (.v (.int A)), e6] = .ok .nx [e0, e1, e2, e3, some (.v (.list R1)), some (.v (.int Z)), some (.v (.int X))] := by
  simp [forT, setTg, tirBody, free, h, handsOk, ioNames, putBack]
theorem tir_for (hp : T pi = some ⟨3, 3, [], q_product_in⟩) {k N : Nat} {e0 e1 e2 e3 : Option Ob} : ∀ (xs : List Nat) (a : Nat) (e6 : Option Ob), 1 ≤ a → a ≤ N → (∀ x ∈ xs, 1 ≤ x ∧ x ≤ N) → ∃ e6', forL (forT (runF T (k + 1)) [] (.inr 6) (tirBody pi)) (xs.map nI) [e0, e1, e2, e3, some (.v (.list (rowsV N))), some (.v (.int a)), e6] = .ok .nx [e0, e1, e2, e3, some (.v (.list (rowsV N))), some (.v (nI (xs.foldl (F N) a))), e6']
  | [], a, e6, _, _, _ => ⟨e6, by rw [List.map_nil, forL]; rfl⟩
  | x :: xs, a, e6, h1, h2, h => by
    have hx := h x List.mem_cons_self
    have fr := F_range (N := N) h1 h2 hx.1 hx.2
    obtain ⟨e6', ih⟩ := tir_for hp (k := k) (e0 := e0) (e1 := e1) (e2 := e2) (e3 := e3) xs (F N a x) (some (.v (.int x))) fr.1 fr.2 fun z hz => h z (List.mem_cons_of_mem _ hz)
    refine ⟨e6', ?_⟩
    rw [List.map_cons, forL, nI, tir_turn (product_spec hp k h1 h2 hx.1), Rs.bind_ok]
    exact ih
theorem tir_run {i k sai : Nat} (hT : T i = some ⟨2, 7, [], q_times_in_row sl sai ri pi⟩) {L X Z : Int} {d : PV} {R1 ys : List PV} {e6 : Option Ob} (h1 : runF T k sl [.v (.int L)] = .ret (.v (.int L)) []) (h2 : runF T k sai [.v (.int L), .v d] = .ret (.v (.tuple (.int X :: ys))) []) (h3 : runF T k ri [.v (.int L)] = .ret (.ml R1) [])
    (f : forL (forT (runF T k) [] (.inr 6) (tirBody pi)) ys [some (.v (.int L)), some (.v d), some (.v (.int L)), some (.v (.tuple (.int X :: ys))), some (.v (.list R1)), some (.v (.int X)), none] = .ok .nx [some (.v (.int L)), some (.v d), some (.v (.int L)), some (.v (.tuple (.int X :: ys))), some (.v (.list R1)), some (.v (.int Z)), e6]) : runF T (k + 1) i [.v (.int L), .v d] = .ret (.v (.int Z)) [] := by
  have i0 : idxf (.tuple (.int X :: ys)) (.int 0) = some (.v (.int X)) := by simp [idxf, atI, ixN]
  have s1 : slicef (.tuple (.int X :: ys)) (some 1) none = some (.v (.tuple ys)) := by
    have q := sl_fromT (xs := PyData.int X :: ys) (i := 1) (j := 1) rfl
    rw [q]; rfl
  rw [tirBody] at f
  rw [y_run hT]
  simp [q_times_in_row, ioOk, free, freeTg, h1, h2, h3, i0, s1, opf2, cmpf, bInt, setObs, itemsOf, f, handsOk, ioNames, putBack, outsOf]
theorem tir_spec (K : LvlFns T isn isa sn ri pi si sl) {i sai tp : Nat} (hT : T i = some ⟨2, 7, [], q_times_in_row sl sai ri pi⟩) (hs : T sai = some ⟨2, 4, [], q_sure_all_in tp isa⟩) (ht : T tp = some ⟨1, 2, [], q_tupled tp⟩) (k : Nat) {l N : Nat} (hl : l ≤ 12) (hN : 2 ^ l = N) {d : PV} {x : Nat} {xs : List Nat} (s : SoftN d (x :: xs)) (hlen : (x :: xs).length ≤ 100000) (hx : ∀ y ∈ x :: xs, 1 ≤ y ∧ y ≤ N) : runF T (k + 5) i [.v (.int l), .v d] = .ret (.v (nI (xs.foldl (F N) x))) [] := by
  have h2 := sai_spec K.t.n hs ht (k + 1) (by omega) hN s hlen hx
  have h0 := hx x List.mem_cons_self
  obtain ⟨e6, f⟩ := tir_for K.t.h2 (k := k + 3) (N := N) (e0 := some (.v (.int l))) (e1 := some (.v d)) (e2 := some (.v (.int l))) (e3 := some (.v (.tuple ((x :: xs).map nI)))) xs x none h0.1 h0.2 fun z hz => hx z (List.mem_cons_of_mem _ hz)
  exact tir_run hT (sure_level_spec K.t.n K.h1 k l (by omega) (by omega)) h2 (rows_at K (by omega) hN) f
end
end Pv
-- PvLav
set_option maxRecDepth 100000
namespace Pv
open PySem L2
/-- how long a row is -/
def per (N a : Nat) : Nat := (R N a).length
def low1 (N x : Nat) : Nat := (x - 1) % N + 1
theorem F_per {N a b : Nat} (hb : 1 ≤ b) : F N a (b + per N a) = F N a b := by
  rw [F, F, atR, atR, per, show b + (R N a).length - 1 = b - 1 + (R N a).length by omega, Nat.add_mod_right]
theorem F_mul {N a b : Nat} (hb : 1 ≤ b) : ∀ m, F N a (b + m * per N a) = F N a b
  | 0 => by rw [Nat.zero_mul, Nat.add_zero]
  | m + 1 => by rw [Nat.succ_mul, ← Nat.add_assoc, F_per (by omega), F_mul hb m]
/-- all rows fit in N -/
def Div (N : Nat) : Prop := ∀ a, 1 ≤ a → a ≤ N → per N a ∣ N
theorem F_addN {N a b : Nat} (hD : Div N) (h1 : 1 ≤ a) (h2 : a ≤ N) (hb : 1 ≤ b) : F N a (b + N) = F N a b := by
  obtain ⟨m, hm⟩ := hD a h1 h2
  have := F_mul (N := N) (a := a) hb m
  rw [Nat.mul_comm, ← hm] at this
  exact this
theorem F_low {N a b : Nat} (hD : Div N) (h1 : 1 ≤ a) (h2 : a ≤ N) (hb : 1 ≤ b) : F N a (low1 N b) = F N a b := by
  have e : b = low1 N b + (b - 1) / N * N := by
    have := Nat.div_add_mod (b - 1) N
    rw [Nat.mul_comm] at this
    unfold low1; omega
  have key : ∀ m c, 1 ≤ c → F N a (c + m * N) = F N a c := fun m => by
    induction m with
    | zero => intro c _; rw [Nat.zero_mul, Nat.add_zero]
    | succ m ih => intro c hc; rw [Nat.succ_mul, ← Nat.add_assoc, F_addN hD h1 h2 (by omega), ih c hc]
  have := key ((b - 1) / N) (low1 N b) (by unfold low1; omega)
  rw [← e] at this
  exact this.symm
/-- a row comes to N just at its length and its multiples -/
theorem F_eq_N {N a i : Nat} (h1 : 1 ≤ a) (h2 : a ≤ N) (hi : 1 ≤ i) (h : F N a i = N) : per N a ∣ i := by
  have hp : 0 < per N a := R_pos h1 h2
  have e : i - 1 = (i - 1) / per N a * per N a + (i - 1) % per N a := by
    rw [Nat.mul_comm]; exact (Nat.div_add_mod _ _).symm
  have hlt := Nat.mod_lt (i - 1) hp
  have hr : F N a ((i - 1) % per N a + 1) = N := by
    have := F_mul (N := N) (a := a) (b := (i - 1) % per N a + 1) (by omega) ((i - 1) / per N a)
    rw [show (i - 1) % per N a + 1 + (i - 1) / per N a * per N a = i by omega] at this
    rw [← this]; exact h
  by_cases q : (i - 1) % per N a + 1 = per N a
  · exact ⟨(i - 1) / per N a + 1, by rw [Nat.mul_add, Nat.mul_one, Nat.mul_comm]; omega⟩
  · have := F_early h1 h2 (c := (i - 1) % per N a + 1) (by omega) (show (i - 1) % per N a + 1 < (R N a).length by unfold per at hlt q ⊢; omega)
    omega
theorem F_perN {N a : Nat} (h1 : 1 ≤ a) (h2 : a ≤ N) : F N a (per N a) = N := F_end h1 h2
theorem F_N {N a : Nat} (hD : Div N) (h1 : 1 ≤ a) (h2 : a ≤ N) : F N a N = N := by
  obtain ⟨m, hm⟩ := hD a h1 h2
  have hp : 0 < per N a := R_pos h1 h2
  cases m with
  | zero => omega
  | succ m =>
    have := F_mul (N := N) (a := a) (b := per N a) (by omega) m
    rw [F_perN h1 h2] at this
    rw [Nat.mul_succ, Nat.mul_comm, Nat.add_comm] at hm
    rw [← hm] at this
    exact this
theorem up_row {N : Nat} (hD : Div N) (hN : 1 ≤ N) : ∀ (d a : Nat), a + d = N → 1 ≤ a → 1 ≤ d → ∀ i, 1 ≤ i → F (2 * N) (N + a) i = N + F N a i
  | 0, a, _, _, h => by omega
  | d + 1, a, hd, ha, _ => fun i hi => by
    induction i with
    | zero => omega
    | succ i ih =>
      by_cases h0 : i = 0
      · subst h0
        rw [F_one (by omega) (by omega), F_one ha (by omega)]
        omega
      · have ih := ih (by omega)
        rw [F_next (by omega) (by omega) (by omega), ih, F_next ha (by omega) (by omega)]
        have hy := F_lo (N := N) (a := a) (c := i) ha (by omega)
        generalize F N a i = y at hy
        by_cases hyN : y = N
        · subst hyN
          rw [show y + y = 2 * y by omega, F_top (by omega) (by omega), F_top (by omega) (by omega)]
          omega
        · rw [up_row hD hN (N - y) y (by omega) (by omega) (by omega) (N + a + 1) (by omega), show N + a + 1 = a + 1 + N by omega, F_addN hD (by omega) (by omega) (by omega)]
theorem mid_row {N : Nat} (hD : Div N) (hN : 1 ≤ N) : ∀ i, 1 ≤ i → F (2 * N) N i = N + low1 N i := fun i hi => by
  induction i with
  | zero => omega
  | succ i ih =>
    by_cases h0 : i = 0
    · subst h0
      rw [F_one hN (by omega)]
      unfold low1
      rw [Nat.zero_add, Nat.sub_self, Nat.zero_mod]
    · have ih := ih (by omega)
      rw [F_next hN (by omega) (by omega), ih]
      have hm := Nat.mod_lt (i - 1) (show 0 < N by omega)
      by_cases hy : low1 N i = N
      · rw [hy, show N + N = 2 * N by omega, F_top (by omega) (by omega)]
        have e : i % N = 0 := by
          unfold low1 at hy
          obtain ⟨j, rfl⟩ : ∃ j, i = j + 1 := ⟨i - 1, by omega⟩
          rw [Nat.add_sub_cancel] at hy
          have hd := Nat.div_add_mod j N
          have : j + 1 = N * (j / N + 1) := by rw [Nat.mul_add]; omega
          rw [this, Nat.mul_mod_right]
        unfold low1
        rw [Nat.add_sub_cancel, e]
      · have hlt : low1 N i < N := by unfold low1 at hy ⊢; omega
        rw [up_row hD hN (N - low1 N i) (low1 N i) (by omega) (by unfold low1; omega) (by omega) (N + 1) (by omega), show N + 1 = 1 + N by omega, F_addN hD (by unfold low1; omega) (by omega) (by omega), F_one (by unfold low1; omega) (by omega)]
        have e : i % N = (i - 1) % N + 1 := by
          unfold low1 at hlt
          obtain ⟨j, rfl⟩ : ∃ j, i = j + 1 := ⟨i - 1, by omega⟩
          rw [Nat.add_sub_cancel] at hlt ⊢
          rw [Nat.add_mod, Nat.mod_eq_of_lt (a := 1) (by omega), Nat.mod_eq_of_lt hlt]
        unfold low1
        rw [Nat.add_sub_cancel, e]
end Pv
-- PvLav2
set_option maxRecDepth 100000
namespace Pv
open PySem L2
theorem low1_id {N x : Nat} (h1 : 1 ≤ x) (h2 : x ≤ N) : low1 N x = x := by
  unfold low1; rw [Nat.mod_eq_of_lt (by omega)]; omega
theorem low1_up {N x : Nat} (h1 : 1 ≤ x) (h2 : x ≤ N) : low1 N (N + x) = x := by
  unfold low1
  rw [show N + x - 1 = x - 1 + N by omega, Nat.add_mod_right, Nat.mod_eq_of_lt (by omega)]; omega
/-- lowered, a row is that of the lowered number -/
theorem low_row {N : Nat} (hD : Div N) (hN : 1 ≤ N) : ∀ (d a : Nat), a + d = N → 1 ≤ a → 1 ≤ d → ∀ i, 1 ≤ i → low1 N (F (2 * N) a i) = F N a i
  | 0, a, _, _, h => by omega
  | d + 1, a, hd, ha, _ => fun i hi => by
    induction i with
    | zero => omega
    | succ i ih =>
      by_cases h0 : i = 0
      · subst h0
        rw [F_one ha (by omega), F_one ha (by omega), low1_id (by omega) (by omega)]
      · have ih := ih (by omega)
        rw [F_next ha (by omega) (by omega), F_next ha (by omega) (by omega), ← ih]
        have hs := F_lo (N := 2 * N) (a := a) (c := i) ha (by omega)
        generalize F (2 * N) a i = s at hs
        by_cases c1 : s < N
        · rw [low_row hD hN (N - s) s (by omega) (by omega) (by omega) (a + 1) (by omega), low1_id (by omega) (by omega)]
        · by_cases c2 : s = N
          · subst c2
            rw [mid_row hD hN (a + 1) (by omega), low1_id (x := s) (by omega) (by omega), low1_id (x := a + 1) (by omega) (by omega), low1_up (by omega) (by omega), F_top (by omega) (by omega)]
          · by_cases c3 : s = 2 * N
            · subst c3
              rw [F_top (by omega) (by omega), show 2 * N = N + N by omega, low1_up (by omega) (Nat.le_refl N), F_top (by omega) (by omega), low1_id (by omega) (by omega)]
            · obtain ⟨y, rfl⟩ : ∃ y, s = N + y := ⟨s - N, by omega⟩
              have hy := F_lo (N := N) (a := y) (c := a + 1) (by omega) (by omega)
              rw [up_row hD hN (N - y) y (by omega) (by omega) (by omega) (a + 1) (by omega), low1_up (x := y) (by omega) (by omega), low1_up (by omega) (by omega)]
theorem per_le {N a i : Nat} (h1 : 1 ≤ a) (h2 : a ≤ N) (hi : 1 ≤ i) (h : F N a i = N) : per N a ≤ i := Nat.le_of_dvd (by omega) (F_eq_N h1 h2 hi h)
/-- beyond N a row goes on as the lowered one -/
theorem low_go {N a : Nat} (hD : Div N) (hN : 1 ≤ N) (h1 : 1 ≤ a) (h2 : a < N) (hp : F (2 * N) a (per N a) = N) : ∀ i, 1 ≤ i → i ≤ per N a → F (2 * N) a (per N a + i) = N + F N a i := fun i hi hi2 => by
  have hp0 : 0 < per N a := R_pos h1 (by omega)
  induction i with
  | zero => omega
  | succ i ih =>
    by_cases h0 : i = 0
    · subst h0
      rw [← Nat.add_assoc, F_next h1 (by omega) (by omega), Nat.add_zero, hp, mid_row hD hN (a + 1) (by omega), low1_id (by omega) (by omega), F_one h1 h2]
    · have ih := ih (by omega) (by omega)
      have hy := F_lo (N := N) (a := a) (c := i) h1 h2
      have he := F_early h1 (by omega : a ≤ N) (c := i) (by omega) (show i < (R N a).length by unfold per at hi2; omega)
      rw [← Nat.add_assoc, F_next h1 (by omega) (by omega), ih, F_next h1 h2 (by omega), up_row hD hN (N - F N a i) (F N a i) (by omega) (by omega) (by omega) (a + 1) (by omega)]
theorem per_low {N a : Nat} (hD : Div N) (hN : 1 ≤ N) (h1 : 1 ≤ a) (h2 : a < N) : (F (2 * N) a (per N a) = 2 * N ∧ per (2 * N) a = per N a) ∨ (F (2 * N) a (per N a) = N ∧ per (2 * N) a = 2 * per N a) := by
  have hp0 : 0 < per N a := R_pos h1 (by omega)
  have hq0 : 0 < per (2 * N) a := R_pos h1 (by omega)
  have hd : per N a ∣ per (2 * N) a := by
    refine F_eq_N h1 (by omega) (by omega) ?_
    rw [← low_row hD hN (N - a) a (by omega) h1 (by omega) _ (by omega), F_perN h1 (by omega), show 2 * N = N + N by omega, low1_up hN (Nat.le_refl N)]
  have hlow := low_row hD hN (N - a) a (by omega) h1 (by omega) (per N a) (by omega)
  rw [F_perN h1 (by omega)] at hlow
  have hs := F_lo (N := 2 * N) (a := a) (c := per N a) h1 (by omega)
  have hor : F (2 * N) a (per N a) = N ∨ F (2 * N) a (per N a) = 2 * N := by
    generalize F (2 * N) a (per N a) = s at hlow hs
    by_cases c1 : s ≤ N
    · rw [low1_id (by omega) c1] at hlow; omega
    · obtain ⟨y, rfl⟩ : ∃ y, s = N + y := ⟨s - N, by omega⟩
      rw [low1_up (by omega) (by omega)] at hlow; omega
  rcases hor with h | h
  · refine .inr ⟨h, ?_⟩
    have h2p := low_go hD hN h1 h2 h (per N a) (by omega) (Nat.le_refl _)
    rw [F_perN h1 (by omega)] at h2p
    have hle := per_le (N := 2 * N) h1 (by omega) (by omega) (show F (2 * N) a (per N a + per N a) = 2 * N by omega)
    obtain ⟨m, hm⟩ := hd
    have hm1 : m ≠ 0 := by rintro rfl; omega
    have hm2 : m ≠ 1 := by
      rintro rfl
      rw [Nat.mul_one] at hm
      have := F_perN (N := 2 * N) (a := a) h1 (by omega)
      rw [hm, h] at this
      omega
    have hm3 : m < 3 := by
      have : per N a * m ≤ per N a * 2 := by omega
      have := Nat.le_of_mul_le_mul_left this hp0
      omega
    have : m = 2 := by omega
    rw [hm, this, Nat.mul_comm]
  · refine .inl ⟨h, ?_⟩
    have hle := per_le (N := 2 * N) h1 (by omega) (by omega) h
    have := Nat.le_of_dvd hq0 hd
    omega
theorem per_up {N a : Nat} (hD : Div N) (hN : 1 ≤ N) (h1 : 1 ≤ a) (h2 : a < N) : per (2 * N) (N + a) = per N a := by
  have hp0 : 0 < per N a := R_pos h1 (by omega)
  have hq0 : 0 < per (2 * N) (N + a) := R_pos (by omega) (by omega)
  have u := up_row hD hN (N - a) a (by omega) h1 (by omega)
  have e1 := u (per N a) (by omega)
  rw [F_perN h1 (by omega)] at e1
  have l1 := per_le (N := 2 * N) (a := N + a) (by omega) (by omega) (by omega) (show F (2 * N) (N + a) (per N a) = 2 * N by omega)
  have e2 := u (per (2 * N) (N + a)) (by omega)
  rw [F_perN (by omega) (by omega)] at e2
  have l2 := per_le (N := N) h1 (by omega) hq0 (show F N a (per (2 * N) (N + a)) = N by omega)
  omega
theorem per_mid {N : Nat} (hD : Div N) (hN : 1 ≤ N) : per (2 * N) N = N := by
  have hq0 : 0 < per (2 * N) N := R_pos hN (by omega)
  have e1 := mid_row hD hN N hN
  rw [low1_id hN (Nat.le_refl N)] at e1
  have l1 := per_le (N := 2 * N) hN (by omega) hN (show F (2 * N) N N = 2 * N by omega)
  have e2 := mid_row hD hN (per (2 * N) N) hq0
  rw [F_perN hN (by omega)] at e2
  have : low1 N (per (2 * N) N) = N := by omega
  rw [low1_id hq0 l1] at this
  exact this
theorem div_two {N : Nat} (hD : Div N) (hN : 1 ≤ N) : Div (2 * N) := fun a h1 h2 => by
  by_cases c1 : a < N
  · obtain ⟨m, hm⟩ := hD a h1 (by omega)
    rcases per_low hD hN h1 c1 with ⟨_, e⟩ | ⟨_, e⟩
    · rw [e]; exact Nat.dvd_trans ⟨m, hm⟩ ⟨2, by omega⟩
    · rw [e]; exact ⟨m, by rw [Nat.mul_assoc, ← hm]⟩
  · by_cases c2 : a = N
    · subst c2; rw [per_mid hD hN]; exact ⟨2, by omega⟩
    · by_cases c3 : a = 2 * N
      · subst c3
        have : per (2 * N) (2 * N) = 2 * N := by rw [per, R_top (by omega), upTo_length]
        rw [this]; exact Nat.dvd_refl _
      · obtain ⟨y, rfl⟩ : ∃ y, a = N + y := ⟨a - N, by omega⟩
        rw [per_up hD hN (by omega) (by omega)]
        obtain ⟨m, hm⟩ := hD y (by omega) (by omega)
        exact Nat.dvd_trans ⟨m, hm⟩ ⟨2, by omega⟩
theorem div_pow : ∀ l : Nat, Div (2 ^ l)
  | 0 => fun a h1 h2 => by
    have : a = 1 := by simpa using Nat.le_antisymm h2 h1
    subst this
    exact ⟨1, by simp [per, R_top, upTo_length]⟩
  | l + 1 => by
    have := div_two (div_pow l) Nat.one_le_two_pow
    rw [Nat.pow_succ, Nat.mul_comm]; exact this
/-- a product lowered is the product of the lowered -/
theorem F_lowered {N a b : Nat} (hD : Div N) (hN : 1 ≤ N) (h1 : 1 ≤ a) (h2 : a ≤ 2 * N) (hb : 1 ≤ b) (hb2 : b ≤ 2 * N) : low1 N (F (2 * N) a b) = F N (low1 N a) (low1 N b) := by
  by_cases c1 : a < N
  · rw [low_row hD hN (N - a) a (by omega) h1 (by omega) b hb, low1_id h1 (by omega), F_low hD h1 (by omega) hb]
  · have lb : 1 ≤ low1 N b ∧ low1 N b ≤ N := by
      have := Nat.mod_lt (b - 1) (show 0 < N by omega)
      unfold low1; omega
    by_cases c2 : a = N
    · subst c2
      rw [mid_row hD hN b hb, low1_up lb.1 lb.2, low1_id (x := a) hN (Nat.le_refl _), F_top lb.1 lb.2]
    · by_cases c3 : a = 2 * N
      · subst c3
        rw [F_top hb hb2, show 2 * N = N + N by omega, low1_up hN (Nat.le_refl N), F_top lb.1 lb.2]
      · obtain ⟨y, rfl⟩ : ∃ y, a = N + y := ⟨a - N, by omega⟩
        have hy := F_range (N := N) (a := y) (by omega) (by omega) lb.1 lb.2
        rw [up_row hD hN (N - y) y (by omega) (by omega) (by omega) b hb, low1_up (x := y) (by omega) (by omega), ← F_low hD (by omega) (by omega) hb, low1_up hy.1 hy.2]
end Pv
-- PvLav3
set_option maxRecDepth 100000
namespace Pv
open PySem L2
/-- the theorem: a(bc) = (ab)(ac) -/
theorem spread {N : Nat} (hD : Div N) : ∀ (da a : Nat), a + da = N → 1 ≤ a → ∀ (db b : Nat), b + db = N → 1 ≤ b → ∀ c, 1 ≤ c → c ≤ N → F N a (F N b c) = F N (F N a b) (F N a c)
  | 0, a, hda, ha => fun db b hdb hb c hc hc2 => by
    have : a = N := by omega
    subst this
    have := F_range (N := a) hb (by omega) hc hc2
    rw [F_top this.1 this.2, F_top hb (by omega), F_top hc hc2]
  | da + 1, a, hda, ha => fun db => by
    have ihA := fun a' (h1 : a < a') (h2 : a' ≤ N) => spread hD (N - a') a' (by omega) (by omega)
    induction db using Nat.strongRecOn with
    | _ db ihB =>
      intro b hdb hb c
      by_cases hbN : b = N
      · subst hbN
        intro hc hc2
        have hr := F_range (N := b) ha (by omega) hc hc2
        rw [F_top hc hc2, F_N hD ha (by omega), F_top hr.1 hr.2]
      · induction c with
        | zero => intro h; omega
        | succ c ihC =>
          intro hc hc2
          have hab := F_lo (N := N) (a := a) (c := b) ha (by omega)
          by_cases h0 : c = 0
          · subst h0
            rw [F_one hb (by omega), F_next ha (by omega) hb, F_one ha (by omega)]
          · have ihC := ihC (by omega) (by omega)
            have hbc := F_lo (N := N) (a := b) (c := c) hb (by omega)
            have hac := F_lo (N := N) (a := a) (c := c) ha (by omega)
            rw [F_next hb (by omega) (by omega), ihB (N - F N b c) (by omega) (F N b c) (by omega) (by omega) (b + 1) (by omega) (by omega), ihC, F_next ha (by omega) hb, F_next ha (by omega) (by omega : 1 ≤ c)]
            exact (ihA (F N a b) hab.1 hab.2 (N - F N a c) (F N a c) (by omega) (by omega) (a + 1) (by omega) (by omega)).symm
theorem spread' {N a b c : Nat} (hD : Div N) (ha : 1 ≤ a) (ha2 : a ≤ N) (hb : 1 ≤ b) (hb2 : b ≤ N) (hc : 1 ≤ c) (hc2 : c ≤ N) : F N a (F N b c) = F N (F N a b) (F N a c) :=
  spread hD (N - a) a (by omega) ha (N - b) b (by omega) hb c hc hc2
def bo (N a b : Nat) : Nat := (F N a (b % N + 1) + N - 2) % N + 1
theorem bo_range {N a b : Nat} (hN : 1 ≤ N) : 1 ≤ bo N a b ∧ bo N a b ≤ N := by
  have := Nat.mod_lt (F N a (b % N + 1) + N - 2) (show 0 < N by omega)
  unfold bo; omega
/-- what comes first tells a number -/
theorem one_inj {N x y : Nat} (hx : 1 ≤ x) (hx2 : x ≤ N) (hy : 1 ≤ y) (hy2 : y ≤ N) (h : F N x 1 = F N y 1) : x = y := by
  by_cases c1 : x = N
  · by_cases c2 : y = N
    · omega
    · rw [c1, F_top (by omega) (by omega), F_one hy (by omega)] at h; omega
  · by_cases c2 : y = N
    · rw [c2, F_top (by omega) (by omega), F_one hx (by omega)] at h; omega
    · rw [F_one hx (by omega), F_one hy (by omega)] at h; omega
theorem bo_N {N a : Nat} (ha : 1 ≤ a) (ha2 : a ≤ N) : bo N a N = a := by
  unfold bo
  rw [Nat.mod_self]
  by_cases c : a = N
  · subst c
    rw [F_top (by omega) (by omega)]
    by_cases h1 : a = 1
    · subst h1; rfl
    · rw [show 0 + 1 + a - 2 = a - 1 by omega, Nat.mod_eq_of_lt (by omega)]; omega
  · rw [F_one ha (by omega), show a + 1 + N - 2 = a - 1 + N by omega, Nat.add_mod_right, Nat.mod_eq_of_lt (by omega)]; omega
theorem bo_lt {N a b : Nat} (ha : 1 ≤ a) (ha2 : a ≤ N) (hb : 1 ≤ b) (hb2 : b < N) : bo N a b + 1 = F N a (b + 1) := by
  have h2 : 2 ≤ F N a (b + 1) ∧ F N a (b + 1) ≤ N := by
    by_cases c : a = N
    · subst c; rw [F_top (by omega) (by omega)]; omega
    · have := F_lo (N := N) (a := a) (c := b + 1) ha (by omega); omega
  unfold bo
  rw [Nat.mod_eq_of_lt hb2, show F N a (b + 1) + N - 2 = F N a (b + 1) - 2 + N by omega, Nat.add_mod_right, Nat.mod_eq_of_lt (by omega)]
  omega
theorem bo_do {N a b : Nat} (hD : Div N) (ha : 1 ≤ a) (ha2 : a ≤ N) (hb : 1 ≤ b) (hb2 : b ≤ N) : ∀ c, 1 ≤ c → c ≤ N → F N (bo N a b) c = F N a (F N b c) := by
  by_cases hbN : b = N
  · subst hbN
    intro c hc hc2
    rw [bo_N ha ha2, F_top hc hc2]
  · have he := bo_lt (N := N) (a := a) (b := b) ha ha2 hb (by omega)
    have hr := bo_range (N := N) (a := a) (b := b) (by omega)
    have h2 := F_range (N := N) (a := a) (b := b + 1) ha ha2 (by omega) (by omega)
    have hlt : bo N a b < N := by omega
    intro c
    induction c with
    | zero => intro h; omega
    | succ c ih =>
      intro hc hc2
      by_cases h0 : c = 0
      · subst h0
        rw [F_one hr.1 hlt, F_one hb (by omega), he]
      · have ih := ih (by omega) (by omega)
        have hbc := F_lo (N := N) (a := b) (c := c) hb (by omega)
        rw [F_next hr.1 hlt (by omega), ih, he, F_next hb (by omega) (by omega)]
        exact (spread' hD ha ha2 (by omega) hbc.2 (by omega) (by omega)).symm
/-- who does the same is the same -/
theorem bo_is {N a b z : Nat} (hD : Div N) (ha : 1 ≤ a) (ha2 : a ≤ N) (hb : 1 ≤ b) (hb2 : b ≤ N) (hz : 1 ≤ z) (hz2 : z ≤ N) (h : F N z 1 = F N a (F N b 1)) : z = bo N a b := by
  have hr := bo_range (N := N) (a := a) (b := b) (by omega)
  exact one_inj hz hz2 hr.1 hr.2 (by rw [h, bo_do hD ha ha2 hb hb2 1 (by omega) (by omega)])
theorem bo_assoc {N a b c : Nat} (hD : Div N) (ha : 1 ≤ a) (ha2 : a ≤ N) (hb : 1 ≤ b) (hb2 : b ≤ N) (hc : 1 ≤ c) (hc2 : c ≤ N) : bo N (bo N a b) c = bo N a (bo N b c) := by
  have h1 := bo_range (N := N) (a := a) (b := b) (by omega)
  have h2 := bo_range (N := N) (a := b) (b := c) (by omega)
  have h3 := bo_range (N := N) (a := bo N a b) (b := c) (by omega)
  have f := F_range (N := N) (a := c) (b := 1) hc hc2 (by omega) (by omega)
  refine bo_is hD ha ha2 h2.1 h2.2 h3.1 h3.2 ?_
  rw [bo_do hD h1.1 h1.2 hc hc2 1 (by omega) (by omega), bo_do hD ha ha2 hb hb2 _ f.1 f.2, bo_do hD hb hb2 hc hc2 1 (by omega) (by omega)]
theorem bo_swap {N a b : Nat} (hD : Div N) (ha : 1 ≤ a) (ha2 : a ≤ N) (hb : 1 ≤ b) (hb2 : b ≤ N) : bo N a b = bo N (F N a b) a := by
  have hab := F_range (N := N) (a := a) (b := b) ha ha2 hb hb2
  have h1 := bo_range (N := N) (a := a) (b := b) (by omega)
  refine bo_is hD hab.1 hab.2 ha ha2 h1.1 h1.2 ?_
  rw [bo_do hD ha ha2 hb hb2 1 (by omega) (by omega)]
  exact spread' hD ha ha2 hb hb2 (by omega) (by omega)
/-- a row is closed under it -/
theorem bo_row {N a : Nat} (hD : Div N) (ha : 1 ≤ a) (ha2 : a < N) : ∀ (d x y : Nat), x + d = N → 1 ≤ x → 1 ≤ y → y ≤ N → (∃ i, 1 ≤ i ∧ i ≤ N ∧ x = F N a i) → (∃ j, 1 ≤ j ∧ j ≤ N ∧ y = F N a j) → ∃ m, 1 ≤ m ∧ m ≤ N ∧ bo N x y = F N a m := by
  intro d
  induction d using Nat.strongRecOn with
  | _ d ih =>
    intro x y hd hx hy hy2 ⟨i, hi, hi2, ex⟩ ⟨j, hj, hj2, ey⟩
    by_cases hxN : x = N
    · subst hxN
      refine ⟨j, hj, hj2, ?_⟩
      rw [← ey]
      have := bo_swap hD hx (Nat.le_refl x) hy hy2
      rw [F_top hy hy2, bo_N hy hy2] at this
      exact this
    · have hxy := F_lo (N := N) (a := x) (c := y) hx (by omega)
      rw [bo_swap hD hx (by omega) hy hy2]
      have fr := F_range (N := N) (a := i) (b := j) hi hi2 hj hj2
      refine ih (N - F N x y) (by omega) (F N x y) x (by omega) (by omega) hx (by omega) ⟨F N i j, fr.1, fr.2, ?_⟩ ⟨i, hi, hi2, ex⟩
      rw [ex, ey]
      exact (spread' hD ha (by omega) hi hi2 hj hj2).symm
/-- in a row, what comes next tells what is there -/
theorem row_inj {N a i j : Nat} (hD : Div N) (ha : 1 ≤ a) (ha2 : a < N) (hi : 1 ≤ i) (hj : 1 ≤ j) (h : F N (F N a i) (a + 1) = F N (F N a j) (a + 1)) : F N a i = F N a j := by
  rw [← F_next ha ha2 hi, ← F_next ha ha2 hj] at h
  have hp : 0 < per N a := R_pos ha (by omega)
  have cyc : ∀ m, 1 ≤ m → F N a (m + 1 + (per N a - 1)) = F N a m := fun m hm => by
    rw [show m + 1 + (per N a - 1) = m + per N a by omega, F_per hm]
  have go : ∀ k m n, 1 ≤ m → 1 ≤ n → F N a m = F N a n → F N a (m + k) = F N a (n + k) := fun k => by
    induction k with
    | zero => intro m n _ _ h; exact h
    | succ k ih =>
      intro m n hm hn h
      rw [← Nat.add_assoc, ← Nat.add_assoc, F_next ha ha2 (by omega), F_next ha ha2 (by omega), ih m n hm hn h]
  rw [← cyc i hi, ← cyc j hj]
  exact go _ _ _ (by omega) (by omega) h
theorem bo_spread {N a b c : Nat} (hD : Div N) (ha : 1 ≤ a) (ha2 : a ≤ N) (hb : 1 ≤ b) (hb2 : b ≤ N) (hc : 1 ≤ c) (hc2 : c ≤ N) : F N a (bo N b c) = bo N (F N a b) (F N a c) := by
  have hbc := bo_range (N := N) (a := b) (b := c) (by omega)
  by_cases haN : a = N
  · subst haN
    rw [F_top hbc.1 hbc.2, F_top hb hb2, F_top hc hc2]
  · have hab := F_range (N := N) (a := a) (b := b) ha ha2 hb hb2
    have hac := F_range (N := N) (a := a) (b := c) ha ha2 hc hc2
    obtain ⟨m, hm, hm2, e⟩ := bo_row hD ha (by omega) (N - F N a b) (F N a b) (F N a c) (by omega) hab.1 hac.1 hac.2 ⟨b, hb, hb2, rfl⟩ ⟨c, hc, hc2, rfl⟩
    rw [e]
    refine row_inj hD ha (by omega) hbc.1 hm ?_
    rw [← e]
    have h1 : F N a 1 = a + 1 := F_one ha (by omega)
    have l : F N (F N a (bo N b c)) (F N a 1) = F N a (F N (bo N b c) 1) := (spread' hD ha ha2 hbc.1 hbc.2 (by omega) (by omega)).symm
    have f1 := F_range (N := N) (a := c) (b := 1) hc hc2 (by omega) (by omega)
    have f2 := F_range (N := N) (a := a) (b := 1) ha ha2 (by omega) (by omega)
    have r : F N (bo N (F N a b) (F N a c)) (F N a 1) = F N (F N a b) (F N (F N a c) (F N a 1)) := bo_do hD hab.1 hab.2 hac.1 hac.2 _ f2.1 f2.2
    rw [h1] at l r
    rw [l, r, bo_do hD hb hb2 hc hc2 1 (by omega) (by omega), ← h1, ← spread' hD ha ha2 hc hc2 (by omega) (by omega), spread' hD ha ha2 hb hb2 f1.1 f1.2]
/-- lowered -/
theorem bo_lowered {N a b : Nat} (hD : Div N) (hD2 : Div (2 * N)) (hN : 1 ≤ N) (ha : 1 ≤ a) (ha2 : a ≤ 2 * N) (hb : 1 ≤ b) (hb2 : b ≤ 2 * N) : low1 N (bo (2 * N) a b) = bo N (low1 N a) (low1 N b) := by
  have la : 1 ≤ low1 N a ∧ low1 N a ≤ N := by
    have := Nat.mod_lt (a - 1) (show 0 < N by omega)
    unfold low1; omega
  have lb : 1 ≤ low1 N b ∧ low1 N b ≤ N := by
    have := Nat.mod_lt (b - 1) (show 0 < N by omega)
    unfold low1; omega
  have hr := bo_range (N := 2 * N) (a := a) (b := b) (by omega)
  have lr : 1 ≤ low1 N (bo (2 * N) a b) ∧ low1 N (bo (2 * N) a b) ≤ N := by
    have := Nat.mod_lt (bo (2 * N) a b - 1) (show 0 < N by omega)
    unfold low1; omega
  have f1 := F_range (N := 2 * N) (a := b) (b := 1) hb hb2 (by omega) (by omega)
  have one : low1 N 1 = 1 := low1_id (by omega) hN
  refine bo_is hD la.1 la.2 lb.1 lb.2 lr.1 lr.2 ?_
  have e1 := F_lowered hD hN hr.1 hr.2 (b := 1) (by omega) (by omega)
  have e2 := F_lowered hD hN ha ha2 f1.1 f1.2
  have e3 := F_lowered hD hN hb hb2 (b := 1) (by omega) (by omega)
  rw [one] at e1 e3
  rw [← e1, bo_do hD2 ha ha2 hb hb2 1 (by omega) (by omega), e2, e3]
end Pv
-- PvStep
set_option maxRecDepth 100000
namespace Pv
open PySem L2
section
variable {cf : Nat → List Ob → CR} {lk : List Nat} {r : ISs} {env env' env'' : En}
theorem st_asg {z : Bool} {i : Nat} {e : IE} {o : Ob} (hf : free lk i = true) (h : evE cf lk e env = .ok o env') (hs : env'.set i (some (fzIf z o)) = env'') : evSs cf lk (.cons (.asg z i e) r) env = evSs cf lk r env'' := by
  rw [y_ss1, y_asg, if_pos hf, h, Rs.bind_ok, Rs.bind_ok, hs]
theorem st_par {is : List Nat} {es : IEs} {os : List Ob} (hf : (is.all (free lk) && decide is.Nodup) = true) (h : evO cf lk es env = .ok os env') (hs : setObs env' is os = some env'') : evSs cf lk (.cons (.par is es) r) env = evSs cf lk r env'' := by
  rw [y_ss1, y_par, if_pos hf, h, Rs.bind_ok, hs, optR_some, Rs.bind_ok, Rs.bind_ok]
theorem st_for {tg : List Nat ⊕ Nat} {it : IT} {b : ISs} {ds : List PV} (hf : freeTg lk tg = true) (h : evIt cf lk it env = .ok ds env') (hl : forL (forT cf lk tg b) ds env' = .ok .nx env'') : evSs cf lk (.cons (.for_ tg it b) r) env = evSs cf lk r env'' := by
  rw [y_ss1, y_for, if_pos hf, h, Rs.bind_ok, hl, Rs.bind_ok]
theorem st_whl {c : IE} {b : ISs} (h : whileN (whlC cf lk c) (whlB cf lk b) wfuel env = .ok .nx env') : evSs cf lk (.cons (.whl c b) r) env = evSs cf lk r env' := by
  rw [y_ss1, y_whl, h, Rs.bind_ok]
theorem st_skip {c : IE} {a b : ISs} (h : evT cf lk c env = .ok false env') (hb : evSs cf lk b env' = .ok .nx env'') : evSs cf lk (.cons (.ite c a b) r) env = evSs cf lk r env'' := by
  rw [y_ss1, y_ifs, h, Rs.bind_ok]
  simp only [Bool.false_eq_true, if_false, hb, Rs.bind_ok]
theorem st_ret {e : IE} {o : Ob} (hx : e.isX = none) (h : evE cf lk e env = .ok o env') : evSs cf lk (.cons (.ret e) .nil) env = .ok (.rt o) env' := by
  rw [y_ss1, y_ret, y_retE hx, h, Rs.bind_ok, Rs.bind_ok]
end
end Pv
-- PvBoth
set_option maxRecDepth 100000
namespace Pv
open PySem L2
theorem bo_int {N P : Nat} (hN : 1 ≤ N) (hP : 1 ≤ P) : modf (.int ((P : Int) - 2)) (.int (N : Int)) = some (.v (.int (((P + N - 2) % N : Nat) : Int))) := by
  have h : (0 : Int) < (N : Int) := by omega
  have e : ((P : Int) - 2) % (N : Int) = (((P + N - 2) % N : Nat) : Int) := by
    rw [← Int.add_emod_right, show (P : Int) - 2 + (N : Int) = ((P + N - 2 : Nat) : Int) by omega, Int.natCast_emod]
  rw [modf, if_pos h, vI, e]
section
variable {T : Nat → Option FD} {isn isa sn ri pi si sl bi : Nat}
theorem bi_run {k : Nat} (hT : T bi = some ⟨4, 5, [], q_both_in pi⟩) {L N A B M P Z : Int} {rows : List PV} (hs : shlf (.int 1) (.int L) = some (.v (.int N))) (h1 : modf (.int B) (.int N) = some (.v (.int M))) (h2 : runF T k pi [.v (.list rows), .v (.int A), .v (.int (M + 1))] = .ret (.v (.int P)) []) (h3 : modf (.int (P - 2)) (.int N) = some (.v (.int Z))) : runF T (k + 1) bi [.v (.int L), .v (.list rows), .v (.int A), .v (.int B)] = .ret (.v (.int (Z + 1))) [] := by
  rw [y_run hT]
  simp [q_both_in, ioOk, free, hs, h1, h2, h3, opf2, addf, subf, vI, handsOk, ioNames, putBack, outsOf]
theorem both_in_spec (hp : T pi = some ⟨3, 3, [], q_product_in⟩) (hT : T bi = some ⟨4, 5, [], q_both_in pi⟩) (k : Nat) {l N a b : Nat} (hl : l ≤ 13) (hN : 2 ^ l = N) (h1 : 1 ≤ a) (h2 : a ≤ N) (h3 : 1 ≤ b) (h4 : b ≤ N) : runF T (k + 2) bi [.v (.int l), .v (.list (rowsV N)), .v (.int a), .v (.int b)] = .ret (.v (.int (bo N a b))) [] := by
  have hpw := pow_le13 hl
  have hs := shl_one hl
  rw [hN] at hpw hs
  have hm := Nat.mod_lt b (show 0 < N by omega)
  have fr := F_range (N := N) (a := a) (b := b % N + 1) h1 h2 (by omega) (by omega)
  exact bi_run hT hs (modf_nat (by omega)) (product_spec hp k (b := b % N + 1) h1 h2 (by omega)) (bo_int (by omega) fr.1)
theorem bth_run {i k : Nat} (hT : T i = some ⟨3, 5, [], q_both sl si bi ri⟩) {L A B Z : Int} {R1 : List PV} (h1 : runF T k sl [.v (.int L)] = .ret (.v (.int L)) []) (h2 : runF T k si [.v (.int L), .v (.int A)] = .ret (.v (.int A)) []) (h2b : runF T k si [.v (.int L), .v (.int B)] = .ret (.v (.int B)) []) (h3 : runF T k ri [.v (.int L)] = .ret (.ml R1) []) (h4 : runF T k bi [.v (.int L), .v (.list R1), .v (.int A), .v (.int B)] = .ret (.v (.int Z)) []) :
    runF T (k + 1) i [.v (.int L), .v (.int A), .v (.int B)] = .ret (.v (.int Z)) [] := by
  rw [y_run hT]
  simp [q_both, ioOk, free, h1, h2, h2b, h3, h4, handsOk, ioNames, putBack, outsOf]
structure BothFns (T : Nat → Option FD) (isn isa sn ri pi si sl bi : Nat) : Prop where
  l : LvlFns T isn isa sn ri pi si sl
  h : T bi = some ⟨4, 5, [], q_both_in pi⟩
variable (K : BothFns T isn isa sn ri pi si sl bi)
include K
theorem both_spec {i : Nat} (hT : T i = some ⟨3, 5, [], q_both sl si bi ri⟩) (k : Nat) {l N a b : Nat} (hl : l ≤ 12) (hN : 2 ^ l = N) (h1 : 1 ≤ a) (h2 : a ≤ N) (h3 : 1 ≤ b) (h4 : b ≤ N) : runF T (k + 5) i [.v (.int l), .v (.int a), .v (.int b)] = .ret (.v (.int (bo N a b))) [] :=
  bth_run hT (sure_level_spec K.l.t.n K.l.h1 k l (by omega) (by omega)) (sure_in_spec K.l.t.n K.l.t.h3 k l a (by omega) h1 (by omega)) (sure_in_spec K.l.t.n K.l.t.h3 k l b (by omega) h3 (by omega)) (rows_at K.l (by omega) hN) (both_in_spec K.l.t.h2 K.h (k + 2) (by omega) hN h1 h2 h3 h4)
omit K
def fldBody (bi : Nat) : ISs := .cons (.asg true 3 (.call bi (.cons false (.x 0) (.cons false (.x 2) (.cons false (.x 3) (.cons false (.x 4) .nil)))))) .nil
theorem fld_turn {cf : Nat → List Ob → CR} {R1 : List PV} {L A X Z : Int} {e1 e4 : Option Ob} (h : cf bi [.v (.int L), .v (.list R1), .v (.int A), .v (.int X)] = .ret (.v (.int Z)) []) : forT cf [] (.inr 4) (fldBody bi) (.int X) [some (.v (.int L)), e1, some (.v (.list R1)), some (.v (.int A)), e4] = .ok .nx [some (.v (.int L)), e1, some (.v (.list R1)), some (.v (.int Z)), some (.v (.int X))] := by
  simp [forT, setTg, fldBody, free, h, handsOk, ioNames, putBack]
theorem fld_for (hp : T pi = some ⟨3, 3, [], q_product_in⟩) (hT : T bi = some ⟨4, 5, [], q_both_in pi⟩) {k l N : Nat} (hl : l ≤ 13) (hN : 2 ^ l = N) {e1 : Option Ob} : ∀ (xs : List Nat) (a : Nat) (e4 : Option Ob), 1 ≤ a → a ≤ N → (∀ x ∈ xs, 1 ≤ x ∧ x ≤ N) → ∃ e4', forL (forT (runF T (k + 2)) [] (.inr 4) (fldBody bi)) (xs.map nI) [some (.v (.int l)), e1, some (.v (.list (rowsV N))), some (.v (.int a)), e4] = .ok .nx [some (.v (.int l)), e1, some (.v (.list (rowsV N))), some (.v (nI (xs.foldl (bo N) a))), e4']
  | [], a, e4, _, _, _ => ⟨e4, by rw [List.map_nil, forL]; rfl⟩
  | x :: xs, a, e4, h1, h2, h => by
    have hx := h x List.mem_cons_self
    have br := bo_range (N := N) (a := a) (b := x) (by omega)
    obtain ⟨e4', ih⟩ := fld_for hp hT (k := k) hl hN (e1 := e1) xs (bo N a x) (some (.v (.int x))) br.1 br.2 fun z hz => h z (List.mem_cons_of_mem _ hz)
    refine ⟨e4', ?_⟩
    rw [List.map_cons, forL, nI, fld_turn (both_in_spec hp hT k hl hN h1 h2 hx.1 hx.2), Rs.bind_ok]
    exact ih
theorem fld_c1 {cf : Nat → List Ob → CR} {L : Int} {R1 : List PV} {d : PV} (h : cf ri [.v (.int L)] = .ret (.ml R1) []) : evE cf [] (.call ri (.cons false (.x 0) .nil)) [some (.v (.int L)), some (.v d), none, none, none] = .ok (.ml R1) [some (.v (.int L)), some (.v d), none, none, none] := by
  simp [h, handsOk, ioNames, putBack]
theorem fld_c2 {cf : Nat → List Ob → CR} {L N : Int} {R1 : List PV} {d : PV} (h : shlf (.int 1) (.int L) = some (.v (.int N))) : evE cf [] (.op .shl (.cons false (.c (.int 1)) (.cons false (.x 0) .nil))) [some (.v (.int L)), some (.v d), some (.v (.list R1)), none, none] = .ok (.v (.int N)) [some (.v (.int L)), some (.v d), some (.v (.list R1)), none, none] := by
  simp [h, opf2]
theorem fld_it {cf : Nat → List Ob → CR} {L N : Int} {R1 ds : List PV} {d : PV} (hd : isD d = false) (h : itemsOf d = some ds) : evIt cf [] (.seq (.x 1)) [some (.v (.int L)), some (.v d), some (.v (.list R1)), some (.v (.int N)), none] = .ok ds [some (.v (.int L)), some (.v d), some (.v (.list R1)), some (.v (.int N)), none] := by
  have hf := fun env => y_fzv (env := env) hd
  simp [hf, h]
theorem fld_ret {cf : Nat → List Ob → CR} {e0 e1 e2 e4 : Option Ob} {z : PV} : evSs cf [] (.cons (.ret (.x 3)) .nil) [e0, e1, e2, some (.v z), e4] = .ok (.rt (.v z)) [e0, e1, e2, some (.v z), e4] := by
  simp [free]
theorem folded_spec (F : TblFns T isn isa sn ri pi si) (hb : T bi = some ⟨4, 5, [], q_both_in pi⟩) {i : Nat} (hT : T i = some ⟨2, 5, [], q_folded ri bi⟩) (k : Nat) {l N : Nat} (hl : l ≤ 13) (hN : 2 ^ l = N) {d : PV} {xs : List Nat} (hd : isD d = false) (hx : itemsOf d = some (xs.map nI)) (hxs : ∀ x ∈ xs, 1 ≤ x ∧ x ≤ N) : runF T (k + 3) i [.v (.int l), .v d] = .ret (.v (nI (xs.foldl (bo N) N))) [] := by
  have hp := pow_le13 hl
  have hs := shl_one hl
  have hr := rows_in_spec F.h1 (k + 1) l hl
  rw [hN] at hp hs hr
  obtain ⟨e4, f⟩ := fld_for F.h2 hb (k := k) hl hN (e1 := some (.v d)) xs N none hp.1 (Nat.le_refl _) hxs
  have h : ∃ env', evSs (runF T (k + 2)) [] (q_folded ri bi) [some (.v (.int l)), some (.v d), none, none, none] = .ok (.rt (.v (nI (xs.foldl (bo N) N)))) env' := by
    rw [fldBody] at f
    rw [q_folded, st_asg (env'' := [some (.v (.int l)), some (.v d), some (.v (.list (rowsV N))), none, none]) rfl (fld_c1 hr) rfl, st_asg (env'' := [some (.v (.int l)), some (.v d), some (.v (.list (rowsV N))), some (.v (.int N)), none]) rfl (fld_c2 hs) rfl, st_for rfl (fld_it hd hx) f, fld_ret]
    exact ⟨_, rfl⟩
  obtain ⟨env', h⟩ := h
  exact run_ret (k := k + 2) hT rfl rfl h
end
end Pv
-- PvBoth2
set_option maxRecDepth 100000
namespace Pv
open PySem L2
section
variable {T : Nat → Option FD} {isn isa sn ri pi si sl bi : Nat}
theorem ab_run {i k fo sai : Nat} (hT : T i = some ⟨2, 3, [], q_all_both sl fo sai⟩) {L Z : Int} {d : PV} {ys : List PV} (h1 : runF T k sl [.v (.int L)] = .ret (.v (.int L)) []) (h2 : runF T k sai [.v (.int L), .v d] = .ret (.v (.tuple ys)) []) (h3 : runF T k fo [.v (.int L), .v (.tuple ys)] = .ret (.v (.int Z)) []) : runF T (k + 1) i [.v (.int L), .v d] = .ret (.v (.int Z)) [] := by
  rw [y_run hT]
  simp [q_all_both, ioOk, free, h1, h2, h3, handsOk, ioNames, putBack, outsOf]
theorem bt_run {i k fo : Nat} (hT : T i = some ⟨3, 5, [], q_both_times sl si fo sn⟩) {L A M Z : Int} {ys : List PV} (h1 : runF T k sl [.v (.int L)] = .ret (.v (.int L)) []) (h2 : runF T k si [.v (.int L), .v (.int A)] = .ret (.v (.int A)) []) (h3 : runF T k sn [.v (.int M), .v (.int 0), .v (.int 1000)] = .ret (.v (.int M)) []) (hm : mulf (.list [.int A]) (.int M) = some (.ml ys)) (h4 : runF T k fo [.v (.int L), .v (.list ys)] = .ret (.v (.int Z)) []) : runF T (k + 1) i [.v (.int L), .v (.int A), .v (.int M)] = .ret (.v (.int Z)) [] := by
  rw [y_run hT]
  simp [q_both_times, ioOk, free, h1, h2, h3, hm, h4, opf2, handsOk, ioNames, putBack, outsOf]
theorem ib_run {i k bt : Nat} (hT : T i = some ⟨4, 5, [], q_is_both bt isn⟩) {L A B X Z : Int} (h1 : runF T k bt [.v (.int L), .v (.int A), .v (.int B)] = .ret (.v (.int Z)) []) (h2 : runF T k isn [.v (.int X)] = .ret (.v (.bool true)) []) : runF T (k + 1) i [.v (.int L), .v (.int A), .v (.int B), .v (.int X)] = .ret (.v (.bool (X == Z))) [] := by
  rw [y_run hT]
  simp [q_is_both, ioOk, free, h1, h2, opf2, cmpf, vB, handsOk, ioNames, putBack, outsOf]
theorem lb_a {cf : Nat → List Ob → CR} {L A B C : Int} {R1 : List PV} {r : ISs} (h1 : cf sl [.v (.int L)] = .ret (.v (.int L)) []) (hA : cf si [.v (.int L), .v (.int A)] = .ret (.v (.int A)) []) (hB : cf si [.v (.int L), .v (.int B)] = .ret (.v (.int B)) []) (hC : cf si [.v (.int L), .v (.int C)] = .ret (.v (.int C)) []) (h3 : cf ri [.v (.int L)] = .ret (.ml R1) []) :
    evSs cf [] (.cons (.asg true 4 (.call sl (.cons false (.x 0) .nil))) (.cons (.asg true 5 (.call si (.cons false (.x 4) (.cons false (.x 1) .nil)))) (.cons (.asg true 6 (.call si (.cons false (.x 4) (.cons false (.x 2) .nil)))) (.cons (.asg true 7 (.call si (.cons false (.x 4) (.cons false (.x 3) .nil)))) (.cons (.asg true 8 (.call ri (.cons false (.x 4) .nil))) r))))) [some (.v (.int L)), some (.v (.int A)), some (.v (.int B)), some (.v (.int C)), none, none, none, none, none, none, none, none, none, none, none, none] =
    evSs cf [] r [some (.v (.int L)), some (.v (.int A)), some (.v (.int B)), some (.v (.int C)), some (.v (.int L)), some (.v (.int A)), some (.v (.int B)), some (.v (.int C)), some (.v (.list R1)), none, none, none, none, none, none, none] := by
  simp [h1, hA, hB, hC, h3, free, handsOk, ioNames, putBack]
theorem lb_b {cf : Nat → List Ob → CR} {L A B C p9 p10 p11 p12 : Int} {R1 : List PV} {e0 e1 e2 e3 : Option Ob} {r : ISs} (h9 : cf bi [.v (.int L), .v (.list R1), .v (.int A), .v (.int B)] = .ret (.v (.int p9)) []) (h10 : cf pi [.v (.list R1), .v (.int A), .v (.int B)] = .ret (.v (.int p10)) []) (h11 : cf bi [.v (.int L), .v (.list R1), .v (.int B), .v (.int C)] = .ret (.v (.int p11)) []) (h12 : cf pi [.v (.list R1), .v (.int A), .v (.int C)] = .ret (.v (.int p12)) []) :
    evSs cf [] (.cons (.par [9, 10] (.cons true (.call bi (.cons false (.x 4) (.cons false (.x 8) (.cons false (.x 5) (.cons false (.x 6) .nil))))) (.cons true (.call pi (.cons false (.x 8) (.cons false (.x 5) (.cons false (.x 6) .nil)))) .nil))) (.cons (.par [11, 12] (.cons true (.call bi (.cons false (.x 4) (.cons false (.x 8) (.cons false (.x 6) (.cons false (.x 7) .nil))))) (.cons true (.call pi (.cons false (.x 8) (.cons false (.x 5) (.cons false (.x 7) .nil)))) .nil))) r)) [e0, e1, e2, e3, some (.v (.int L)), some (.v (.int A)), some (.v (.int B)), some (.v (.int C)), some (.v (.list R1)), none, none, none, none, none, none, none] =
    evSs cf [] r [e0, e1, e2, e3, some (.v (.int L)), some (.v (.int A)), some (.v (.int B)), some (.v (.int C)), some (.v (.list R1)), some (.v (.int p9)), some (.v (.int p10)), some (.v (.int p11)), some (.v (.int p12)), none, none, none] := by
  simp [h9, h10, h11, h12, free, setObs, handsOk, ioNames, putBack]
theorem lb_c {cf : Nat → List Ob → CR} {L A B C p9 p10 p11 p12 a1 a2 b1 bc b2 c1 c2 d2 : Int} {R1 : List PV} {e0 e1 e2 e3 : Option Ob} (g1 : cf bi [.v (.int L), .v (.list R1), .v (.int p9), .v (.int C)] = .ret (.v (.int a1)) []) (g2 : cf bi [.v (.int L), .v (.list R1), .v (.int A), .v (.int p11)] = .ret (.v (.int a2)) []) (g3 : cf pi [.v (.list R1), .v (.int p9), .v (.int C)] = .ret (.v (.int b1)) []) (g4 : cf pi [.v (.list R1), .v (.int B), .v (.int C)] = .ret (.v (.int bc)) []) (g5 : cf pi [.v (.list R1), .v (.int A), .v (.int bc)] = .ret (.v (.int b2)) [])
    (g6 : cf pi [.v (.list R1), .v (.int A), .v (.int p11)] = .ret (.v (.int c1)) []) (g7 : cf bi [.v (.int L), .v (.list R1), .v (.int p10), .v (.int p12)] = .ret (.v (.int c2)) []) (g8 : cf bi [.v (.int L), .v (.list R1), .v (.int p10), .v (.int A)] = .ret (.v (.int d2)) []) :
    ∃ env', evSs cf [] (.cons (.asg true 13 (.tup (.cons false (.call bi (.cons false (.x 4) (.cons false (.x 8) (.cons false (.x 9) (.cons false (.x 7) .nil))))) (.cons false (.call bi (.cons false (.x 4) (.cons false (.x 8) (.cons false (.x 5) (.cons false (.x 11) .nil))))) .nil))))
    (.cons (.asg true 14 (.tup (.cons false (.call pi (.cons false (.x 8) (.cons false (.x 9) (.cons false (.x 7) .nil)))) (.cons false (.call pi (.cons false (.x 8) (.cons false (.x 5) (.cons false (.call pi (.cons false (.x 8) (.cons false (.x 6) (.cons false (.x 7) .nil)))) .nil)))) .nil))))
    (.cons (.asg true 15 (.tup (.cons false (.call pi (.cons false (.x 8) (.cons false (.x 5) (.cons false (.x 11) .nil)))) (.cons false (.call bi (.cons false (.x 4) (.cons false (.x 8) (.cons false (.x 10) (.cons false (.x 12) .nil))))) .nil))))
    (.cons (.ret (.tup (.cons false (.x 13) (.cons false (.x 14) (.cons false (.x 15) (.cons false (.tup (.cons false (.x 9) (.cons false (.call bi (.cons false (.x 4) (.cons false (.x 8) (.cons false (.x 10) (.cons false (.x 5) .nil))))) .nil))) .nil)))))) .nil)))) [e0, e1, e2, e3, some (.v (.int L)), some (.v (.int A)), some (.v (.int B)), some (.v (.int C)), some (.v (.list R1)), some (.v (.int p9)), some (.v (.int p10)), some (.v (.int p11)), some (.v (.int p12)), none, none, none] =
    .ok (.rt (.v (.tuple [.tuple [.int a1, .int a2], .tuple [.int b1, .int b2], .tuple [.int c1, .int c2], .tuple [.int p9, .int d2]]))) env' := by
  refine ⟨[e0, e1, e2, e3, some (.v (.int L)), some (.v (.int A)), some (.v (.int B)), some (.v (.int C)), some (.v (.list R1)), some (.v (.int p9)), some (.v (.int p10)), some (.v (.int p11)), some (.v (.int p12)), some (.v (.tuple [.int a1, .int a2])), some (.v (.tuple [.int b1, .int b2])), some (.v (.tuple [.int c1, .int c2]))], ?_⟩
  simp [g1, g2, g3, g4, g5, g6, g7, g8, free, handsOk, ioNames, putBack]
variable (K : BothFns T isn isa sn ri pi si sl bi)
include K
theorem all_both_spec {i fo sai tp : Nat} (hT : T i = some ⟨2, 3, [], q_all_both sl fo sai⟩) (hf : T fo = some ⟨2, 5, [], q_folded ri bi⟩) (hs : T sai = some ⟨2, 4, [], q_sure_all_in tp isa⟩) (ht : T tp = some ⟨1, 2, [], q_tupled tp⟩) (k : Nat) {l N : Nat} (hl : l ≤ 12) (hN : 2 ^ l = N) {d : PV} {xs : List Nat} (s : SoftN d xs) (hlen : xs.length ≤ 100000) (hx : ∀ y ∈ xs, 1 ≤ y ∧ y ≤ N) : runF T (k + 5) i [.v (.int l), .v d] = .ret (.v (nI (xs.foldl (bo N) N))) [] :=
  ab_run hT (sure_level_spec K.l.t.n K.l.h1 k l (by omega) (by omega)) (sai_spec K.l.t.n hs ht (k + 1) (by omega) hN s hlen hx) (folded_spec K.l.t K.h hf (k + 1) (by omega) hN rfl rfl hx)
theorem both_times_spec {i fo : Nat} (hT : T i = some ⟨3, 5, [], q_both_times sl si fo sn⟩) (hf : T fo = some ⟨2, 5, [], q_folded ri bi⟩) (k : Nat) {l N a n : Nat} (hl : l ≤ 12) (hN : 2 ^ l = N) (h1 : 1 ≤ a) (h2 : a ≤ N) (hn : n ≤ 1000) : runF T (k + 5) i [.v (.int l), .v (.int a), .v (.int n)] = .ret (.v (nI ((List.replicate n a).foldl (bo N) N))) [] := by
  have hm : mulf (.list [.int (a : Int)]) (.int (n : Int)) = some (.ml ((List.replicate n a).map nI)) := by
    have d1 : decide (-(2 ^ 63) ≤ (n : Int)) = true := decide_eq_true (by omega)
    have d2 : decide ((n : Int) < 2 ^ 63) = true := decide_eq_true (by omega)
    have d3 : decide (1 * n ≤ lim) = true := decide_eq_true (by rw [lim_nat]; omega)
    simp only [mulf, List.length_singleton, Int.toNat_natCast, d1, d2, d3, Bool.and_self, if_true, rep_flat, List.map_replicate, nI]
  refine bt_run hT (sure_level_spec K.l.t.n K.l.h1 k l (by omega) (by omega)) (sure_in_spec K.l.t.n K.l.t.h3 k l a (by omega) h1 (by omega)) (sure_number_spec K.l.t.n (k + 1) n (by omega) (by omega)) hm (folded_spec K.l.t K.h hf (k + 1) (by omega) hN rfl rfl ?_)
  intro x hx
  have := (List.mem_replicate.mp hx).2
  omega
theorem is_both_spec {i bt : Nat} (hT : T i = some ⟨4, 5, [], q_is_both bt isn⟩) (hb : T bt = some ⟨3, 5, [], q_both sl si bi ri⟩) (k : Nat) {l N a b x : Nat} (hl : l ≤ 12) (hN : 2 ^ l = N) (h1 : 1 ≤ a) (h2 : a ≤ N) (h3 : 1 ≤ b) (h4 : b ≤ N) : runF T (k + 6) i [.v (.int l), .v (.int a), .v (.int b), .v (.int x)] = .ret (.v (.bool ((x : Int) == (bo N a b : Int)))) [] :=
  ib_run hT (both_spec K hb k hl hN h1 h2 h3 h4) (is_number_spec K.l.t.n.h1 (k + 4) (.int x) rfl)
theorem laws_of_both_spec {i : Nat} (hT : T i = some ⟨4, 16, [], q_laws_of_both sl si ri bi pi⟩) (k : Nat) {l N a b c : Nat} (hl : l ≤ 12) (hN : 2 ^ l = N) (h1 : 1 ≤ a) (h2 : a ≤ N) (h3 : 1 ≤ b) (h4 : b ≤ N) (h5 : 1 ≤ c) (h6 : c ≤ N) :
    runF T (k + 5) i [.v (.int l), .v (.int a), .v (.int b), .v (.int c)] = .ret (.v (.tuple [.tuple [nI (bo N (bo N a b) c), nI (bo N a (bo N b c))], .tuple [nI (F N (bo N a b) c), nI (F N a (F N b c))], .tuple [nI (F N a (bo N b c)), nI (bo N (F N a b) (F N a c))], .tuple [nI (bo N a b), nI (bo N (F N a b) a)]])) [] := by
  have hN1 : 1 ≤ N := by omega
  have r1 := bo_range (N := N) (a := a) (b := b) hN1
  have r2 := bo_range (N := N) (a := b) (b := c) hN1
  have f1 := F_range (N := N) h1 h2 h3 h4
  have f2 := F_range (N := N) h1 h2 h5 h6
  have f3 := F_range (N := N) h3 h4 h5 h6
  have P := fun {x y : Nat} (a1 : 1 ≤ x) (a2 : x ≤ N) (a3 : 1 ≤ y) => product_spec K.l.t.h2 (k + 3) (N := N) (a := x) (b := y) a1 a2 a3
  have B := fun {x y : Nat} (a1 : 1 ≤ x) (a2 : x ≤ N) (a3 : 1 ≤ y) (a4 : y ≤ N) => both_in_spec K.l.t.h2 K.h (k + 2) (l := l) (by omega) hN a1 a2 a3 a4
  obtain ⟨env', e⟩ := lb_c (cf := runF T (k + 4)) (e0 := some (.v (.int l))) (e1 := some (.v (.int a))) (e2 := some (.v (.int b))) (e3 := some (.v (.int c))) (B r1.1 r1.2 h5 h6) (B h1 h2 r2.1 r2.2) (P r1.1 r1.2 h5) (P h3 h4 h5) (P h1 h2 f3.1) (P h1 h2 r2.1) (B f1.1 f1.2 f2.1 f2.2) (B f1.1 f1.2 h1 h2)
  refine run_ret (k := k + 4) hT rfl rfl (env' := env') ?_
  rw [q_laws_of_both]
  show evSs (runF T (k + 4)) [] _ [some (.v (.int l)), some (.v (.int a)), some (.v (.int b)), some (.v (.int c)), none, none, none, none, none, none, none, none, none, none, none, none] = _
  rw [lb_a (sure_level_spec K.l.t.n K.l.h1 k l (by omega) (by omega)) (sure_in_spec K.l.t.n K.l.t.h3 k l a (by omega) h1 (by omega)) (sure_in_spec K.l.t.n K.l.t.h3 k l b (by omega) h3 (by omega)) (sure_in_spec K.l.t.n K.l.t.h3 k l c (by omega) h5 (by omega)) (rows_at K.l (by omega) hN), lb_b (B h1 h2 h3 h4) (P h1 h2 h3) (B h3 h4 h5 h6) (P h1 h2 h5)]
  exact e
end
def fix (N a : Nat) : List Nat := (upTo N).filter fun x => decide (F N a x = x)
section
variable {T : Nat → Option FD} {isn isa sn ri pi si sl bi : Nat}
theorem fb_it {cf : Nat → List Ob → CR} {L B : Int} {ds : List PV} {e0 e1 e3 e4 : Option Ob} (hs : shlf (.int 1) (.int L) = some (.v (.int B))) (hr : rangeV [.int 1, .int (B + 1)] = some ds) : evIt cf [] (.range (.cons false (.c (.int 1)) (.cons false (.op .add (.cons false (.op .shl (.cons false (.c (.int 1)) (.cons false (.x 2) .nil))) (.cons false (.c (.int 1)) .nil))) .nil))) [e0, e1, some (.v (.int L)), e3, e4, none] = .ok ds [e0, e1, some (.v (.int L)), e3, e4, none] := by
  have c : evF cf [] (.cons false (.c (.int 1)) (.cons false (.op .add (.cons false (.op .shl (.cons false (.c (.int 1)) (.cons false (.x 2) .nil))) (.cons false (.c (.int 1)) .nil))) .nil)) [e0, e1, some (.v (.int L)), e3, e4, none] = .ok [.int 1, .int (B + 1)] [e0, e1, some (.v (.int L)), e3, e4, none] := by simp [opf2, addf, vI, hs]
  rw [y_range, c, Rs.bind_ok, hr, optR_some]
theorem fb_cond {cf : Nat → List Ob → CR} {A X Z : Int} {R1 : List PV} {e0 e1 e2 : Option Ob} (h : cf pi [.v (.list R1), .v (.int A), .v (.int X)] = .ret (.v (.int Z)) []) : evK cf [] (.cons false (.op .eq (.cons false (.call pi (.cons false (.x 4) (.cons false (.x 3) (.cons false (.x 5) .nil)))) (.cons false (.x 5) .nil))) .nil) [e0, e1, e2, some (.v (.int A)), some (.v (.list R1)), some (.v (.int X))] = .ok (Z == X) [e0, e1, e2, some (.v (.int A)), some (.v (.list R1)), some (.v (.int X))] := by
  simp [h, opf2, cmpf, handsOk, ioNames, putBack]
theorem fb_elt {cf : Nat → List Ob → CR} {X : Int} {e0 e1 e2 e3 e4 : Option Ob} : evE cf [] (.x 5) [e0, e1, e2, e3, e4, some (.v (.int X))] = .ok (.v (.int X)) [e0, e1, e2, e3, e4, some (.v (.int X))] := by
  simp
theorem fb_fm {f : Nat → Bool} : ∀ xs : List Nat, (xs.filterMap fun x => if f x then some (nI x) else none) = (xs.filter f).map nI
  | [] => rfl
  | x :: xs => by
    rw [List.filterMap_cons, List.filter_cons]
    cases f x <;> simp [fb_fm xs]
theorem fb_run {i k : Nat} (hT : T i = some ⟨2, 6, [], q_fixed_by sl si ri pi⟩) {L A : Int} {R1 ys : List PV} (h1 : runF T k sl [.v (.int L)] = .ret (.v (.int L)) []) (h2 : runF T k si [.v (.int L), .v (.int A)] = .ret (.v (.int A)) []) (h3 : runF T k ri [.v (.int L)] = .ret (.ml R1) [])
    (hc : evE (runF T k) [] (.lc [5] (.inr 5) (.range (.cons false (.c (.int 1)) (.cons false (.op .add (.cons false (.op .shl (.cons false (.c (.int 1)) (.cons false (.x 2) .nil))) (.cons false (.c (.int 1)) .nil))) .nil))) (.cons false (.op .eq (.cons false (.call pi (.cons false (.x 4) (.cons false (.x 3) (.cons false (.x 5) .nil)))) (.cons false (.x 5) .nil))) .nil) (.x 5)) [some (.v (.int L)), some (.v (.int A)), some (.v (.int L)), some (.v (.int A)), some (.v (.list R1)), none] = .ok (.ml ys) [some (.v (.int L)), some (.v (.int A)), some (.v (.int L)), some (.v (.int A)), some (.v (.list R1)), none]) :
    runF T (k + 1) i [.v (.int L), .v (.int A)] = .ret (.v (.tuple ys)) [] := by
  rw [y_run hT]
  simp [q_fixed_by, ioOk, free, h1, h2, h3, hc, opf1, tuplef, handsOk, ioNames, putBack, outsOf]
theorem fixed_by_spec (K : LvlFns T isn isa sn ri pi si sl) {i : Nat} (hT : T i = some ⟨2, 6, [], q_fixed_by sl si ri pi⟩) (k : Nat) {l N a : Nat} (hl : l ≤ 12) (hN : 2 ^ l = N) (h1 : 1 ≤ a) (h2 : a ≤ N) : runF T (k + 5) i [.v (.int l), .v (.int a)] = .ret (.v (.tuple ((fix N a).map nI))) [] := by
  have hp := pow_le13 (l := l) (by omega)
  have hs := shl_one (l := l) (by omega)
  rw [hN] at hp hs
  refine fb_run hT (sure_level_spec K.t.n K.h1 k l (by omega) (by omega)) (sure_in_spec K.t.n K.t.h3 k l a (by omega) h1 (by omega)) (rows_at K (by omega) hN) ?_
  have hr := range_1n (N := N) (by omega)
  have e : (List.range N).map (fun i => nI (i + 1)) = (upTo N).map nI := by rw [upTo, List.map_map]; rfl
  rw [e] at hr
  rw [fix, ← fb_fm]
  refine lc_fmE nI _ (by simp) (fb_it hs hr) rfl (by rw [upTo_length, lim_nat]; omega) fun x hx => ?_
  obtain ⟨j, hj, rfl⟩ := List.mem_map.mp hx
  have hj := List.mem_range.mp hj
  have c := fb_cond (cf := runF T (k + 4)) (pi := pi) (R1 := rowsV N) (A := a) (X := ((j + 1 : Nat) : Int)) (e0 := some (.v (.int l))) (e1 := some (.v (.int a))) (e2 := some (.v (.int l))) (product_spec K.t.h2 (k + 3) (N := N) (b := j + 1) h1 h2 (by omega))
  refine ⟨[some (.v (.int l)), some (.v (.int a)), some (.v (.int l)), some (.v (.int a)), some (.v (.list (rowsV N))), some (.v (nI (j + 1)))], rfl, ?_⟩
  by_cases h : F N a (j + 1) = j + 1
  · have q : ((F N a (j + 1) : Int) == ((j + 1 : Nat) : Int)) = true := by rw [h]; simp
    rw [q] at c
    rw [if_pos (decide_eq_true h)]
    exact ⟨_, .v (nI (j + 1)), _, c, fb_elt, rfl, rfl⟩
  · have q : ((F N a (j + 1) : Int) == ((j + 1 : Nat) : Int)) = false := by simp; omega
    rw [q] at c
    rw [if_neg (by simp [h])]
    exact ⟨_, c, rfl⟩
end
end Pv
-- PvDraw
set_option maxRecDepth 100000
namespace Pv
open PySem L2
section
variable {cf : Nat → List Ob → CR} {lk : List Nat} {own : List Nat} {tg : List Nat ⊕ Nat}
theorem restore_none : ∀ (l : List Nat) (env0 env : En), (∀ i ∈ l, env0[i]? = some none) → restore env0 env l = wipeL env l
  | [], _, _, _ => rfl
  | i :: l, env0, env, h => by
    rw [restore, h i List.mem_cons_self]
    exact restore_none l env0 _ fun j hj => h j (List.mem_cons_of_mem _ hj)
theorem loop_state {elt : En → Rs Ob} {Inv : Nat → En → Prop} {Q : PV → Prop} {N : Nat} : ∀ (ds acc : List PV) (i : Nat) (env : En), i + ds.length ≤ N → acc.length + ds.length ≤ lim → Inv i (wipeL env own) →
    (∀ i e d, i < N → d ∈ ds → Inv i (wipeL e own) → ∃ e1 o y e3, setTg (wipeL e own) tg d = some e1 ∧ elt e1 = .ok o e3 ∧ fzR o e3 = .ok y e3 ∧ Q y ∧ Inv (i + 1) (wipeL e3 own)) →
    ∃ ys e', loopL (turnL own tg (fun env => .ok true env) elt) ds acc env = .ok (acc ++ ys) e' ∧ ys.length = ds.length ∧ (∀ y ∈ ys, Q y) ∧ Inv (i + ds.length) (wipeL e' own)
  | [], acc, i, env, _, _, h0, _ => ⟨[], env, by rw [loopL, List.append_nil], rfl, by simp, h0⟩
  | d :: ds, acc, i, env, hN, hl, h0, h => by
    rw [List.length_cons] at hl hN
    obtain ⟨e1, o, y, e3, q1, q2, q3, q4, q5⟩ := h i env d (by omega) List.mem_cons_self h0
    obtain ⟨ys, e', r1, r2, r3, r4⟩ := loop_state (elt := elt) (Inv := Inv) (Q := Q) ds (acc ++ [y]) (i + 1) e3 (by omega) (by rw [List.length_append, List.length_singleton]; omega) q5 fun i e d hi hd => h i e d hi (List.mem_cons_of_mem _ hd)
    refine ⟨y :: ys, e', ?_, by simp [r2], ?_, ?_⟩
    · have hlt : acc.length < lim := by omega
      have t : turnL own tg (fun env => .ok true env) elt d acc env = .ok (acc ++ [y]) e3 := by
        unfold turnL
        rw [q1]
        simp only [Rs.bind_ok, if_true, q2, q3, if_pos hlt]
      rw [loopL, t]
      simp only [r1, List.append_assoc, List.cons_append, List.nil_append]
    · intro z hz
      rcases List.mem_cons.mp hz with e | hz
      · rw [e]; exact q4
      · exact r3 z hz
    · rw [List.length_cons, show i + (ds.length + 1) = i + 1 + ds.length by omega]; exact r4
theorem lc_state {it : IT} {elt : IE} {env env0 : En} {ds : List PV} {Inv : Nat → En → Prop} {Q : PV → Prop} (hlk : own.any (fun i => lk.contains i) = false) (hit : evIt cf lk it env = .ok ds env0) (hn : ∀ i ∈ own, env0[i]? = some none) (h0 : Inv 0 (wipeL env0 own)) (hl : ds.length ≤ lim)
    (h : ∀ i e d, i < ds.length → d ∈ ds → Inv i (wipeL e own) → ∃ e1 o y e3, setTg (wipeL e own) tg d = some e1 ∧ evE cf lk elt e1 = .ok o e3 ∧ fzR o e3 = .ok y e3 ∧ Q y ∧ Inv (i + 1) (wipeL e3 own)) :
    ∃ ys e', evE cf lk (.lc own tg it .nil elt) env = .ok (.ml ys) e' ∧ ys.length = ds.length ∧ (∀ y ∈ ys, Q y) ∧ Inv ds.length e' := by
  have hw : Inv 0 (wipeL (wipeL env0 own) own) := by rw [wipeL_idem]; exact h0
  obtain ⟨ys, e', r1, r2, r3, r4⟩ := loop_state (elt := fun env => evE cf lk elt env) (Inv := Inv) (Q := Q) (N := ds.length) ds [] 0 (wipeL env0 own) (by omega) (by simpa using hl) hw h
  refine ⟨ys, wipeL e' own, ?_, r2, r3, by rw [Nat.zero_add] at r4; exact r4⟩
  rw [y_lc, hlk, hit]
  simp only [Bool.false_eq_true, if_false, Rs.bind_ok]
  have e : (fun env => evK cf lk .nil env) = fun env => Rs.ok true env := by funext env; rw [y_k0]
  rw [e, r1]
  simp only [Rs.bind_ok, List.nil_append]
  rw [restore_none _ _ _ hn]
end
end Pv
-- PvK29a
set_option maxRecDepth 100000
namespace Pv
open PySem L2
section
variable {cf : Nat → List Ob → CR} {r : ISs} {e0 e1 e2 e3 e4 e5 e6 e7 e8 e9 e10 e11 e12 e13 e14 e15 e16 f0 f1 f2 f3 f4 f5 f6 f7 f8 f9 f10 f11 f12 f13 f14 f15 f16 : Option Ob}
theorem A17_2v {e : IE} {x : PV} (h : evE cf [0] e [e0, e1, e2, e3, e4, e5, e6, e7, e8, e9, e10, e11, e12, e13, e14, e15, e16] = .ok (.v x) [f0, f1, f2, f3, f4, f5, f6, f7, f8, f9, f10, f11, f12, f13, f14, f15, f16]) : evSs cf [0] (.cons (.asg true 2 e) r) [e0, e1, e2, e3, e4, e5, e6, e7, e8, e9, e10, e11, e12, e13, e14, e15, e16] = evSs cf [0] r [f0, f1, some (.v x), f3, f4, f5, f6, f7, f8, f9, f10, f11, f12, f13, f14, f15, f16] :=
  st_asg rfl h rfl
theorem A17_p3_4_5 {es : IEs} {o0 o1 o2 : Ob} (h : evO cf [0] es [e0, e1, e2, e3, e4, e5, e6, e7, e8, e9, e10, e11, e12, e13, e14, e15, e16] = .ok [o0, o1, o2] [f0, f1, f2, f3, f4, f5, f6, f7, f8, f9, f10, f11, f12, f13, f14, f15, f16]) : evSs cf [0] (.cons (.par [3, 4, 5] es) r) [e0, e1, e2, e3, e4, e5, e6, e7, e8, e9, e10, e11, e12, e13, e14, e15, e16] = evSs cf [0] r [f0, f1, f2, some o0, some o1, some o2, f6, f7, f8, f9, f10, f11, f12, f13, f14, f15, f16] :=
  st_par rfl h rfl
theorem A17_p3_4 {es : IEs} {o0 o1 : Ob} (h : evO cf [0] es [e0, e1, e2, e3, e4, e5, e6, e7, e8, e9, e10, e11, e12, e13, e14, e15, e16] = .ok [o0, o1] [f0, f1, f2, f3, f4, f5, f6, f7, f8, f9, f10, f11, f12, f13, f14, f15, f16]) : evSs cf [0] (.cons (.par [3, 4] es) r) [e0, e1, e2, e3, e4, e5, e6, e7, e8, e9, e10, e11, e12, e13, e14, e15, e16] = evSs cf [0] r [f0, f1, f2, some o0, some o1, f5, f6, f7, f8, f9, f10, f11, f12, f13, f14, f15, f16] :=
  st_par rfl h rfl
theorem A17_6v {e : IE} {x : PV} (h : evE cf [0] e [e0, e1, e2, e3, e4, e5, e6, e7, e8, e9, e10, e11, e12, e13, e14, e15, e16] = .ok (.v x) [f0, f1, f2, f3, f4, f5, f6, f7, f8, f9, f10, f11, f12, f13, f14, f15, f16]) : evSs cf [0] (.cons (.asg true 6 e) r) [e0, e1, e2, e3, e4, e5, e6, e7, e8, e9, e10, e11, e12, e13, e14, e15, e16] = evSs cf [0] r [f0, f1, f2, f3, f4, f5, some (.v x), f7, f8, f9, f10, f11, f12, f13, f14, f15, f16] :=
  st_asg rfl h rfl
theorem A17_7v {e : IE} {x : PV} (h : evE cf [0] e [e0, e1, e2, e3, e4, e5, e6, e7, e8, e9, e10, e11, e12, e13, e14, e15, e16] = .ok (.v x) [f0, f1, f2, f3, f4, f5, f6, f7, f8, f9, f10, f11, f12, f13, f14, f15, f16]) : evSs cf [0] (.cons (.asg true 7 e) r) [e0, e1, e2, e3, e4, e5, e6, e7, e8, e9, e10, e11, e12, e13, e14, e15, e16] = evSs cf [0] r [f0, f1, f2, f3, f4, f5, f6, some (.v x), f8, f9, f10, f11, f12, f13, f14, f15, f16] :=
  st_asg rfl h rfl
theorem A17_8m {e : IE} {x : List PV} (h : evE cf [0] e [e0, e1, e2, e3, e4, e5, e6, e7, e8, e9, e10, e11, e12, e13, e14, e15, e16] = .ok (.ml x) [f0, f1, f2, f3, f4, f5, f6, f7, f8, f9, f10, f11, f12, f13, f14, f15, f16]) : evSs cf [0] (.cons (.asg true 8 e) r) [e0, e1, e2, e3, e4, e5, e6, e7, e8, e9, e10, e11, e12, e13, e14, e15, e16] = evSs cf [0] r [f0, f1, f2, f3, f4, f5, f6, f7, some (.v (.list x)), f9, f10, f11, f12, f13, f14, f15, f16] :=
  st_asg rfl h rfl
theorem A17_11m {e : IE} {x : List PV} (h : evE cf [0] e [e0, e1, e2, e3, e4, e5, e6, e7, e8, e9, e10, e11, e12, e13, e14, e15, e16] = .ok (.ml x) [f0, f1, f2, f3, f4, f5, f6, f7, f8, f9, f10, f11, f12, f13, f14, f15, f16]) : evSs cf [0] (.cons (.asg true 11 e) r) [e0, e1, e2, e3, e4, e5, e6, e7, e8, e9, e10, e11, e12, e13, e14, e15, e16] = evSs cf [0] r [f0, f1, f2, f3, f4, f5, f6, f7, f8, f9, f10, some (.v (.list x)), f12, f13, f14, f15, f16] :=
  st_asg rfl h rfl
theorem A17_14v {e : IE} {x : PV} (h : evE cf [0] e [e0, e1, e2, e3, e4, e5, e6, e7, e8, e9, e10, e11, e12, e13, e14, e15, e16] = .ok (.v x) [f0, f1, f2, f3, f4, f5, f6, f7, f8, f9, f10, f11, f12, f13, f14, f15, f16]) : evSs cf [0] (.cons (.asg true 14 e) r) [e0, e1, e2, e3, e4, e5, e6, e7, e8, e9, e10, e11, e12, e13, e14, e15, e16] = evSs cf [0] r [f0, f1, f2, f3, f4, f5, f6, f7, f8, f9, f10, f11, f12, f13, some (.v x), f15, f16] :=
  st_asg rfl h rfl
theorem A17_16v {e : IE} {x : PV} (h : evE cf [0] e [e0, e1, e2, e3, e4, e5, e6, e7, e8, e9, e10, e11, e12, e13, e14, e15, e16] = .ok (.v x) [f0, f1, f2, f3, f4, f5, f6, f7, f8, f9, f10, f11, f12, f13, f14, f15, f16]) : evSs cf [0] (.cons (.asg true 16 e) r) [e0, e1, e2, e3, e4, e5, e6, e7, e8, e9, e10, e11, e12, e13, e14, e15, e16] = evSs cf [0] r [f0, f1, f2, f3, f4, f5, f6, f7, f8, f9, f10, f11, f12, f13, f14, f15, some (.v x)] :=
  st_asg rfl h rfl
theorem A17_13v {e : IE} {x : PV} (h : evE cf [0] e [e0, e1, e2, e3, e4, e5, e6, e7, e8, e9, e10, e11, e12, e13, e14, e15, e16] = .ok (.v x) [f0, f1, f2, f3, f4, f5, f6, f7, f8, f9, f10, f11, f12, f13, f14, f15, f16]) : evSs cf [0] (.cons (.asg true 13 e) r) [e0, e1, e2, e3, e4, e5, e6, e7, e8, e9, e10, e11, e12, e13, e14, e15, e16] = evSs cf [0] r [f0, f1, f2, f3, f4, f5, f6, f7, f8, f9, f10, f11, f12, some (.v x), f14, f15, f16] :=
  st_asg rfl h rfl
theorem A17_15v {e : IE} {x : PV} (h : evE cf [0] e [e0, e1, e2, e3, e4, e5, e6, e7, e8, e9, e10, e11, e12, e13, e14, e15, e16] = .ok (.v x) [f0, f1, f2, f3, f4, f5, f6, f7, f8, f9, f10, f11, f12, f13, f14, f15, f16]) : evSs cf [0] (.cons (.asg true 15 e) r) [e0, e1, e2, e3, e4, e5, e6, e7, e8, e9, e10, e11, e12, e13, e14, e15, e16] = evSs cf [0] r [f0, f1, f2, f3, f4, f5, f6, f7, f8, f9, f10, f11, f12, f13, f14, some (.v x), f16] :=
  st_asg rfl h rfl
theorem A17_p8_11 {es : IEs} {o0 o1 : Ob} (h : evO cf [0] es [e0, e1, e2, e3, e4, e5, e6, e7, e8, e9, e10, e11, e12, e13, e14, e15, e16] = .ok [o0, o1] [f0, f1, f2, f3, f4, f5, f6, f7, f8, f9, f10, f11, f12, f13, f14, f15, f16]) : evSs cf [0] (.cons (.par [8, 11] es) r) [e0, e1, e2, e3, e4, e5, e6, e7, e8, e9, e10, e11, e12, e13, e14, e15, e16] = evSs cf [0] r [f0, f1, f2, f3, f4, f5, f6, f7, some o0, f9, f10, some o1, f12, f13, f14, f15, f16] :=
  st_par rfl h rfl
end
section
variable {cf : Nat → List Ob → CR} {e0 e1 e2 e3 e4 e5 e6 e7 e8 e11 e12 e13 e14 e15 e16 : Option Ob} {L N A B C D X O h s0 s1 s2 : Int} {g d lf : List PV} {r : ISs}
theorem s29_1 (hs : shlf (.int 1) (.int L) = some (.v (.int N))) : evE cf [0] (.op .shl (.cons false (.c (.int 1)) (.cons false (.x 1) .nil))) [e0, some (.v (.int L)), e2, e3, e4, e5, e6, e7, e8, none, none, e11, e12, e13, e14, e15, e16] = .ok (.v (.int N)) [e0, some (.v (.int L)), e2, e3, e4, e5, e6, e7, e8, none, none, e11, e12, e13, e14, e15, e16] := by
  simp [hs, opf2]
theorem s29_2 {t0 t1 t2 t3 : List PV} {v1 v2 v3 : Int} (h1 : cf 24 [.ml t0, .v (.int N)] = .ret (.v (.int v1)) [.ml t1]) (h2 : cf 24 [.ml t1, .v (.int N)] = .ret (.v (.int v2)) [.ml t2]) (h3 : cf 24 [.ml t2, .v (.int N)] = .ret (.v (.int v3)) [.ml t3]) : evO cf [0] (.cons true (.op .add (.cons false (.c (.int 1)) (.cons false (.call 24 (.cons true (.x 0) (.cons false (.x 2) .nil))) .nil))) (.cons true (.op .add (.cons false (.c (.int 1)) (.cons false (.call 24 (.cons true (.x 0) (.cons false (.x 2) .nil))) .nil))) (.cons true (.op .add (.cons false (.c (.int 1)) (.cons false (.call 24 (.cons true (.x 0) (.cons false (.x 2) .nil))) .nil))) .nil))) [some (.ml t0), some (.v (.int L)), some (.v (.int N)), e3, e4, e5, e6, e7, e8, none, none, e11, e12, e13, e14, e15, e16] = .ok [.v (.int (1 + v1)), .v (.int (1 + v2)), .v (.int (1 + v3))] [some (.ml t3), some (.v (.int L)), some (.v (.int N)), e3, e4, e5, e6, e7, e8, none, none, e11, e12, e13, e14, e15, e16] := by
  simp [h1, h2, h3, opf2, addf, vI, handsOk, ioNames, putBack]
theorem s29_3c {t0 t1 : List PV} {v : Int} (h1 : cf 24 [.ml t0, .v (.int 3)] = .ret (.v (.int v)) [.ml t1]) : evT cf [0] (.op .eq (.cons false (.call 24 (.cons true (.x 0) (.cons false (.c (.int 3)) .nil))) (.cons false (.c (.int 0)) .nil))) [some (.ml t0), some (.v (.int L)), some (.v (.int N)), some (.v (.int A)), some (.v (.int B)), some (.v (.int C)), e6, e7, e8, none, none, e11, e12, e13, e14, e15, e16] = .ok (v == 0) [some (.ml t1), some (.v (.int L)), some (.v (.int N)), some (.v (.int A)), some (.v (.int B)), some (.v (.int C)), e6, e7, e8, none, none, e11, e12, e13, e14, e15, e16] := by
  simp [h1, opf2, cmpf, handsOk, ioNames, putBack]
theorem s29_3p {t0 t1 t2 : List PV} {v1 v2 m : Int} (hm : min2f (.int 20) (.int N) = some (.v (.int m))) (h1 : cf 24 [.ml t0, .v (.int m)] = .ret (.v (.int v1)) [.ml t1]) (h2 : cf 24 [.ml t1, .v (.int m)] = .ret (.v (.int v2)) [.ml t2]) : evO cf [0] (.cons true (.op .add (.cons false (.c (.int 1)) (.cons false (.call 24 (.cons true (.x 0) (.cons false (.op .min2 (.cons false (.c (.int 20)) (.cons false (.x 2) .nil))) .nil))) .nil))) (.cons true (.op .add (.cons false (.c (.int 1)) (.cons false (.call 24 (.cons true (.x 0) (.cons false (.op .min2 (.cons false (.c (.int 20)) (.cons false (.x 2) .nil))) .nil))) .nil))) .nil)) [some (.ml t0), some (.v (.int L)), some (.v (.int N)), some (.v (.int A)), some (.v (.int B)), some (.v (.int C)), e6, e7, e8, none, none, e11, e12, e13, e14, e15, e16] = .ok [.v (.int (1 + v1)), .v (.int (1 + v2))] [some (.ml t2), some (.v (.int L)), some (.v (.int N)), some (.v (.int A)), some (.v (.int B)), some (.v (.int C)), e6, e7, e8, none, none, e11, e12, e13, e14, e15, e16] := by
  simp [h1, h2, hm, opf2, addf, vI, handsOk, ioNames, putBack]
theorem s29_3y {t0 t1 t2 t3 : List PV} {A' B' v v1 v2 m : Int} (h0 : cf 24 [.ml t0, .v (.int 3)] = .ret (.v (.int v)) [.ml t1]) (hv : v = 0) (hm : min2f (.int 20) (.int N) = some (.v (.int m))) (h1 : cf 24 [.ml t1, .v (.int m)] = .ret (.v (.int v1)) [.ml t2]) (h2 : cf 24 [.ml t2, .v (.int m)] = .ret (.v (.int v2)) [.ml t3]) (ea : 1 + v1 = A') (eb : 1 + v2 = B') : evSs cf [0] (.cons (.ite (.op .eq (.cons false (.call 24 (.cons true (.x 0) (.cons false (.c (.int 3)) .nil))) (.cons false (.c (.int 0)) .nil))) (.cons (.par [3, 4] (.cons true (.op .add (.cons false (.c (.int 1)) (.cons false (.call 24 (.cons true (.x 0) (.cons false (.op .min2 (.cons false (.c (.int 20)) (.cons false (.x 2) .nil))) .nil))) .nil))) (.cons true (.op .add (.cons false (.c (.int 1)) (.cons false (.call 24 (.cons true (.x 0) (.cons false (.op .min2 (.cons false (.c (.int 20)) (.cons false (.x 2) .nil))) .nil))) .nil))) .nil))) .nil) .nil) r) [some (.ml t0), some (.v (.int L)), some (.v (.int N)), some (.v (.int A)), some (.v (.int B)), some (.v (.int C)), e6, e7, e8, none, none, e11, e12, e13, e14, e15, e16] = evSs cf [0] r [some (.ml t3), some (.v (.int L)), some (.v (.int N)), some (.v (.int A')), some (.v (.int B')), some (.v (.int C)), e6, e7, e8, none, none, e11, e12, e13, e14, e15, e16] := by
  have c := s29_3c (cf := cf) (e6 := e6) (e7 := e7) (e8 := e8) (e11 := e11) (e12 := e12) (e13 := e13) (e14 := e14) (e15 := e15) (e16 := e16) (L := L) (N := N) (A := A) (B := B) (C := C) h0
  rw [hv] at c
  rw [y_ss1, y_ifs, c, Rs.bind_ok, if_pos (by rfl), A17_p3_4 (s29_3p hm h1 h2), y_ss0, Rs.bind_ok, ea, eb]
theorem s29_3n {t0 t1 : List PV} {v : Int} (h0 : cf 24 [.ml t0, .v (.int 3)] = .ret (.v (.int v)) [.ml t1]) (hv : v ≠ 0) : evSs cf [0] (.cons (.ite (.op .eq (.cons false (.call 24 (.cons true (.x 0) (.cons false (.c (.int 3)) .nil))) (.cons false (.c (.int 0)) .nil))) (.cons (.par [3, 4] (.cons true (.op .add (.cons false (.c (.int 1)) (.cons false (.call 24 (.cons true (.x 0) (.cons false (.op .min2 (.cons false (.c (.int 20)) (.cons false (.x 2) .nil))) .nil))) .nil))) (.cons true (.op .add (.cons false (.c (.int 1)) (.cons false (.call 24 (.cons true (.x 0) (.cons false (.op .min2 (.cons false (.c (.int 20)) (.cons false (.x 2) .nil))) .nil))) .nil))) .nil))) .nil) .nil) r) [some (.ml t0), some (.v (.int L)), some (.v (.int N)), some (.v (.int A)), some (.v (.int B)), some (.v (.int C)), e6, e7, e8, none, none, e11, e12, e13, e14, e15, e16] = evSs cf [0] r [some (.ml t1), some (.v (.int L)), some (.v (.int N)), some (.v (.int A)), some (.v (.int B)), some (.v (.int C)), e6, e7, e8, none, none, e11, e12, e13, e14, e15, e16] := by
  have c := s29_3c (cf := cf) (e6 := e6) (e7 := e7) (e8 := e8) (e11 := e11) (e12 := e12) (e13 := e13) (e14 := e14) (e15 := e15) (e16 := e16) (L := L) (N := N) (A := A) (B := B) (C := C) h0
  rw [show (v == 0) = false by simpa using hv] at c
  exact st_skip c (y_ss0 ..)
theorem s29_4 (h1 : cf 13 [.v (.int L), .v (.int A), .v (.int B)] = .ret (.v (.int D)) []) : evE cf [0] (.call 13 (.cons false (.x 1) (.cons false (.x 3) (.cons false (.x 4) .nil)))) [e0, some (.v (.int L)), some (.v (.int N)), some (.v (.int A)), some (.v (.int B)), some (.v (.int C)), e6, e7, e8, none, none, e11, e12, e13, e14, e15, e16] = .ok (.v (.int D)) [e0, some (.v (.int L)), some (.v (.int N)), some (.v (.int A)), some (.v (.int B)), some (.v (.int C)), e6, e7, e8, none, none, e11, e12, e13, e14, e15, e16] := by
  simp [h1, handsOk, ioNames, putBack]
theorem s29_5 (h1 : cf 18 [.v (.int L), .v (.int A), .v (.int B), .v (.int C)] = .ret (.v (.tuple [.tuple [.int s0, .int s0], .tuple [.int s1, .int s1], .tuple [.int s2, .int s2], .tuple [.int D, .int D]])) []) : evE cf [0] (.call 18 (.cons false (.x 1) (.cons false (.x 3) (.cons false (.x 4) (.cons false (.x 5) .nil))))) [e0, some (.v (.int L)), some (.v (.int N)), some (.v (.int A)), some (.v (.int B)), some (.v (.int C)), some (.v (.int D)), e7, e8, none, none, e11, e12, e13, e14, e15, e16] = .ok (.v (.tuple [.tuple [.int s0, .int s0], .tuple [.int s1, .int s1], .tuple [.int s2, .int s2], .tuple [.int D, .int D]])) [e0, some (.v (.int L)), some (.v (.int N)), some (.v (.int A)), some (.v (.int B)), some (.v (.int C)), some (.v (.int D)), e7, e8, none, none, e11, e12, e13, e14, e15, e16] := by
  simp [h1, handsOk, ioNames, putBack]
theorem c29_lc : evE cf [0] (.lc [9, 10] (.inl [9, 10]) (.seq (.x 7)) .nil (.op .eq (.cons false (.x 9) (.cons false (.x 10) .nil)))) [e0, some (.v (.int L)), some (.v (.int N)), some (.v (.int A)), some (.v (.int B)), some (.v (.int C)), some (.v (.int D)), some (.v (.tuple [.tuple [.int s0, .int s0], .tuple [.int s1, .int s1], .tuple [.int s2, .int s2], .tuple [.int D, .int D]])), e8, none, none, e11, e12, e13, e14, e15, e16] = .ok (.ml [.bool true, .bool true, .bool true, .bool true]) [e0, some (.v (.int L)), some (.v (.int N)), some (.v (.int A)), some (.v (.int B)), some (.v (.int C)), some (.v (.int D)), some (.v (.tuple [.tuple [.int s0, .int s0], .tuple [.int s1, .int s1], .tuple [.int s2, .int s2], .tuple [.int D, .int D]])), e8, none, none, e11, e12, e13, e14, e15, e16] := by
  have q := lc_map (cf := cf) (lk := [0]) (own := [9, 10]) (tg := .inl [9, 10]) (it := .seq (.x 7)) (elt := .op .eq (.cons false (.x 9) (.cons false (.x 10) .nil))) (env := [e0, some (.v (.int L)), some (.v (.int N)), some (.v (.int A)), some (.v (.int B)), some (.v (.int C)), some (.v (.int D)), some (.v (.tuple [.tuple [.int s0, .int s0], .tuple [.int s1, .int s1], .tuple [.int s2, .int s2], .tuple [.int D, .int D]])), e8, none, none, e11, e12, e13, e14, e15, e16]) (env0 := [e0, some (.v (.int L)), some (.v (.int N)), some (.v (.int A)), some (.v (.int B)), some (.v (.int C)), some (.v (.int D)), some (.v (.tuple [.tuple [.int s0, .int s0], .tuple [.int s1, .int s1], .tuple [.int s2, .int s2], .tuple [.int D, .int D]])), e8, none, none, e11, e12, e13, e14, e15, e16]) (ds := [.tuple [.int s0, .int s0], .tuple [.int s1, .int s1], .tuple [.int s2, .int s2], .tuple [.int D, .int D]]) (fun _ => .bool true) (by simp) (by simp [itemsOf]) rfl (by simp) fun x hx => by
    obtain ⟨i, rfl⟩ : ∃ i : Int, x = .tuple [.int i, .int i] := by
      simp only [List.mem_cons, List.not_mem_nil, or_false] at hx
      rcases hx with rfl | rfl | rfl | rfl <;> exact ⟨_, rfl⟩
    exact ⟨[e0, some (.v (.int L)), some (.v (.int N)), some (.v (.int A)), some (.v (.int B)), some (.v (.int C)), some (.v (.int D)), some (.v (.tuple [.tuple [.int s0, .int s0], .tuple [.int s1, .int s1], .tuple [.int s2, .int s2], .tuple [.int D, .int D]])), e8, some (.v (.int i)), some (.v (.int i)), e11, e12, e13, e14, e15, e16], .v (.bool true), [e0, some (.v (.int L)), some (.v (.int N)), some (.v (.int A)), some (.v (.int B)), some (.v (.int C)), some (.v (.int D)), some (.v (.tuple [.tuple [.int s0, .int s0], .tuple [.int s1, .int s1], .tuple [.int s2, .int s2], .tuple [.int D, .int D]])), e8, some (.v (.int i)), some (.v (.int i)), e11, e12, e13, e14, e15, e16], rfl, by simp [opf2, cmpf, vB], rfl, rfl⟩
  exact q
theorem s29_6 {m p z : Int} (hm : modf (.int B) (.int N) = some (.v (.int m))) (h1 : cf 9 [.v (.int L), .v (.int A), .v (.int (m + 1))] = .ret (.v (.int p)) []) (h2 : modf (.int (p - 2)) (.int N) = some (.v (.int z))) : evE cf [0] (.lst (.cons false (.lc [9, 10] (.inl [9, 10]) (.seq (.x 7)) .nil (.op .eq (.cons false (.x 9) (.cons false (.x 10) .nil)))) (.cons false (.op .idx (.cons false (.op .idx (.cons false (.x 7) (.cons false (.c (.int 0)) .nil))) (.cons false (.c (.int 0)) .nil))) (.cons false (.op .idx (.cons false (.op .idx (.cons false (.x 7) (.cons false (.c (.int 1)) .nil))) (.cons false (.c (.int 0)) .nil))) (.cons false (.op .idx (.cons false (.op .idx (.cons false (.x 7) (.cons false (.c (.int 3)) .nil))) (.cons false (.c (.int 0)) .nil))) (.cons false (.op .add (.cons false (.op .mod (.cons false (.op .sub (.cons false (.call 9 (.cons false (.x 1) (.cons false (.x 3) (.cons false (.op .add (.cons false (.op .mod (.cons false (.x 4) (.cons false (.x 2) .nil))) (.cons false (.c (.int 1)) .nil))) .nil)))) (.cons false (.c (.int 2)) .nil))) (.cons false (.x 2) .nil))) (.cons false (.c (.int 1)) .nil))) .nil)))))) [e0, some (.v (.int L)), some (.v (.int N)), some (.v (.int A)), some (.v (.int B)), some (.v (.int C)), some (.v (.int D)), some (.v (.tuple [.tuple [.int s0, .int s0], .tuple [.int s1, .int s1], .tuple [.int s2, .int s2], .tuple [.int D, .int D]])), e8, none, none, e11, e12, e13, e14, e15, e16] = .ok (.ml [.list [.bool true, .bool true, .bool true, .bool true], .int s0, .int s1, .int D, .int (z + 1)]) [e0, some (.v (.int L)), some (.v (.int N)), some (.v (.int A)), some (.v (.int B)), some (.v (.int C)), some (.v (.int D)), some (.v (.tuple [.tuple [.int s0, .int s0], .tuple [.int s1, .int s1], .tuple [.int s2, .int s2], .tuple [.int D, .int D]])), e8, none, none, e11, e12, e13, e14, e15, e16] := by
  have c := c29_lc (cf := cf) (e0 := e0) (e8 := e8) (e11 := e11) (e12 := e12) (e13 := e13) (e14 := e14) (e15 := e15) (e16 := e16) (L := L) (N := N) (A := A) (B := B) (C := C) (D := D) (s0 := s0) (s1 := s1) (s2 := s2)
  have i0 : idxf (.tuple [.tuple [.int s0, .int s0], .tuple [.int s1, .int s1], .tuple [.int s2, .int s2], .tuple [.int D, .int D]]) (.int 0) = some (.v (.tuple [.int s0, .int s0])) := by simp [idxf, atI, ixN]
  have i1 : idxf (.tuple [.tuple [.int s0, .int s0], .tuple [.int s1, .int s1], .tuple [.int s2, .int s2], .tuple [.int D, .int D]]) (.int 1) = some (.v (.tuple [.int s1, .int s1])) := by simp [idxf, atI, ixN]
  have i3 : idxf (.tuple [.tuple [.int s0, .int s0], .tuple [.int s1, .int s1], .tuple [.int s2, .int s2], .tuple [.int D, .int D]]) (.int 3) = some (.v (.tuple [.int D, .int D])) := by simp [idxf, atI, ixN]
  have j0 : idxf (.tuple [.int s0, .int s0]) (.int 0) = some (.v (.int s0)) := by simp [idxf, atI, ixN]
  have j1 : idxf (.tuple [.int s1, .int s1]) (.int 0) = some (.v (.int s1)) := by simp [idxf, atI, ixN]
  have j3 : idxf (.tuple [.int D, .int D]) (.int 0) = some (.v (.int D)) := by simp [idxf, atI, ixN]
  simp [c, i0, i1, i3, j0, j1, j3, hm, h1, h2, opf2, addf, subf, vI, handsOk, ioNames, putBack]
theorem c29_mul : evE cf [0] (.op .mul (.cons false (.lst (.cons false (.c (.bool true)) .nil)) (.cons false (.c (.int 4)) .nil))) [e0, some (.v (.int L)), some (.v (.int N)), some (.v (.int A)), some (.v (.int B)), some (.v (.int C)), some (.v (.int D)), some (.v (.tuple [.tuple [.int s0, .int s0], .tuple [.int s1, .int s1], .tuple [.int s2, .int s2], .tuple [.int D, .int D]])), some (.v (.list g)), none, none, e11, e12, e13, e14, e15, e16] = .ok (.ml [.bool true, .bool true, .bool true, .bool true]) [e0, some (.v (.int L)), some (.v (.int N)), some (.v (.int A)), some (.v (.int B)), some (.v (.int C)), some (.v (.int D)), some (.v (.tuple [.tuple [.int s0, .int s0], .tuple [.int s1, .int s1], .tuple [.int s2, .int s2], .tuple [.int D, .int D]])), some (.v (.list g)), none, none, e11, e12, e13, e14, e15, e16] := by
  have m : mulf (.list [.bool true]) (.int 4) = some (.ml [.bool true, .bool true, .bool true, .bool true]) := by
    have h3 : decide (1 * 4 ≤ lim) = true := decide_eq_true (by rw [lim_nat]; omega)
    simp [mulf, h3]
  simp [m, opf2]
theorem s29_7 {q1 q2 : Int} (h1 : cf 13 [.v (.int L), .v (.int D), .v (.int C)] = .ret (.v (.int q1)) []) (h2 : cf 9 [.v (.int L), .v (.int D), .v (.int C)] = .ret (.v (.int q2)) []) : evE cf [0] (.lst (.cons false (.op .mul (.cons false (.lst (.cons false (.c (.bool true)) .nil)) (.cons false (.c (.int 4)) .nil))) (.cons false (.call 13 (.cons false (.x 1) (.cons false (.x 6) (.cons false (.x 5) .nil)))) (.cons false (.call 9 (.cons false (.x 1) (.cons false (.x 6) (.cons false (.x 5) .nil)))) (.cons false (.x 6) (.cons false (.x 6) .nil)))))) [e0, some (.v (.int L)), some (.v (.int N)), some (.v (.int A)), some (.v (.int B)), some (.v (.int C)), some (.v (.int D)), some (.v (.tuple [.tuple [.int s0, .int s0], .tuple [.int s1, .int s1], .tuple [.int s2, .int s2], .tuple [.int D, .int D]])), some (.v (.list g)), none, none, e11, e12, e13, e14, e15, e16] = .ok (.ml [.list [.bool true, .bool true, .bool true, .bool true], .int q1, .int q2, .int D, .int D]) [e0, some (.v (.int L)), some (.v (.int N)), some (.v (.int A)), some (.v (.int B)), some (.v (.int C)), some (.v (.int D)), some (.v (.tuple [.tuple [.int s0, .int s0], .tuple [.int s1, .int s1], .tuple [.int s2, .int s2], .tuple [.int D, .int D]])), some (.v (.list g)), none, none, e11, e12, e13, e14, e15, e16] := by
  have c := c29_mul (cf := cf) (e0 := e0) (e12 := e12) (e13 := e13) (e14 := e14) (e15 := e15) (e16 := e16) (e11 := e11) (L := L) (N := N) (A := A) (B := B) (C := C) (D := D) (s0 := s0) (s1 := s1) (s2 := s2) (g := g)
  simp [-y_op, y_op (o := .idx), c, h1, h2, handsOk, ioNames, putBack]
theorem f29_1 {t0 t1 : List PV} {v : Int} (h1 : cf 24 [.ml t0, .v (.int N)] = .ret (.v (.int v)) [.ml t1]) : evE cf [0] (.op .add (.cons false (.c (.int 1)) (.cons false (.call 24 (.cons true (.x 0) (.cons false (.x 2) .nil))) .nil))) [some (.ml t0), some (.v (.int L)), some (.v (.int N)), some (.v (.int A)), some (.v (.int B)), some (.v (.int C)), some (.v (.int D)), some (.v (.tuple [.tuple [.int s0, .int s0], .tuple [.int s1, .int s1], .tuple [.int s2, .int s2], .tuple [.int D, .int D]])), some (.v (.list g)), none, none, some (.v (.list d)), e12, e13, e14, e15, e16] = .ok (.v (.int (1 + v))) [some (.ml t1), some (.v (.int L)), some (.v (.int N)), some (.v (.int A)), some (.v (.int B)), some (.v (.int C)), some (.v (.int D)), some (.v (.tuple [.tuple [.int s0, .int s0], .tuple [.int s1, .int s1], .tuple [.int s2, .int s2], .tuple [.int D, .int D]])), some (.v (.list g)), none, none, some (.v (.list d)), e12, e13, e14, e15, e16] := by
  simp [h1, opf2, addf, vI, handsOk, ioNames, putBack]
theorem f29_2 {z y : Int} (h1 : cf 9 [.v (.int L), .v (.int D), .v (.int X)] = .ret (.v (.int z)) []) (h2 : cf 9 [.v (.int L), .v (.int B), .v (.int X)] = .ret (.v (.int y)) []) (h3 : cf 9 [.v (.int L), .v (.int A), .v (.int y)] = .ret (.v (.int z)) []) (hg : g.length + 1 ≤ 16777216) (hd : d.length + 1 ≤ 16777216) : evO cf [0] (.cons true (.op .add (.cons false (.x 8) (.cons false (.lst (.cons false (.call 9 (.cons false (.x 1) (.cons false (.x 6) (.cons false (.x 13) .nil)))) .nil)) .nil))) (.cons true (.op .add (.cons false (.x 11) (.cons false (.lst (.cons false (.call 9 (.cons false (.x 1) (.cons false (.x 3) (.cons false (.call 9 (.cons false (.x 1) (.cons false (.x 4) (.cons false (.x 13) .nil)))) .nil)))) .nil)) .nil))) .nil)) [e0, some (.v (.int L)), some (.v (.int N)), some (.v (.int A)), some (.v (.int B)), some (.v (.int C)), some (.v (.int D)), some (.v (.tuple [.tuple [.int s0, .int s0], .tuple [.int s1, .int s1], .tuple [.int s2, .int s2], .tuple [.int D, .int D]])), some (.v (.list g)), none, none, some (.v (.list d)), e12, some (.v (.int X)), e14, e15, e16] = .ok [.v (.list (g ++ [.int z])), .v (.list (d ++ [.int z]))] [e0, some (.v (.int L)), some (.v (.int N)), some (.v (.int A)), some (.v (.int B)), some (.v (.int C)), some (.v (.int D)), some (.v (.tuple [.tuple [.int s0, .int s0], .tuple [.int s1, .int s1], .tuple [.int s2, .int s2], .tuple [.int D, .int D]])), some (.v (.list g)), none, none, some (.v (.list d)), e12, some (.v (.int X)), e14, e15, e16] := by
  simp [h1, h2, h3, hg, hd, opf2, addf, handsOk, ioNames, putBack]
def b29 : ISs := (.cons (.asg true 13 (.op .add (.cons false (.c (.int 1)) (.cons false (.call 24 (.cons true (.x 0) (.cons false (.x 2) .nil))) .nil)))) (.cons (.par [8, 11] (.cons true (.op .add (.cons false (.x 8) (.cons false (.lst (.cons false (.call 9 (.cons false (.x 1) (.cons false (.x 6) (.cons false (.x 13) .nil)))) .nil)) .nil))) (.cons true (.op .add (.cons false (.x 11) (.cons false (.lst (.cons false (.call 9 (.cons false (.x 1) (.cons false (.x 3) (.cons false (.call 9 (.cons false (.x 1) (.cons false (.x 4) (.cons false (.x 13) .nil)))) .nil)))) .nil)) .nil))) .nil))) .nil))
theorem f29_turn {t0 t1 : List PV} {v z y J : Int} (h0 : cf 24 [.ml t0, .v (.int N)] = .ret (.v (.int v)) [.ml t1]) (hx : 1 + v = X) (h1 : cf 9 [.v (.int L), .v (.int D), .v (.int X)] = .ret (.v (.int z)) []) (h2 : cf 9 [.v (.int L), .v (.int B), .v (.int X)] = .ret (.v (.int y)) []) (h3 : cf 9 [.v (.int L), .v (.int A), .v (.int y)] = .ret (.v (.int z)) []) (hg : g.length + 1 ≤ 16777216) (hd : d.length + 1 ≤ 16777216) :
    forT cf [0] (.inr 12) b29 (.int J) [some (.ml t0), some (.v (.int L)), some (.v (.int N)), some (.v (.int A)), some (.v (.int B)), some (.v (.int C)), some (.v (.int D)), some (.v (.tuple [.tuple [.int s0, .int s0], .tuple [.int s1, .int s1], .tuple [.int s2, .int s2], .tuple [.int D, .int D]])), some (.v (.list g)), none, none, some (.v (.list d)), e12, e13, e14, e15, e16] = .ok .nx [some (.ml t1), some (.v (.int L)), some (.v (.int N)), some (.v (.int A)), some (.v (.int B)), some (.v (.int C)), some (.v (.int D)), some (.v (.tuple [.tuple [.int s0, .int s0], .tuple [.int s1, .int s1], .tuple [.int s2, .int s2], .tuple [.int D, .int D]])), some (.v (.list (g ++ [.int z]))), none, none, some (.v (.list (d ++ [.int z]))), some (.v (.int J)), some (.v (.int X)), e14, e15, e16] := by
  rw [forT]
  simp only [setTg, List.set]
  rw [b29, A17_13v (f29_1 h0), hx, A17_p8_11 (f29_2 h1 h2 h3 hg hd), y_ss0]
theorem f29_it : evIt cf [0] (.range (.cons false (.c (.int 2)) .nil)) [e0, some (.v (.int L)), some (.v (.int N)), some (.v (.int A)), some (.v (.int B)), some (.v (.int C)), some (.v (.int D)), some (.v (.tuple [.tuple [.int s0, .int s0], .tuple [.int s1, .int s1], .tuple [.int s2, .int s2], .tuple [.int D, .int D]])), some (.v (.list g)), none, none, some (.v (.list d)), e12, e13, e14, e15, e16] = .ok [.int 0, .int 1] [e0, some (.v (.int L)), some (.v (.int N)), some (.v (.int A)), some (.v (.int B)), some (.v (.int C)), some (.v (.int D)), some (.v (.tuple [.tuple [.int s0, .int s0], .tuple [.int s1, .int s1], .tuple [.int s2, .int s2], .tuple [.int D, .int D]])), some (.v (.list g)), none, none, some (.v (.list d)), e12, e13, e14, e15, e16] := by
  have c : evF cf [0] (.cons false (.c (.int 2)) .nil) [e0, some (.v (.int L)), some (.v (.int N)), some (.v (.int A)), some (.v (.int B)), some (.v (.int C)), some (.v (.int D)), some (.v (.tuple [.tuple [.int s0, .int s0], .tuple [.int s1, .int s1], .tuple [.int s2, .int s2], .tuple [.int D, .int D]])), some (.v (.list g)), none, none, some (.v (.list d)), e12, e13, e14, e15, e16] = .ok [.int 2] [e0, some (.v (.int L)), some (.v (.int N)), some (.v (.int A)), some (.v (.int B)), some (.v (.int C)), some (.v (.int D)), some (.v (.tuple [.tuple [.int s0, .int s0], .tuple [.int s1, .int s1], .tuple [.int s2, .int s2], .tuple [.int D, .int D]])), some (.v (.list g)), none, none, some (.v (.list d)), e12, e13, e14, e15, e16] := by simp
  rw [y_range, c, Rs.bind_ok, show rangeV [.int 2] = some [.int 0, .int 1] from rfl, optR_some]
theorem s29_9 {q1 q2 q3 q4 q5 : Int} {q6 : Bool} (hg : g.length + 6 ≤ 16777216) (h1 : cf 13 [.v (.int L), .v (.int N), .v (.int A)] = .ret (.v (.int q1)) []) (h2 : cf 13 [.v (.int L), .v (.int A), .v (.int N)] = .ret (.v (.int q2)) []) (h3 : cf 16 [.v (.int L), .v (.int A), .v (.int 1)] = .ret (.v (.int q3)) []) (h4 : cf 16 [.v (.int L), .v (.int A), .v (.int 2)] = .ret (.v (.int q4)) []) (h5 : cf 15 [.v (.int L), .v (.tuple [.int A, .int B, .int C])] = .ret (.v (.int q5)) []) (h6 : cf 17 [.v (.int L), .v (.int A), .v (.int B), .v (.int D)] = .ret (.v (.bool q6)) []) : evE cf [0] (.op .add (.cons false (.x 8) (.cons false (.lst (.cons false (.call 13 (.cons false (.x 1) (.cons false (.x 2) (.cons false (.x 3) .nil)))) (.cons false (.call 13 (.cons false (.x 1) (.cons false (.x 3) (.cons false (.x 2) .nil)))) (.cons false (.call 16 (.cons false (.x 1) (.cons false (.x 3) (.cons false (.c (.int 1)) .nil)))) (.cons false (.call 16 (.cons false (.x 1) (.cons false (.x 3) (.cons false (.c (.int 2)) .nil)))) (.cons false (.call 15 (.cons false (.x 1) (.cons false (.tup (.cons false (.x 3) (.cons false (.x 4) (.cons false (.x 5) .nil)))) .nil))) (.cons false (.call 17 (.cons false (.x 1) (.cons false (.x 3) (.cons false (.x 4) (.cons false (.x 6) .nil))))) .nil))))))) .nil))) [e0, some (.v (.int L)), some (.v (.int N)), some (.v (.int A)), some (.v (.int B)), some (.v (.int C)), some (.v (.int D)), some (.v (.tuple [.tuple [.int s0, .int s0], .tuple [.int s1, .int s1], .tuple [.int s2, .int s2], .tuple [.int D, .int D]])), some (.v (.list g)), none, none, some (.v (.list d)), e12, e13, e14, e15, e16] = .ok (.ml (g ++ [.int q1, .int q2, .int q3, .int q4, .int q5, .bool q6])) [e0, some (.v (.int L)), some (.v (.int N)), some (.v (.int A)), some (.v (.int B)), some (.v (.int C)), some (.v (.int D)), some (.v (.tuple [.tuple [.int s0, .int s0], .tuple [.int s1, .int s1], .tuple [.int s2, .int s2], .tuple [.int D, .int D]])), some (.v (.list g)), none, none, some (.v (.list d)), e12, e13, e14, e15, e16] := by
  simp [h1, h2, h3, h4, h5, h6, hg, opf2, addf, handsOk, ioNames, putBack]
theorem s29_10 {q : Int} (hd : d.length + 6 ≤ 16777216) (h1 : cf 13 [.v (.int L), .v (.int A), .v (.int A)] = .ret (.v (.int q)) []) : evE cf [0] (.op .add (.cons false (.x 11) (.cons false (.lst (.cons false (.x 3) (.cons false (.x 3) (.cons false (.x 3) (.cons false (.call 13 (.cons false (.x 1) (.cons false (.x 3) (.cons false (.x 3) .nil)))) (.cons false (.op .idx (.cons false (.op .idx (.cons false (.x 7) (.cons false (.c (.int 0)) .nil))) (.cons false (.c (.int 0)) .nil))) (.cons false (.c (.bool true)) .nil))))))) .nil))) [e0, some (.v (.int L)), some (.v (.int N)), some (.v (.int A)), some (.v (.int B)), some (.v (.int C)), some (.v (.int D)), some (.v (.tuple [.tuple [.int s0, .int s0], .tuple [.int s1, .int s1], .tuple [.int s2, .int s2], .tuple [.int D, .int D]])), some (.v (.list g)), none, none, some (.v (.list d)), e12, e13, e14, e15, e16] = .ok (.ml (d ++ [.int A, .int A, .int A, .int q, .int s0, .bool true])) [e0, some (.v (.int L)), some (.v (.int N)), some (.v (.int A)), some (.v (.int B)), some (.v (.int C)), some (.v (.int D)), some (.v (.tuple [.tuple [.int s0, .int s0], .tuple [.int s1, .int s1], .tuple [.int s2, .int s2], .tuple [.int D, .int D]])), some (.v (.list g)), none, none, some (.v (.list d)), e12, e13, e14, e15, e16] := by
  have i0 : idxf (.tuple [.tuple [.int s0, .int s0], .tuple [.int s1, .int s1], .tuple [.int s2, .int s2], .tuple [.int D, .int D]]) (.int 0) = some (.v (.tuple [.int s0, .int s0])) := by simp [idxf, atI, ixN]
  have j0 : idxf (.tuple [.int s0, .int s0]) (.int 0) = some (.v (.int s0)) := by simp [idxf, atI, ixN]
  simp [h1, i0, j0, hd, opf2, addf, handsOk, ioNames, putBack]
theorem s29_11 {m : Int} (h1 : modf (.int D) (.int N) = some (.v (.int m))) : evE cf [0] (.op .add (.cons false (.op .mod (.cons false (.x 6) (.cons false (.x 2) .nil))) (.cons false (.c (.int 1)) .nil))) [e0, some (.v (.int L)), some (.v (.int N)), some (.v (.int A)), some (.v (.int B)), some (.v (.int C)), some (.v (.int D)), some (.v (.tuple [.tuple [.int s0, .int s0], .tuple [.int s1, .int s1], .tuple [.int s2, .int s2], .tuple [.int D, .int D]])), some (.v (.list g)), none, none, some (.v (.list d)), e12, e13, e14, e15, e16] = .ok (.v (.int (m + 1))) [e0, some (.v (.int L)), some (.v (.int N)), some (.v (.int A)), some (.v (.int B)), some (.v (.int C)), some (.v (.int D)), some (.v (.tuple [.tuple [.int s0, .int s0], .tuple [.int s1, .int s1], .tuple [.int s2, .int s2], .tuple [.int D, .int D]])), some (.v (.list g)), none, none, some (.v (.list d)), e12, e13, e14, e15, e16] := by
  simp [h1, opf2, addf, vI]
theorem s29_12 (h1 : cf 17 [.v (.int L), .v (.int A), .v (.int B), .v (.int O)] = .ret (.v (.bool (O == D))) []) (hg : g.length + 1 ≤ 16777216) (hd : d.length + 1 ≤ 16777216) : evO cf [0] (.cons true (.op .add (.cons false (.x 8) (.cons false (.lst (.cons false (.call 17 (.cons false (.x 1) (.cons false (.x 3) (.cons false (.x 4) (.cons false (.x 14) .nil))))) .nil)) .nil))) (.cons true (.op .add (.cons false (.x 11) (.cons false (.lst (.cons false (.op .eq (.cons false (.x 14) (.cons false (.x 6) .nil))) .nil)) .nil))) .nil)) [e0, some (.v (.int L)), some (.v (.int N)), some (.v (.int A)), some (.v (.int B)), some (.v (.int C)), some (.v (.int D)), some (.v (.tuple [.tuple [.int s0, .int s0], .tuple [.int s1, .int s1], .tuple [.int s2, .int s2], .tuple [.int D, .int D]])), some (.v (.list g)), none, none, some (.v (.list d)), e12, e13, some (.v (.int O)), e15, e16] = .ok [.v (.list (g ++ [.bool (O == D)])), .v (.list (d ++ [.bool (O == D)]))] [e0, some (.v (.int L)), some (.v (.int N)), some (.v (.int A)), some (.v (.int B)), some (.v (.int C)), some (.v (.int D)), some (.v (.tuple [.tuple [.int s0, .int s0], .tuple [.int s1, .int s1], .tuple [.int s2, .int s2], .tuple [.int D, .int D]])), some (.v (.list g)), none, none, some (.v (.list d)), e12, e13, some (.v (.int O)), e15, e16] := by
  simp [h1, hg, hd, opf2, cmpf, vB, addf, handsOk, ioNames, putBack]
theorem s29_13a  : evE cf [0] (.op .sub (.cons false (.x 1) (.cons false (.c (.int 1)) .nil))) [e0, some (.v (.int L)), some (.v (.int N)), some (.v (.int A)), some (.v (.int B)), some (.v (.int C)), some (.v (.int D)), some (.v (.tuple [.tuple [.int s0, .int s0], .tuple [.int s1, .int s1], .tuple [.int s2, .int s2], .tuple [.int D, .int D]])), some (.v (.list g)), none, none, some (.v (.list d)), e12, e13, some (.v (.int O)), e15, e16] = .ok (.v (.int (L - 1))) [e0, some (.v (.int L)), some (.v (.int N)), some (.v (.int A)), some (.v (.int B)), some (.v (.int C)), some (.v (.int D)), some (.v (.tuple [.tuple [.int s0, .int s0], .tuple [.int s1, .int s1], .tuple [.int s2, .int s2], .tuple [.int D, .int D]])), some (.v (.list g)), none, none, some (.v (.list d)), e12, e13, some (.v (.int O)), e15, e16] := by
  simp [opf2, subf, vI]
theorem s29_13p {z la lb : Int} (h1 : cf 22 [.v (.int h), .v (.int D)] = .ret (.v (.int z)) []) (h2 : cf 22 [.v (.int h), .v (.int A)] = .ret (.v (.int la)) []) (h3 : cf 22 [.v (.int h), .v (.int B)] = .ret (.v (.int lb)) []) (h4 : cf 13 [.v (.int h), .v (.int la), .v (.int lb)] = .ret (.v (.int z)) []) (hg : g.length + 1 ≤ 16777216) (hd : d.length + 1 ≤ 16777216) : evO cf [0] (.cons true (.op .add (.cons false (.x 8) (.cons false (.lst (.cons false (.call 22 (.cons false (.x 15) (.cons false (.x 6) .nil))) .nil)) .nil))) (.cons true (.op .add (.cons false (.x 11) (.cons false (.lst (.cons false (.call 13 (.cons false (.x 15) (.cons false (.call 22 (.cons false (.x 15) (.cons false (.x 3) .nil))) (.cons false (.call 22 (.cons false (.x 15) (.cons false (.x 4) .nil))) .nil)))) .nil)) .nil))) .nil)) [e0, some (.v (.int L)), some (.v (.int N)), some (.v (.int A)), some (.v (.int B)), some (.v (.int C)), some (.v (.int D)), some (.v (.tuple [.tuple [.int s0, .int s0], .tuple [.int s1, .int s1], .tuple [.int s2, .int s2], .tuple [.int D, .int D]])), some (.v (.list g)), none, none, some (.v (.list d)), e12, e13, some (.v (.int O)), some (.v (.int h)), e16] = .ok [.v (.list (g ++ [.int z])), .v (.list (d ++ [.int z]))] [e0, some (.v (.int L)), some (.v (.int N)), some (.v (.int A)), some (.v (.int B)), some (.v (.int C)), some (.v (.int D)), some (.v (.tuple [.tuple [.int s0, .int s0], .tuple [.int s1, .int s1], .tuple [.int s2, .int s2], .tuple [.int D, .int D]])), some (.v (.list g)), none, none, some (.v (.list d)), e12, e13, some (.v (.int O)), some (.v (.int h)), e16] := by
  simp [h1, h2, h3, h4, hg, hd, opf2, addf, handsOk, ioNames, putBack]
theorem s29_13c : evT cf [0] (.op .gt (.cons false (.x 1) (.cons false (.c (.int 0)) .nil))) [e0, some (.v (.int L)), some (.v (.int N)), some (.v (.int A)), some (.v (.int B)), some (.v (.int C)), some (.v (.int D)), some (.v (.tuple [.tuple [.int s0, .int s0], .tuple [.int s1, .int s1], .tuple [.int s2, .int s2], .tuple [.int D, .int D]])), some (.v (.list g)), none, none, some (.v (.list d)), e12, e13, some (.v (.int O)), e15, e16] = .ok (decide (0 < L)) [e0, some (.v (.int L)), some (.v (.int N)), some (.v (.int A)), some (.v (.int B)), some (.v (.int C)), some (.v (.int D)), some (.v (.tuple [.tuple [.int s0, .int s0], .tuple [.int s1, .int s1], .tuple [.int s2, .int s2], .tuple [.int D, .int D]])), some (.v (.list g)), none, none, some (.v (.list d)), e12, e13, some (.v (.int O)), e15, e16] := by
  simp [opf2, cmpf, gtf]
theorem s29_13y {z la lb : Int} (hL : 0 < L) (hh : L - 1 = h) (h1 : cf 22 [.v (.int h), .v (.int D)] = .ret (.v (.int z)) []) (h2 : cf 22 [.v (.int h), .v (.int A)] = .ret (.v (.int la)) []) (h3 : cf 22 [.v (.int h), .v (.int B)] = .ret (.v (.int lb)) []) (h4 : cf 13 [.v (.int h), .v (.int la), .v (.int lb)] = .ret (.v (.int z)) []) (hg : g.length + 1 ≤ 16777216) (hd : d.length + 1 ≤ 16777216) : evSs cf [0] (.cons (.ite (.op .gt (.cons false (.x 1) (.cons false (.c (.int 0)) .nil))) (.cons (.asg true 15 (.op .sub (.cons false (.x 1) (.cons false (.c (.int 1)) .nil)))) (.cons (.par [8, 11] (.cons true (.op .add (.cons false (.x 8) (.cons false (.lst (.cons false (.call 22 (.cons false (.x 15) (.cons false (.x 6) .nil))) .nil)) .nil))) (.cons true (.op .add (.cons false (.x 11) (.cons false (.lst (.cons false (.call 13 (.cons false (.x 15) (.cons false (.call 22 (.cons false (.x 15) (.cons false (.x 3) .nil))) (.cons false (.call 22 (.cons false (.x 15) (.cons false (.x 4) .nil))) .nil)))) .nil)) .nil))) .nil))) .nil)) .nil) r) [e0, some (.v (.int L)), some (.v (.int N)), some (.v (.int A)), some (.v (.int B)), some (.v (.int C)), some (.v (.int D)), some (.v (.tuple [.tuple [.int s0, .int s0], .tuple [.int s1, .int s1], .tuple [.int s2, .int s2], .tuple [.int D, .int D]])), some (.v (.list g)), none, none, some (.v (.list d)), e12, e13, some (.v (.int O)), e15, e16] = evSs cf [0] r [e0, some (.v (.int L)), some (.v (.int N)), some (.v (.int A)), some (.v (.int B)), some (.v (.int C)), some (.v (.int D)), some (.v (.tuple [.tuple [.int s0, .int s0], .tuple [.int s1, .int s1], .tuple [.int s2, .int s2], .tuple [.int D, .int D]])), some (.v (.list (g ++ [.int z]))), none, none, some (.v (.list (d ++ [.int z]))), e12, e13, some (.v (.int O)), some (.v (.int h)), e16] := by
  rw [y_ss1, y_ifs, s29_13c, Rs.bind_ok, if_pos (by simpa using hL), A17_15v s29_13a, hh, A17_p8_11 (s29_13p h1 h2 h3 h4 hg hd), y_ss0, Rs.bind_ok]
theorem s29_13n (hL : ¬ 0 < L) : evSs cf [0] (.cons (.ite (.op .gt (.cons false (.x 1) (.cons false (.c (.int 0)) .nil))) (.cons (.asg true 15 (.op .sub (.cons false (.x 1) (.cons false (.c (.int 1)) .nil)))) (.cons (.par [8, 11] (.cons true (.op .add (.cons false (.x 8) (.cons false (.lst (.cons false (.call 22 (.cons false (.x 15) (.cons false (.x 6) .nil))) .nil)) .nil))) (.cons true (.op .add (.cons false (.x 11) (.cons false (.lst (.cons false (.call 13 (.cons false (.x 15) (.cons false (.call 22 (.cons false (.x 15) (.cons false (.x 3) .nil))) (.cons false (.call 22 (.cons false (.x 15) (.cons false (.x 4) .nil))) .nil)))) .nil)) .nil))) .nil))) .nil)) .nil) r) [e0, some (.v (.int L)), some (.v (.int N)), some (.v (.int A)), some (.v (.int B)), some (.v (.int C)), some (.v (.int D)), some (.v (.tuple [.tuple [.int s0, .int s0], .tuple [.int s1, .int s1], .tuple [.int s2, .int s2], .tuple [.int D, .int D]])), some (.v (.list g)), none, none, some (.v (.list d)), e12, e13, some (.v (.int O)), e15, e16] = evSs cf [0] r [e0, some (.v (.int L)), some (.v (.int N)), some (.v (.int A)), some (.v (.int B)), some (.v (.int C)), some (.v (.int D)), some (.v (.tuple [.tuple [.int s0, .int s0], .tuple [.int s1, .int s1], .tuple [.int s2, .int s2], .tuple [.int D, .int D]])), some (.v (.list g)), none, none, some (.v (.list d)), e12, e13, some (.v (.int O)), e15, e16] := by
  have c := s29_13c (cf := cf) (e0 := e0) (e12 := e12) (e13 := e13) (e15 := e15) (e16 := e16) (L := L) (N := N) (A := A) (B := B) (C := C) (D := D) (O := O) (s0 := s0) (s1 := s1) (s2 := s2) (g := g) (d := d)
  rw [show decide (0 < L) = false from decide_eq_false hL] at c
  exact st_skip c (y_ss0 ..)
theorem s29_14 (h1 : cf 19 [.v (.int L), .v (.int A)] = .ret (.v (.tuple lf)) []) : evE cf [0] (.call 19 (.cons false (.x 1) (.cons false (.x 3) .nil))) [e0, some (.v (.int L)), some (.v (.int N)), some (.v (.int A)), some (.v (.int B)), some (.v (.int C)), some (.v (.int D)), some (.v (.tuple [.tuple [.int s0, .int s0], .tuple [.int s1, .int s1], .tuple [.int s2, .int s2], .tuple [.int D, .int D]])), some (.v (.list g)), none, none, some (.v (.list d)), e12, e13, some (.v (.int O)), e15, e16] = .ok (.v (.tuple lf)) [e0, some (.v (.int L)), some (.v (.int N)), some (.v (.int A)), some (.v (.int B)), some (.v (.int C)), some (.v (.int D)), some (.v (.tuple [.tuple [.int s0, .int s0], .tuple [.int s1, .int s1], .tuple [.int s2, .int s2], .tuple [.int D, .int D]])), some (.v (.list g)), none, none, some (.v (.list d)), e12, e13, some (.v (.int O)), e15, e16] := by
  simp [h1, handsOk, ioNames, putBack]
theorem s29_15 {M : Int} (h1 : cf 26 [.v (.list g), .v (.list d)] = .ret (.v (.bool true)) []) (h2 : inf (.int N) (.tuple lf) = some true) (h3 : lenf (.tuple lf) = some (.v (.int M))) (h4 : (A == N) = (M == N)) : evE cf [0] (.and (.call 26 (.cons false (.x 8) (.cons false (.x 11) .nil))) (.and (.op .isin (.cons false (.x 2) (.cons false (.x 16) .nil))) (.op .eq (.cons false (.op .eq (.cons false (.x 3) (.cons false (.x 2) .nil))) (.cons false (.op .eq (.cons false (.op .len (.cons false (.x 16) .nil)) (.cons false (.x 2) .nil))) .nil))))) [e0, some (.v (.int L)), some (.v (.int N)), some (.v (.int A)), some (.v (.int B)), some (.v (.int C)), some (.v (.int D)), some (.v (.tuple [.tuple [.int s0, .int s0], .tuple [.int s1, .int s1], .tuple [.int s2, .int s2], .tuple [.int D, .int D]])), some (.v (.list g)), none, none, some (.v (.list d)), e12, e13, some (.v (.int O)), e15, some (.v (.tuple lf))] = .ok (.v (.bool true)) [e0, some (.v (.int L)), some (.v (.int N)), some (.v (.int A)), some (.v (.int B)), some (.v (.int C)), some (.v (.int D)), some (.v (.tuple [.tuple [.int s0, .int s0], .tuple [.int s1, .int s1], .tuple [.int s2, .int s2], .tuple [.int D, .int D]])), some (.v (.list g)), none, none, some (.v (.list d)), e12, e13, some (.v (.int O)), e15, some (.v (.tuple lf))] := by
  simp [h1, h2, h3, h4, opf1, opf2, cmpf, vB, eqf_bb, handsOk, ioNames, putBack]
end
section
variable {cf : Nat → List Ob → CR} {r : ISs} {e0 e1 e2 e3 e4 e5 e6 e7 e8 e9 f0 f1 f2 f3 f4 f5 f6 f7 f8 f9 : Option Ob}
theorem A10_2v {e : IE} {x : PV} (h : evE cf [0] e [e0, e1, e2, e3, e4, e5, e6, e7, e8, e9] = .ok (.v x) [f0, f1, f2, f3, f4, f5, f6, f7, f8, f9]) : evSs cf [0] (.cons (.asg true 2 e) r) [e0, e1, e2, e3, e4, e5, e6, e7, e8, e9] = evSs cf [0] r [f0, f1, some (.v x), f3, f4, f5, f6, f7, f8, f9] :=
  st_asg rfl h rfl
theorem A10_p3_4_5 {es : IEs} {o0 o1 o2 : Ob} (h : evO cf [0] es [e0, e1, e2, e3, e4, e5, e6, e7, e8, e9] = .ok [o0, o1, o2] [f0, f1, f2, f3, f4, f5, f6, f7, f8, f9]) : evSs cf [0] (.cons (.par [3, 4, 5] es) r) [e0, e1, e2, e3, e4, e5, e6, e7, e8, e9] = evSs cf [0] r [f0, f1, f2, some o0, some o1, some o2, f6, f7, f8, f9] :=
  st_par rfl h rfl
theorem A10_6v {e : IE} {x : PV} (h : evE cf [0] e [e0, e1, e2, e3, e4, e5, e6, e7, e8, e9] = .ok (.v x) [f0, f1, f2, f3, f4, f5, f6, f7, f8, f9]) : evSs cf [0] (.cons (.asg true 6 e) r) [e0, e1, e2, e3, e4, e5, e6, e7, e8, e9] = evSs cf [0] r [f0, f1, f2, f3, f4, f5, some (.v x), f7, f8, f9] :=
  st_asg rfl h rfl
theorem A10_8v {e : IE} {x : PV} (h : evE cf [0] e [e0, e1, e2, e3, e4, e5, e6, e7, e8, e9] = .ok (.v x) [f0, f1, f2, f3, f4, f5, f6, f7, f8, f9]) : evSs cf [0] (.cons (.asg true 8 e) r) [e0, e1, e2, e3, e4, e5, e6, e7, e8, e9] = evSs cf [0] r [f0, f1, f2, f3, f4, f5, f6, f7, some (.v x), f9] :=
  st_asg rfl h rfl
theorem A10_9v {e : IE} {x : PV} (h : evE cf [0] e [e0, e1, e2, e3, e4, e5, e6, e7, e8, e9] = .ok (.v x) [f0, f1, f2, f3, f4, f5, f6, f7, f8, f9]) : evSs cf [0] (.cons (.asg true 9 e) r) [e0, e1, e2, e3, e4, e5, e6, e7, e8, e9] = evSs cf [0] r [f0, f1, f2, f3, f4, f5, f6, f7, f8, some (.v x)] :=
  st_asg rfl h rfl
end
section
variable {cf : Nat → List Ob → CR} {e0 e1 e2 e3 e4 e5 e6 e7 e8 e9 : Option Ob} {L N A B C D H : Int} {row : List PV}
theorem o29_1 (hs : shlf (.int 1) (.int L) = some (.v (.int N))) : evE cf [0] (.op .shl (.cons false (.c (.int 1)) (.cons false (.x 1) .nil))) [e0, some (.v (.int L)), e2, e3, e4, e5, e6, e7, e8, e9] = .ok (.v (.int N)) [e0, some (.v (.int L)), e2, e3, e4, e5, e6, e7, e8, e9] := by
  simp [hs, opf2]
theorem o29_2 {t0 t1 t2 t3 : List PV} {v1 v2 v3 : Int} (h1 : cf 24 [.ml t0, .v (.int N)] = .ret (.v (.int v1)) [.ml t1]) (h2 : cf 24 [.ml t1, .v (.int N)] = .ret (.v (.int v2)) [.ml t2]) (h3 : cf 24 [.ml t2, .v (.int 6)] = .ret (.v (.int v3)) [.ml t3]) : evO cf [0] (.cons true (.op .add (.cons false (.c (.int 1)) (.cons false (.call 24 (.cons true (.x 0) (.cons false (.x 2) .nil))) .nil))) (.cons true (.op .add (.cons false (.c (.int 1)) (.cons false (.call 24 (.cons true (.x 0) (.cons false (.x 2) .nil))) .nil))) (.cons true (.op .add (.cons false (.c (.int 2)) (.cons false (.call 24 (.cons true (.x 0) (.cons false (.c (.int 6)) .nil))) .nil))) .nil))) [some (.ml t0), some (.v (.int L)), some (.v (.int N)), e3, e4, e5, e6, e7, e8, e9] = .ok [.v (.int (1 + v1)), .v (.int (1 + v2)), .v (.int (2 + v3))] [some (.ml t3), some (.v (.int L)), some (.v (.int N)), e3, e4, e5, e6, e7, e8, e9] := by
  simp [h1, h2, h3, opf2, addf, vI, handsOk, ioNames, putBack]
theorem o29_3  : evE cf [0] (.x 4) [e0, some (.v (.int L)), some (.v (.int N)), some (.v (.int A)), some (.v (.int B)), some (.v (.int C)), e6, e7, e8, e9] = .ok (.v (.int B)) [e0, some (.v (.int L)), some (.v (.int N)), some (.v (.int A)), some (.v (.int B)), some (.v (.int C)), e6, e7, e8, e9] := by
  simp [y_x]
def ob29 : ISs := (.cons (.asg true 6 (.call 9 (.cons false (.x 1) (.cons false (.x 3) (.cons false (.x 6) .nil))))) .nil)
theorem of29_turn {X Z : Int} (h : cf 9 [.v (.int L), .v (.int A), .v (.int H)] = .ret (.v (.int Z)) []) : forT cf [0] (.inr 7) ob29 (.int X) [e0, some (.v (.int L)), some (.v (.int N)), some (.v (.int A)), some (.v (.int B)), some (.v (.int C)), some (.v (.int H)), e7, e8, e9] = .ok .nx [e0, some (.v (.int L)), some (.v (.int N)), some (.v (.int A)), some (.v (.int B)), some (.v (.int C)), some (.v (.int Z)), some (.v (.int X)), e8, e9] := by
  simp [forT, setTg, ob29, free, h, handsOk, ioNames, putBack]
theorem of29_it {n : Nat} (hC : C = n) (hn : n ≤ 100000) : evIt cf [0] (.range (.cons false (.x 5) .nil)) [e0, some (.v (.int L)), some (.v (.int N)), some (.v (.int A)), some (.v (.int B)), some (.v (.int C)), some (.v (.int H)), e7, e8, e9] = .ok (rangeL 0 n 1) [e0, some (.v (.int L)), some (.v (.int N)), some (.v (.int A)), some (.v (.int B)), some (.v (.int C)), some (.v (.int H)), e7, e8, e9] := by
  have c : evF cf [0] (.cons false (.x 5) .nil) [e0, some (.v (.int L)), some (.v (.int N)), some (.v (.int A)), some (.v (.int B)), some (.v (.int C)), some (.v (.int H)), e7, e8, e9] = .ok [.int C] [e0, some (.v (.int L)), some (.v (.int N)), some (.v (.int A)), some (.v (.int B)), some (.v (.int C)), some (.v (.int H)), e7, e8, e9] := by simp
  rw [y_range, c, Rs.bind_ok, hC, range_up hn, optR_some]
theorem o29_5 (h1 : cf 16 [.v (.int L), .v (.int A), .v (.int C)] = .ret (.v (.int D)) []) : evE cf [0] (.call 16 (.cons false (.x 1) (.cons false (.x 3) (.cons false (.x 5) .nil)))) [e0, some (.v (.int L)), some (.v (.int N)), some (.v (.int A)), some (.v (.int B)), some (.v (.int C)), some (.v (.int H)), e7, e8, e9] = .ok (.v (.int D)) [e0, some (.v (.int L)), some (.v (.int N)), some (.v (.int A)), some (.v (.int B)), some (.v (.int C)), some (.v (.int H)), e7, e8, e9] := by
  simp [h1, handsOk, ioNames, putBack]
theorem o29_6 (h1 : cf 10 [.v (.int L), .v (.int D)] = .ret (.v (.tuple row)) []) : evE cf [0] (.call 10 (.cons false (.x 1) (.cons false (.x 8) .nil))) [e0, some (.v (.int L)), some (.v (.int N)), some (.v (.int A)), some (.v (.int B)), some (.v (.int C)), some (.v (.int H)), e7, some (.v (.int D)), e9] = .ok (.v (.tuple row)) [e0, some (.v (.int L)), some (.v (.int N)), some (.v (.int A)), some (.v (.int B)), some (.v (.int C)), some (.v (.int H)), e7, some (.v (.int D)), e9] := by
  simp [h1, handsOk, ioNames, putBack]
theorem o29_7 {q2 : Int} (h1 : cf 9 [.v (.int L), .v (.int D), .v (.int B)] = .ret (.v (.int H)) []) (h2 : cf 11 [.v (.int L), .v (.int D)] = .ret (.v (.int q2)) []) (h3 : idxf (.tuple row) (.int (-1)) = some (.v (.int N))) (h4 : lenf (.tuple row) = some (.v (.int q2))) (h5 : cf 26 [.v (.list [.int H, .int q2, .int N]), .v (.list [.int H, .int q2, .int N])] = .ret (.v (.bool true)) []) : evE cf [0] (.call 26 (.cons false (.lst (.cons false (.call 9 (.cons false (.x 1) (.cons false (.x 8) (.cons false (.x 4) .nil)))) (.cons false (.call 11 (.cons false (.x 1) (.cons false (.x 8) .nil))) (.cons false (.op .idx (.cons false (.x 9) (.cons false (.op .neg (.cons false (.c (.int 1)) .nil)) .nil))) .nil)))) (.cons false (.lst (.cons false (.x 6) (.cons false (.op .len (.cons false (.x 9) .nil)) (.cons false (.x 2) .nil)))) .nil))) [e0, some (.v (.int L)), some (.v (.int N)), some (.v (.int A)), some (.v (.int B)), some (.v (.int C)), some (.v (.int H)), e7, some (.v (.int D)), some (.v (.tuple row))] = .ok (.v (.bool true)) [e0, some (.v (.int L)), some (.v (.int N)), some (.v (.int A)), some (.v (.int B)), some (.v (.int C)), some (.v (.int H)), e7, some (.v (.int D)), some (.v (.tuple row))] := by
  simp [h1, h2, h3, h4, h5, opf1, opf2, negf, vI, handsOk, ioNames, putBack]
end
end Pv
-- PvK29b
set_option maxRecDepth 100000
namespace Pv
open PySem L2
def rest29 : ISs := (.cons (.asg true 6 (.call 13 (.cons false (.x 1) (.cons false (.x 3) (.cons false (.x 4) .nil))))) (.cons (.asg true 7 (.call 18 (.cons false (.x 1) (.cons false (.x 3) (.cons false (.x 4) (.cons false (.x 5) .nil)))))) (.cons (.asg true 8 (.lst (.cons false (.lc [9, 10] (.inl [9, 10]) (.seq (.x 7)) .nil (.op .eq (.cons false (.x 9) (.cons false (.x 10) .nil)))) (.cons false (.op .idx (.cons false (.op .idx (.cons false (.x 7) (.cons false (.c (.int 0)) .nil))) (.cons false (.c (.int 0)) .nil))) (.cons false (.op .idx (.cons false (.op .idx (.cons false (.x 7) (.cons false (.c (.int 1)) .nil))) (.cons false (.c (.int 0)) .nil))) (.cons false (.op .idx (.cons false (.op .idx (.cons false (.x 7) (.cons false (.c (.int 3)) .nil))) (.cons false (.c (.int 0)) .nil))) (.cons false (.op .add (.cons false (.op .mod (.cons false (.op .sub (.cons false (.call 9 (.cons false (.x 1) (.cons false (.x 3) (.cons false (.op .add (.cons false (.op .mod (.cons false (.x 4) (.cons false (.x 2) .nil))) (.cons false (.c (.int 1)) .nil))) .nil)))) (.cons false (.c (.int 2)) .nil))) (.cons false (.x 2) .nil))) (.cons false (.c (.int 1)) .nil))) .nil))))))) (.cons (.asg true 11 (.lst (.cons false (.op .mul (.cons false (.lst (.cons false (.c (.bool true)) .nil)) (.cons false (.c (.int 4)) .nil))) (.cons false (.call 13 (.cons false (.x 1) (.cons false (.x 6) (.cons false (.x 5) .nil)))) (.cons false (.call 9 (.cons false (.x 1) (.cons false (.x 6) (.cons false (.x 5) .nil)))) (.cons false (.x 6) (.cons false (.x 6) .nil))))))) (.cons (.for_ (.inr 12) (.range (.cons false (.c (.int 2)) .nil)) (.cons (.asg true 13 (.op .add (.cons false (.c (.int 1)) (.cons false (.call 24 (.cons true (.x 0) (.cons false (.x 2) .nil))) .nil)))) (.cons (.par [8, 11] (.cons true (.op .add (.cons false (.x 8) (.cons false (.lst (.cons false (.call 9 (.cons false (.x 1) (.cons false (.x 6) (.cons false (.x 13) .nil)))) .nil)) .nil))) (.cons true (.op .add (.cons false (.x 11) (.cons false (.lst (.cons false (.call 9 (.cons false (.x 1) (.cons false (.x 3) (.cons false (.call 9 (.cons false (.x 1) (.cons false (.x 4) (.cons false (.x 13) .nil)))) .nil)))) .nil)) .nil))) .nil))) .nil))) (.cons (.asg true 8 (.op .add (.cons false (.x 8) (.cons false (.lst (.cons false (.call 13 (.cons false (.x 1) (.cons false (.x 2) (.cons false (.x 3) .nil)))) (.cons false (.call 13 (.cons false (.x 1) (.cons false (.x 3) (.cons false (.x 2) .nil)))) (.cons false (.call 16 (.cons false (.x 1) (.cons false (.x 3) (.cons false (.c (.int 1)) .nil)))) (.cons false (.call 16 (.cons false (.x 1) (.cons false (.x 3) (.cons false (.c (.int 2)) .nil)))) (.cons false (.call 15 (.cons false (.x 1) (.cons false (.tup (.cons false (.x 3) (.cons false (.x 4) (.cons false (.x 5) .nil)))) .nil))) (.cons false (.call 17 (.cons false (.x 1) (.cons false (.x 3) (.cons false (.x 4) (.cons false (.x 6) .nil))))) .nil))))))) .nil)))) (.cons (.asg true 11 (.op .add (.cons false (.x 11) (.cons false (.lst (.cons false (.x 3) (.cons false (.x 3) (.cons false (.x 3) (.cons false (.call 13 (.cons false (.x 1) (.cons false (.x 3) (.cons false (.x 3) .nil)))) (.cons false (.op .idx (.cons false (.op .idx (.cons false (.x 7) (.cons false (.c (.int 0)) .nil))) (.cons false (.c (.int 0)) .nil))) (.cons false (.c (.bool true)) .nil))))))) .nil)))) (.cons (.asg true 14 (.op .add (.cons false (.op .mod (.cons false (.x 6) (.cons false (.x 2) .nil))) (.cons false (.c (.int 1)) .nil)))) (.cons (.par [8, 11] (.cons true (.op .add (.cons false (.x 8) (.cons false (.lst (.cons false (.call 17 (.cons false (.x 1) (.cons false (.x 3) (.cons false (.x 4) (.cons false (.x 14) .nil))))) .nil)) .nil))) (.cons true (.op .add (.cons false (.x 11) (.cons false (.lst (.cons false (.op .eq (.cons false (.x 14) (.cons false (.x 6) .nil))) .nil)) .nil))) .nil))) (.cons (.ite (.op .gt (.cons false (.x 1) (.cons false (.c (.int 0)) .nil))) (.cons (.asg true 15 (.op .sub (.cons false (.x 1) (.cons false (.c (.int 1)) .nil)))) (.cons (.par [8, 11] (.cons true (.op .add (.cons false (.x 8) (.cons false (.lst (.cons false (.call 22 (.cons false (.x 15) (.cons false (.x 6) .nil))) .nil)) .nil))) (.cons true (.op .add (.cons false (.x 11) (.cons false (.lst (.cons false (.call 13 (.cons false (.x 15) (.cons false (.call 22 (.cons false (.x 15) (.cons false (.x 3) .nil))) (.cons false (.call 22 (.cons false (.x 15) (.cons false (.x 4) .nil))) .nil)))) .nil)) .nil))) .nil))) .nil)) .nil) (.cons (.asg true 16 (.call 19 (.cons false (.x 1) (.cons false (.x 3) .nil)))) (.cons (.ret (.and (.call 26 (.cons false (.x 8) (.cons false (.x 11) .nil))) (.and (.op .isin (.cons false (.x 2) (.cons false (.x 16) .nil))) (.op .eq (.cons false (.op .eq (.cons false (.x 3) (.cons false (.x 2) .nil))) (.cons false (.op .eq (.cons false (.op .len (.cons false (.x 16) .nil)) (.cons false (.x 2) .nil))) .nil)))))) .nil))))))))))))
theorem k29_chain {T : Nat → Option FD} {k : Nat} {L N A B C D s0 s1 s2 p zz m v4 v5 X1 X2 y1 y2 z1 z2 aa mo O M : Int} {t3 t4 t5 zs lf : List PV} {e15 : Option Ob}
    (h4 : runF T k 13 [.v (.int L), .v (.int A), .v (.int B)] = .ret (.v (.int D)) []) (h5 : runF T k 18 [.v (.int L), .v (.int A), .v (.int B), .v (.int C)] = .ret (.v (.tuple [.tuple [.int s0, .int s0], .tuple [.int s1, .int s1], .tuple [.int s2, .int s2], .tuple [.int D, .int D]])) [])
    (hm : modf (.int B) (.int N) = some (.v (.int m))) (h6 : runF T k 9 [.v (.int L), .v (.int A), .v (.int (m + 1))] = .ret (.v (.int p)) []) (h6b : modf (.int (p - 2)) (.int N) = some (.v (.int zz))) (hzz : zz + 1 = D)
    (h7 : runF T k 13 [.v (.int L), .v (.int D), .v (.int C)] = .ret (.v (.int s0)) []) (h7b : runF T k 9 [.v (.int L), .v (.int D), .v (.int C)] = .ret (.v (.int s1)) [])
    (d4 : runF T k 24 [.ml t3, .v (.int N)] = .ret (.v (.int v4)) [.ml t4]) (d5 : runF T k 24 [.ml t4, .v (.int N)] = .ret (.v (.int v5)) [.ml t5]) (x1 : 1 + v4 = X1) (x2 : 1 + v5 = X2)
    (f1 : runF T k 9 [.v (.int L), .v (.int D), .v (.int X1)] = .ret (.v (.int z1)) []) (f2 : runF T k 9 [.v (.int L), .v (.int B), .v (.int X1)] = .ret (.v (.int y1)) []) (f3 : runF T k 9 [.v (.int L), .v (.int A), .v (.int y1)] = .ret (.v (.int z1)) [])
    (f4 : runF T k 9 [.v (.int L), .v (.int D), .v (.int X2)] = .ret (.v (.int z2)) []) (f5 : runF T k 9 [.v (.int L), .v (.int B), .v (.int X2)] = .ret (.v (.int y2)) []) (f6 : runF T k 9 [.v (.int L), .v (.int A), .v (.int y2)] = .ret (.v (.int z2)) [])
    (g1 : runF T k 13 [.v (.int L), .v (.int N), .v (.int A)] = .ret (.v (.int A)) []) (g2 : runF T k 13 [.v (.int L), .v (.int A), .v (.int N)] = .ret (.v (.int A)) []) (g3 : runF T k 16 [.v (.int L), .v (.int A), .v (.int 1)] = .ret (.v (.int A)) []) (g4 : runF T k 16 [.v (.int L), .v (.int A), .v (.int 2)] = .ret (.v (.int aa)) []) (g5 : runF T k 15 [.v (.int L), .v (.tuple [.int A, .int B, .int C])] = .ret (.v (.int s0)) []) (g6 : runF T k 17 [.v (.int L), .v (.int A), .v (.int B), .v (.int D)] = .ret (.v (.bool true)) []) (g7 : runF T k 13 [.v (.int L), .v (.int A), .v (.int A)] = .ret (.v (.int aa)) [])
    (hmo : modf (.int D) (.int N) = some (.v (.int mo))) (hO : mo + 1 = O) (g8 : runF T k 17 [.v (.int L), .v (.int A), .v (.int B), .v (.int O)] = .ret (.v (.bool (O == D))) [])
    (h13 : ∀ (r : ISs) (g d : List PV) (e12 e13 : Option Ob), g.length ≤ 1000 → d.length ≤ 1000 → evSs (runF T k) [0] (.cons (.ite (.op .gt (.cons false (.x 1) (.cons false (.c (.int 0)) .nil))) (.cons (.asg true 15 (.op .sub (.cons false (.x 1) (.cons false (.c (.int 1)) .nil)))) (.cons (.par [8, 11] (.cons true (.op .add (.cons false (.x 8) (.cons false (.lst (.cons false (.call 22 (.cons false (.x 15) (.cons false (.x 6) .nil))) .nil)) .nil))) (.cons true (.op .add (.cons false (.x 11) (.cons false (.lst (.cons false (.call 13 (.cons false (.x 15) (.cons false (.call 22 (.cons false (.x 15) (.cons false (.x 3) .nil))) (.cons false (.call 22 (.cons false (.x 15) (.cons false (.x 4) .nil))) .nil)))) .nil)) .nil))) .nil))) .nil)) .nil) r) [some (.ml t5), some (.v (.int L)), some (.v (.int N)), some (.v (.int A)), some (.v (.int B)), some (.v (.int C)), some (.v (.int D)), some (.v (.tuple [.tuple [.int s0, .int s0], .tuple [.int s1, .int s1], .tuple [.int s2, .int s2], .tuple [.int D, .int D]])), some (.v (.list g)), none, none, some (.v (.list d)), e12, e13, some (.v (.int O)), none, none] = evSs (runF T k) [0] r [some (.ml t5), some (.v (.int L)), some (.v (.int N)), some (.v (.int A)), some (.v (.int B)), some (.v (.int C)), some (.v (.int D)), some (.v (.tuple [.tuple [.int s0, .int s0], .tuple [.int s1, .int s1], .tuple [.int s2, .int s2], .tuple [.int D, .int D]])), some (.v (.list (g ++ zs))), none, none, some (.v (.list (d ++ zs))), e12, e13, some (.v (.int O)), e15, none])
    (g9 : runF T k 19 [.v (.int L), .v (.int A)] = .ret (.v (.tuple lf)) []) (hin : inf (.int N) (.tuple lf) = some true) (hlf : lenf (.tuple lf) = some (.v (.int M))) (heq : (A == N) = (M == N))
    (hsame : runF T k 26 [.v (.list ([.list [.bool true, .bool true, .bool true, .bool true], .int s0, .int s1, .int D, .int D, .int z1, .int z2, .int A, .int A, .int A, .int aa, .int s0, .bool true, .bool (O == D)] ++ zs)), .v (.list ([.list [.bool true, .bool true, .bool true, .bool true], .int s0, .int s1, .int D, .int D, .int z1, .int z2, .int A, .int A, .int A, .int aa, .int s0, .bool true, .bool (O == D)] ++ zs))] = .ret (.v (.bool true)) []) :
    ∃ env', evSs (runF T k) [0] rest29 [some (.ml t3), some (.v (.int L)), some (.v (.int N)), some (.v (.int A)), some (.v (.int B)), some (.v (.int C)), none, none, none, none, none, none, none, none, none, none, none] = .ok (.rt (.v (.bool true))) env' ∧ outsOf env' [0] = some [.ml t5] := by
  have hf : ∀ g d : List PV, g.length ≤ 1000 → d.length ≤ 1000 → forL (forT (runF T k) [0] (.inr 12) b29) [.int 0, .int 1] [some (.ml t3), some (.v (.int L)), some (.v (.int N)), some (.v (.int A)), some (.v (.int B)), some (.v (.int C)), some (.v (.int D)), some (.v (.tuple [.tuple [.int s0, .int s0], .tuple [.int s1, .int s1], .tuple [.int s2, .int s2], .tuple [.int D, .int D]])), some (.v (.list g)), none, none, some (.v (.list d)), none, none, none, none, none] = .ok .nx [some (.ml t5), some (.v (.int L)), some (.v (.int N)), some (.v (.int A)), some (.v (.int B)), some (.v (.int C)), some (.v (.int D)), some (.v (.tuple [.tuple [.int s0, .int s0], .tuple [.int s1, .int s1], .tuple [.int s2, .int s2], .tuple [.int D, .int D]])), some (.v (.list (g ++ [.int z1] ++ [.int z2]))), none, none, some (.v (.list (d ++ [.int z1] ++ [.int z2]))), some (.v (.int 1)), some (.v (.int X2)), none, none, none] := fun g d hg hd => by
    rw [forL, f29_turn d4 x1 f1 f2 f3 (by omega) (by omega), Rs.bind_ok]
    simp only []
    rw [forL, f29_turn d5 x2 f4 f5 f6 (by rw [List.length_append, List.length_singleton]; omega) (by rw [List.length_append, List.length_singleton]; omega), Rs.bind_ok]
    simp only [forL]
  rw [rest29, A17_6v (s29_4 h4), A17_7v (s29_5 h5), A17_8m (s29_6 hm h6 h6b), hzz, A17_11m (s29_7 h7 h7b)]
  have hf' := hf [.list [.bool true, .bool true, .bool true, .bool true], .int s0, .int s1, .int D, .int D] [.list [.bool true, .bool true, .bool true, .bool true], .int s0, .int s1, .int D, .int D] (by simp) (by simp)
  rw [b29] at hf'
  rw [st_for rfl f29_it hf', A17_8m (s29_9 (by simp) g1 g2 g3 g4 g5 g6), A17_11m (s29_10 (by simp) g7), A17_14v (s29_11 hmo), hO, A17_p8_11 (s29_12 g8 (by simp) (by simp)), h13 _ _ _ _ _ (by simp) (by simp), A17_16v (s29_14 g9)]
  simp only [List.cons_append, List.nil_append] at hsame ⊢
  exact ⟨_, st_ret rfl (s29_15 hsame hin hlf heq), rfl⟩
end Pv
-- PvTake
set_option maxRecDepth 100000
namespace Pv
open PySem L2
theorem take_nat' {T : Nat → Option FD} {i : Nat} (hT : T i = some ⟨2, 6, [0], q_law_take⟩) (k : Nat) {A B C : Int} (hA : 0 ≤ A) (hC : 0 ≤ C) (hC2 : C < 1000000000) (n : Nat) {z : Int} (hz : z = n) (hn : 0 < n) (hn2 : n < 1000000000) :
    ∃ (v : Nat) (A' C' : Int), runF T (k + 1) i [.ml (tin A B C), .v (.int z)] = .ret (.v (.int v)) [.ml (tin A' B C')] ∧ v < n ∧ 0 ≤ A' ∧ C ≤ C' ∧ C' ≤ C + 1 := by
  subst hz
  obtain ⟨v, A', C', h1, h2, h3, h4, h5, h6⟩ := take_spec hT k (A := A) (B := B) (C := C) (n := (n : Int)) ⟨hA, hC, hC2⟩ (by omega) (by omega)
  obtain ⟨m, rfl⟩ := Int.eq_ofNat_of_zero_le h2
  exact ⟨m, A', C', h1, by omega, h4, h5, h6⟩
end Pv
-- PvK29c
set_option maxRecDepth 100000
namespace Pv
open PySem L2
theorem bo_top {N a : Nat} (hD : Div N) (ha : 1 ≤ a) (ha2 : a ≤ N) : bo N N a = a := by
  rw [bo_swap hD (by omega) (Nat.le_refl _) ha ha2, F_top ha ha2, bo_N ha ha2]
theorem fix_top {N : Nat} : fix N N = upTo N := by
  rw [fix, List.filter_eq_self]
  intro x hx
  obtain ⟨j, hj, rfl⟩ := List.mem_map.mp hx
  have := List.mem_range.mp hj
  rw [F_top (by omega) (by omega)]; simp
theorem fix_len {N a : Nat} (ha : 1 ≤ a) (ha2 : a ≤ N) : ((a : Int) == (N : Int)) = ((((fix N a).map nI).length : Int) == (N : Int)) := by
  rw [List.length_map]
  by_cases c : a = N
  · subst c
    rw [fix_top, upTo_length]
  · have h1 : ((a : Int) == (N : Int)) = false := by simp; omega
    have h2 : (fix N a).length < N := by
      have h3 : (fix N a).length ≤ (upTo N).length := List.length_filter_le _ _
      rw [upTo_length] at h3
      by_cases e : (fix N a).length = N
      · have h4 : (fix N a).length = (upTo N).length := by rw [upTo_length]; exact e
        have h5 := List.length_filter_eq_length_iff.mp h4
        have := h5 1 (List.mem_map.mpr ⟨0, List.mem_range.mpr (by omega), rfl⟩)
        rw [F_one ha (by omega)] at this
        simp at this
        omega
      · omega
    rw [h1]; symm; simp; omega
theorem fix_in {N a : Nat} (hD : Div N) (ha : 1 ≤ a) (ha2 : a ≤ N) : inf (.int N) (.tuple ((fix N a).map nI)) = some true := by
  have h : mem (.int N) ((fix N a).map nI) = true := by
    unfold mem
    rw [List.any_eq_true]
    refine ⟨nI N, List.mem_map.mpr ⟨N, ?_, rfl⟩, by simp [nI, PyData.eqv]⟩
    rw [fix, List.mem_filter]
    refine ⟨List.mem_map.mpr ⟨N - 1, List.mem_range.mpr (by omega), by omega⟩, ?_⟩
    rw [F_N hD ha ha2]; simp
  rw [inf, h]
  rfl
section
variable {T : Nat → Option FD} {isn isa sn sb li : Nat}
theorem li2_run {k : Nat} (hT : T li = some ⟨2, 2, [], q_lowered_in⟩) {L A B M : Int} (hs : shlf (.int 1) (.int L) = some (.v (.int B))) (hm : modf (.int (A - 1)) (.int B) = some (.v (.int M))) : runF T (k + 1) li [.v (.int L), .v (.int A)] = .ret (.v (.int (M + 1))) [] := by
  rw [y_run hT]
  simp [q_lowered_in, ioOk, opf2, subf, addf, vI, hs, hm, outsOf]
theorem lw2_run {i k : Nat} (hT : T i = some ⟨2, 3, [], q_lowered sb li sn⟩) {L A Z : Int} (h1 : runF T k sb [.v (.int L)] = .ret (.v (.int L)) []) (h2 : runF T k sn [.v (.int A), .v (.int 1), .v (.int 4096)] = .ret (.v (.int A)) []) (h3 : runF T k li [.v (.int L), .v (.int A)] = .ret (.v (.int Z)) []) : runF T (k + 1) i [.v (.int L), .v (.int A)] = .ret (.v (.int Z)) [] := by
  rw [y_run hT]
  simp [q_lowered, ioOk, free, h1, h2, h3, handsOk, ioNames, putBack, outsOf]
theorem lowered2_spec (F : NumFns T isn isa sn) (hb : T sb = some ⟨1, 1, [], q_sure_below sn⟩) (hl' : T li = some ⟨2, 2, [], q_lowered_in⟩) {i : Nat} (hT : T i = some ⟨2, 3, [], q_lowered sb li sn⟩) (k : Nat) {l N x : Nat} (hl : l ≤ 11) (hN : 2 ^ l = N) (hx : 1 ≤ x) (hx2 : x ≤ 4096) : runF T (k + 5) i [.v (.int l), .v (.int x)] = .ret (.v (.int (low1 N x))) [] := by
  have hp := pow_le13 (l := l) (by omega)
  have hs := shl_one (l := l) (by omega)
  rw [hN] at hp hs
  have e : (x : Int) - 1 = ((x - 1 : Nat) : Int) := by omega
  exact lw2_run hT (sure_below_spec F hb k l (by omega) (by omega)) (sure_number_spec F (k + 1) x (by omega) (by omega)) (li2_run (k := k + 3) (M := (((x - 1) % N : Nat) : Int)) hl' hs (by rw [e]; exact modf_nat (by omega)))
end
structure K29T (T : Nat → Option FD) : Prop where
  h0 : T 0 = some ⟨1, 1, [], q_is_number⟩
  h1 : T 1 = some ⟨3, 3, [], q_is_among 0⟩
  h2 : T 2 = some ⟨1, 2, [], q_tupled 2⟩
  h3 : T 3 = some ⟨3, 3, [], q_sure_number 1⟩
  h4 : T 4 = some ⟨1, 7, [], q_rows_in_2⟩
  h5 : T 5 = some ⟨3, 3, [], q_product_in⟩
  h6 : T 6 = some ⟨1, 1, [], q_sure_level 3⟩
  h7 : T 7 = some ⟨2, 2, [], q_sure_in 3⟩
  h8 : T 8 = some ⟨2, 4, [], q_sure_all_in 2 1⟩
  h9 : T 9 = some ⟨3, 5, [], q_times 6 7 5 4⟩
  h10 : T 10 = some ⟨2, 4, [], q_table_row 6 7 4⟩
  h11 : T 11 = some ⟨2, 2, [], q_period 10⟩
  h12 : T 12 = some ⟨4, 5, [], q_both_in 5⟩
  h13 : T 13 = some ⟨3, 5, [], q_both 6 7 12 4⟩
  h14 : T 14 = some ⟨2, 5, [], q_folded 4 12⟩
  h15 : T 15 = some ⟨2, 3, [], q_all_both 6 14 8⟩
  h16 : T 16 = some ⟨3, 5, [], q_both_times 6 7 14 3⟩
  h17 : T 17 = some ⟨4, 5, [], q_is_both 13 0⟩
  h18 : T 18 = some ⟨4, 16, [], q_laws_of_both 6 7 4 12 5⟩
  h19 : T 19 = some ⟨2, 6, [], q_fixed_by 6 7 4 5⟩
  h20 : T 20 = some ⟨1, 1, [], q_sure_below 3⟩
  h21 : T 21 = some ⟨2, 2, [], q_lowered_in⟩
  h22 : T 22 = some ⟨2, 3, [], q_lowered 20 21 3⟩
  h23 : T 23 = some ⟨2, 3, [], q_law_box 9285029⟩
  h24 : T 24 = some ⟨2, 6, [0], q_law_take⟩
  h25 : T 25 = some ⟨2, 6, [], q_law_cells⟩
  h26 : T 26 = some ⟨2, 4, [], q_law_same 26⟩
  h27 : T 27 = some ⟨2, 17, [0], q_law_right_29 24 13 18 9 16 15 17 22 19 26⟩
  h28 : T 28 = some ⟨2, 10, [0], q_law_often_right 24 9 16 10 26 11⟩
  h29 : T 29 = some ⟨1, 5, [], q_law_12 25 23 24 27 28⟩
theorem niceA_app3 : ∀ xs ys : List PV, niceA (xs ++ ys) = (niceA xs && niceA ys)
  | [], ys => by simp [niceA]
  | x :: xs, ys => by rw [List.cons_append, niceA, niceA, niceA_app3 xs ys, Bool.and_assoc]
theorem depthA_app3 : ∀ xs ys : List PV, PyData.depthAll (xs ++ ys) = max (PyData.depthAll xs) (PyData.depthAll ys)
  | [], ys => by simp [PyData.depthAll]
  | x :: xs, ys => by rw [List.cons_append, PyData.depthAll, PyData.depthAll, depthA_app3 xs ys]; omega
section
variable {T : Nat → Option FD} (K : K29T T)
include K
theorem K29T.nf : NumFns T 0 1 3 := ⟨K.h0, K.h1, K.h3⟩
theorem K29T.tf : TblFns T 0 1 3 4 5 7 := ⟨K.nf, K.h4, K.h5, K.h7⟩
theorem K29T.lf : LvlFns T 0 1 3 4 5 7 6 := ⟨K.tf, K.h6⟩
theorem K29T.bf : BothFns T 0 1 3 4 5 7 6 12 := ⟨K.lf, K.h12⟩
theorem k29_same {k : Nat} {xs : List PV} (hn : niceA xs = true) (hl : xs.length ≤ 1000) (hd : PyData.depthAll xs ≤ 2) (hk : 5 ≤ k) : runF T k 26 [.v (.list xs), .v (.list xs)] = .ret (.v (.bool true)) [] := by
  have h : nice (.list xs) = true := by rw [nice, hn]; simp; omega
  have := same_spec K.h26 k _ _ h h (by rw [PyData.depth]; omega)
  rw [this, pvEq_self _ h]
theorem k29_mid (k : Nat) {l N a b c : Nat} (hl : l ≤ 12) (hN : 2 ^ l = N) (a1 : 1 ≤ a) (a2 : a ≤ N) (b1 : 1 ≤ b) (b2 : b ≤ N) (c1 : 1 ≤ c) (c2 : c ≤ N) {A0 B0 C0 : Int} (hA : 0 ≤ A0) (hC : 0 ≤ C0) (hC2 : C0 ≤ 10000) :
    ∃ env' A' C', evSs (runF T (k + 10)) [0] rest29 [some (.ml (tin A0 B0 C0)), some (.v (.int l)), some (.v (.int N)), some (.v (.int a)), some (.v (.int b)), some (.v (.int c)), none, none, none, none, none, none, none, none, none, none, none] = .ok (.rt (.v (.bool true))) env' ∧ outsOf env' [0] = some [.ml (tin A' B0 C')] ∧ 0 ≤ A' ∧ C0 ≤ C' ∧ C' ≤ C0 + 2 := by
  have hp := pow_le13 (l := l) (by omega)
  have hs := shl_one (l := l) (by omega)
  rw [hN] at hp hs
  have hD : Div N := by rw [← hN]; exact div_pow l
  have hN4 : N ≤ 4096 := by
    rw [← hN]
    exact Nat.pow_le_pow_right (n := 2) (by omega) hl
  have Dr := bo_range (N := N) (a := a) (b := b) hp.1
  obtain ⟨v4, A1, C1, t4, w4, hA1, hC1, hC1'⟩ := take_nat' K.h24 (k + 9) (A := A0) (B := B0) (C := C0) hA hC (by omega) N (z := N) rfl (by omega) (by omega)
  obtain ⟨v5, A2, C2, t5, w5, hA2, hC2', hC2''⟩ := take_nat' K.h24 (k + 9) (A := A1) (B := B0) (C := C1) hA1 (by omega) (by omega) N (z := N) rfl (by omega) (by omega)
  have T9 := fun {x y : Nat} (p1 : 1 ≤ x) (p2 : x ≤ N) (p3 : 1 ≤ y) (p4 : y ≤ N) => times_spec K.lf K.h9 (k + 5) (l := l) (by omega) hN p1 p2 p3 p4
  have T13 := fun {x y : Nat} (p1 : 1 ≤ x) (p2 : x ≤ N) (p3 : 1 ≤ y) (p4 : y ≤ N) => both_spec K.bf K.h13 (k + 5) (l := l) (by omega) hN p1 p2 p3 p4
  have h5 := laws_of_both_spec K.bf K.h18 (k + 5) (l := l) (by omega) hN a1 a2 b1 b2 c1 c2
  rw [← bo_assoc hD a1 a2 b1 b2 c1 c2, ← bo_do hD a1 a2 b1 b2 c c1 c2, bo_spread hD a1 a2 b1 b2 c1 c2, ← bo_swap hD a1 a2 b1 b2] at h5
  have hbm := Nat.mod_lt b (show 0 < N by omega)
  have fp := F_range (N := N) (a := a) (b := b % N + 1) a1 a2 (by omega) (by omega)
  have g4 := both_times_spec K.bf K.h16 K.h14 (k + 5) (l := l) (a := a) (n := 2) (by omega) hN a1 a2 (by omega)
  have g3 := both_times_spec K.bf K.h16 K.h14 (k + 5) (l := l) (a := a) (n := 1) (by omega) hN a1 a2 (by omega)
  have g5 := all_both_spec K.bf K.h15 K.h14 K.h8 K.h2 (k + 5) (l := l) (by omega) hN (SoftN.tup (xs := [a, b, c]) (by simp)) (by simp) (by intro y hy; simp only [List.mem_cons, List.not_mem_nil, or_false] at hy; rcases hy with rfl | rfl | rfl <;> omega)
  rw [show (List.replicate 1 a).foldl (bo N) N = bo N N a from rfl, bo_top hD a1 a2] at g3
  rw [show (List.replicate 2 a).foldl (bo N) N = bo N (bo N N a) a from rfl, bo_top hD a1 a2] at g4
  rw [show [a, b, c].foldl (bo N) N = bo N (bo N (bo N N a) b) c from rfl, bo_top hD a1 a2] at g5
  have g1 := T13 (x := N) (y := a) (by omega) (Nat.le_refl _) a1 a2
  have g2 := T13 (x := a) (y := N) a1 a2 (by omega) (Nat.le_refl _)
  rw [bo_top hD a1 a2] at g1
  rw [bo_N a1 a2] at g2
  have g6 := is_both_spec K.bf K.h17 K.h13 (k + 4) (l := l) (x := bo N a b) (by omega) hN a1 a2 b1 b2
  rw [show ((bo N a b : Int) == (bo N a b : Int)) = true by simp] at g6
  have g8 := is_both_spec K.bf K.h17 K.h13 (k + 4) (l := l) (x := bo N a b % N + 1) (by omega) hN a1 a2 b1 b2
  have f1 := T9 Dr.1 Dr.2 (y := v4 + 1) (by omega) (by omega)
  have f4 := T9 Dr.1 Dr.2 (y := v5 + 1) (by omega) (by omega)
  rw [bo_do hD a1 a2 b1 b2 _ (by omega) (by omega)] at f1 f4
  have r4 := F_range (N := N) (a := b) (b := v4 + 1) b1 b2 (by omega) (by omega)
  have r5 := F_range (N := N) (a := b) (b := v5 + 1) b1 b2 (by omega) (by omega)
  have h13 : ∃ (zs : List PV) (e15 : Option Ob), niceA zs = true ∧ zs.length ≤ 1 ∧ PyData.depthAll zs = 0 ∧ ∀ (r : ISs) (g d : List PV) (e12 e13 : Option Ob), g.length ≤ 1000 → d.length ≤ 1000 → evSs (runF T (k + 10)) [0] (.cons (.ite (.op .gt (.cons false (.x 1) (.cons false (.c (.int 0)) .nil))) (.cons (.asg true 15 (.op .sub (.cons false (.x 1) (.cons false (.c (.int 1)) .nil)))) (.cons (.par [8, 11] (.cons true (.op .add (.cons false (.x 8) (.cons false (.lst (.cons false (.call 22 (.cons false (.x 15) (.cons false (.x 6) .nil))) .nil)) .nil))) (.cons true (.op .add (.cons false (.x 11) (.cons false (.lst (.cons false (.call 13 (.cons false (.x 15) (.cons false (.call 22 (.cons false (.x 15) (.cons false (.x 3) .nil))) (.cons false (.call 22 (.cons false (.x 15) (.cons false (.x 4) .nil))) .nil)))) .nil)) .nil))) .nil))) .nil)) .nil) r) [some (.ml (tin A2 B0 C2)), some (.v (.int (l : Int))), some (.v (.int (N : Int))), some (.v (.int (a : Int))), some (.v (.int (b : Int))), some (.v (.int (c : Int))), some (.v (.int (bo N a b : Int))), some (.v (.tuple [.tuple [.int (bo N (bo N a b) c : Int), .int (bo N (bo N a b) c : Int)], .tuple [.int (F N (bo N a b) c : Int), .int (F N (bo N a b) c : Int)], .tuple [.int (bo N (F N a b) (F N a c) : Int), .int (bo N (F N a b) (F N a c) : Int)], .tuple [.int (bo N a b : Int), .int (bo N a b : Int)]])), some (.v (.list g)), none, none, some (.v (.list d)), e12, e13, some (.v (.int ((bo N a b % N + 1 : Nat) : Int))), none, none] = evSs (runF T (k + 10)) [0] r [some (.ml (tin A2 B0 C2)), some (.v (.int (l : Int))), some (.v (.int (N : Int))), some (.v (.int (a : Int))), some (.v (.int (b : Int))), some (.v (.int (c : Int))), some (.v (.int (bo N a b : Int))), some (.v (.tuple [.tuple [.int (bo N (bo N a b) c : Int), .int (bo N (bo N a b) c : Int)], .tuple [.int (F N (bo N a b) c : Int), .int (F N (bo N a b) c : Int)], .tuple [.int (bo N (F N a b) (F N a c) : Int), .int (bo N (F N a b) (F N a c) : Int)], .tuple [.int (bo N a b : Int), .int (bo N a b : Int)]])), some (.v (.list (g ++ zs))), none, none, some (.v (.list (d ++ zs))), e12, e13, some (.v (.int ((bo N a b % N + 1 : Nat) : Int))), e15, none] := by
    by_cases hl0 : l = 0
    · refine ⟨[], none, rfl, by simp, rfl, fun r g d e12 e13 hg hd => ?_⟩
      rw [s29_13n (by omega), List.append_nil, List.append_nil]
    · obtain ⟨h, rfl⟩ : ∃ h, l = h + 1 := ⟨l - 1, by omega⟩
      have hM : 2 * 2 ^ h = N := by rw [← hN, Nat.pow_succ, Nat.mul_comm]
      generalize hM2 : 2 ^ h = M at hM
      have hDM : Div M := by rw [← hM2]; exact div_pow h
      have M1 : 1 ≤ M := by omega
      have rng : ∀ x, 1 ≤ low1 M x ∧ low1 M x ≤ M := fun x => by
        have := Nat.mod_lt (x - 1) (show 0 < M by omega)
        unfold low1; omega
      have W := fun {x : Nat} (p1 : 1 ≤ x) (p2 : x ≤ 4096) => lowered2_spec K.nf K.h20 K.h21 K.h22 (k + 5) (l := h) (N := M) (x := x) (by omega) hM2 p1 p2
      have bl := bo_lowered hDM (by rw [hM]; exact hD) M1 a1 (by omega : a ≤ 2 * M) b1 (by omega : b ≤ 2 * M)
      rw [hM] at bl
      have q := both_spec K.bf K.h13 (k + 5) (l := h) (N := M) (by omega) hM2 (rng a).1 (rng a).2 (rng b).1 (rng b).2
      rw [← bl] at q
      refine ⟨[.int (low1 M (bo N a b))], some (.v (.int h)), rfl, by simp, rfl, fun r g d e12 e13 hg hd => ?_⟩
      exact s29_13y (by omega) (by omega) (W Dr.1 (by omega)) (W a1 (by omega)) (W b1 (by omega)) q (by omega) (by omega)
  obtain ⟨zs, e15, zn, zl, zd, h13⟩ := h13
  have sm := k29_same K (k := k + 10) (xs := [.list [.bool true, .bool true, .bool true, .bool true], .int (bo N (bo N a b) c), .int (F N (bo N a b) c), .int (bo N a b), .int (bo N a b), .int (F N a (F N b (v4 + 1))), .int (F N a (F N b (v5 + 1))), .int a, .int a, .int a, .int (bo N a a), .int (bo N (bo N a b) c), .bool true, .bool (((bo N a b % N + 1 : Nat) : Int) == (bo N a b : Int))] ++ zs) (by rw [niceA_app3, zn]; rfl) (by simp; omega) (by rw [depthA_app3, zd]; simp [PyData.depthAll, PyData.depth]) (by omega)
  obtain ⟨env', q1, q2⟩ := k29_chain (T := T) (k := k + 10) (L := l) (N := N) (A := a) (B := b) (C := c) (D := bo N a b) (s0 := bo N (bo N a b) c) (s1 := F N (bo N a b) c) (s2 := bo N (F N a b) (F N a c)) (aa := bo N a a) (zs := zs) (e15 := e15) (T13 a1 a2 b1 b2) h5 (modf_nat (by omega)) (T9 (x := a) (y := b % N + 1) a1 a2 (by omega) (by omega)) (bo_int (N := N) (P := F N a (b % N + 1)) (by omega) fp.1) rfl (T13 Dr.1 Dr.2 c1 c2) (T9 Dr.1 Dr.2 c1 c2) t4 t5 (X1 := ((v4 + 1 : Nat) : Int)) (X2 := ((v5 + 1 : Nat) : Int)) (by omega) (by omega) f1 (T9 b1 b2 (by omega) (by omega)) (T9 a1 a2 r4.1 r4.2) f4 (T9 b1 b2 (by omega) (by omega)) (T9 a1 a2 r5.1 r5.2)
    g1 g2 g3 g4 g5 g6 (T13 a1 a2 a1 a2) (modf_nat (by omega)) (O := ((bo N a b % N + 1 : Nat) : Int)) rfl g8 h13 (fixed_by_spec K.lf K.h19 (k + 5) (l := l) (by omega) hN a1 a2) (fix_in hD a1 a2) rfl (fix_len a1 a2) sm
  exact ⟨env', A2, C2, q1, q2, hA2, by omega, by omega⟩
end
end Pv
-- PvK29d
set_option maxRecDepth 100000
namespace Pv
open PySem L2
theorem min_nat {N : Nat} : min2f (.int 20) (.int (N : Int)) = some (.v (.int ((if N < 20 then N else 20 : Nat) : Int))) := by
  rw [min2f, vI]
  by_cases h : N < 20
  · rw [if_pos (by omega), if_pos h]
  · rw [if_neg (by omega), if_neg h]; rfl
section
variable {T : Nat → Option FD} (K : K29T T)
include K
theorem k29_right (k : Nat) {l : Nat} (hl : l ≤ 12) {A0 B0 C0 : Int} (hA : 0 ≤ A0) (hC : 0 ≤ C0) (hC2 : C0 ≤ 9000) :
    ∃ A' C', runF T (k + 11) 27 [.ml (tin A0 B0 C0), .v (.int l)] = .ret (.v (.bool true)) [.ml (tin A' B0 C')] ∧ 0 ≤ A' ∧ C0 ≤ C' ∧ C' ≤ C0 + 10 := by
  obtain ⟨N, hN⟩ : ∃ N, 2 ^ l = N := ⟨_, rfl⟩
  have hp := pow_le13 (l := l) (by omega)
  have hs := shl_one (l := l) (by omega)
  rw [hN] at hp hs
  obtain ⟨va, A1, C1, t1, ha, hA1, hC1, hC1'⟩ := take_nat' K.h24 (k + 9) (A := A0) (B := B0) (C := C0) hA hC (by omega) N (z := N) rfl (by omega) (by omega)
  obtain ⟨vb, A2, C2, t2, hb, hA2, hC2', hC2''⟩ := take_nat' K.h24 (k + 9) (A := A1) (B := B0) (C := C1) hA1 (by omega) (by omega) N (z := N) rfl (by omega) (by omega)
  obtain ⟨vc, A3, C3, t3, hc, hA3, hC3, hC3'⟩ := take_nat' K.h24 (k + 9) (A := A2) (B := B0) (C := C2) hA2 (by omega) (by omega) N (z := N) rfl (by omega) (by omega)
  obtain ⟨vd, A4, C4, t4, hd, hA4, hC4, hC4'⟩ := take_nat' K.h24 (k + 9) (A := A3) (B := B0) (C := C3) hA3 (by omega) (by omega) 3 (z := 3) rfl (by omega) (by omega)
  have ea : 1 + (va : Int) = ((va + 1 : Nat) : Int) := by omega
  have eb : 1 + (vb : Int) = ((vb + 1 : Nat) : Int) := by omega
  have ec : 1 + (vc : Int) = ((vc + 1 : Nat) : Int) := by omega
  have key : ∃ env' A' C', evSs (runF T (k + 10)) [0] (q_law_right_29 24 13 18 9 16 15 17 22 19 26) [some (.ml (tin A0 B0 C0)), some (.v (.int l)), none, none, none, none, none, none, none, none, none, none, none, none, none, none, none] = .ok (.rt (.v (.bool true))) env' ∧ outsOf env' [0] = some [.ml (tin A' B0 C')] ∧ 0 ≤ A' ∧ C0 ≤ C' ∧ C' ≤ C0 + 10 := by
    rw [q_law_right_29, A17_2v (s29_1 hs), A17_p3_4_5 (s29_2 t1 t2 t3), ea, eb, ec]
    by_cases h0 : vd = 0
    · have hm : ∃ m : Nat, m = (if N < 20 then N else 20) ∧ 1 ≤ m ∧ m ≤ N := ⟨_, rfl, by split <;> omega, by split <;> omega⟩
      obtain ⟨m, em, m1, m2⟩ := hm
      have hmin := min_nat (N := N)
      rw [← em] at hmin
      obtain ⟨v5, A5, C5, t5, h5, hA5, hC5, hC5'⟩ := take_nat' K.h24 (k + 9) (A := A4) (B := B0) (C := C4) hA4 (by omega) (by omega) m (z := m) rfl (by omega) (by omega)
      obtain ⟨v6, A6, C6, t6, h6, hA6, hC6, hC6'⟩ := take_nat' K.h24 (k + 9) (A := A5) (B := B0) (C := C5) hA5 (by omega) (by omega) m (z := m) rfl (by omega) (by omega)
      rw [s29_3y t4 (by omega) hmin t5 t6 (show 1 + (v5 : Int) = ((v5 + 1 : Nat) : Int) by omega) (show 1 + (v6 : Int) = ((v6 + 1 : Nat) : Int) by omega)]
      obtain ⟨env', A', C', q1, q2, q3, q4, q5⟩ := k29_mid K k (l := l) (N := N) (a := v5 + 1) (b := v6 + 1) (c := vc + 1) hl hN (by omega) (by omega) (by omega) (by omega) (by omega) (by omega) (A0 := A6) (B0 := B0) (C0 := C6) hA6 (by omega) (by omega)
      exact ⟨env', A', C', q1, q2, q3, by omega, by omega⟩
    · rw [s29_3n t4 (by omega)]
      obtain ⟨env', A', C', q1, q2, q3, q4, q5⟩ := k29_mid K k (l := l) (N := N) (a := va + 1) (b := vb + 1) (c := vc + 1) hl hN (by omega) (by omega) (by omega) (by omega) (by omega) (by omega) (A0 := A4) (B0 := B0) (C0 := C4) hA4 (by omega) (by omega)
      exact ⟨env', A', C', q1, q2, q3, by omega, by omega⟩
  obtain ⟨env', A', C', q1, q2, q3, q4, q5⟩ := key
  refine ⟨A', C', ?_, q3, q4, q5⟩
  rw [y_run K.h27, if_pos (by rfl)]
  have e1 : ([Ob.ml (tin A0 B0 C0), Ob.v (.int l)].map some ++ List.replicate ((⟨2, 17, [0], q_law_right_29 24 13 18 9 16 15 17 22 19 26⟩ : FD).ns - (⟨2, 17, [0], q_law_right_29 24 13 18 9 16 15 17 22 19 26⟩ : FD).np) none) = [some (.ml (tin A0 B0 C0)), some (.v (.int l)), none, none, none, none, none, none, none, none, none, none, none, none, none, none, none] := rfl
  rw [e1, q1]
  simp only [q2]
  rfl
omit K
def often (N a : Nat) : Nat → Nat → Nat
  | 0, d => d
  | n + 1, d => often N a n (F N a d)
theorem often_range {N a : Nat} (a1 : 1 ≤ a) (a2 : a ≤ N) : ∀ n d, 1 ≤ d → d ≤ N → 1 ≤ often N a n d ∧ often N a n d ≤ N
  | 0, d, h1, h2 => ⟨h1, h2⟩
  | n + 1, d, h1, h2 => by
    have := F_range (N := N) a1 a2 h1 h2
    exact often_range a1 a2 n _ this.1 this.2
theorem often_bo {N a : Nat} (hD : Div N) (a1 : 1 ≤ a) (a2 : a ≤ N) : ∀ n z d, 1 ≤ z → z ≤ N → 1 ≤ d → d ≤ N → F N ((List.replicate n a).foldl (bo N) z) d = F N z (often N a n d) := fun n => by
  induction n with
  | zero => intro z d _ _ _ _; rfl
  | succ n ih =>
    intro z d z1 z2 d1 d2
    have br := bo_range (N := N) (a := z) (b := a) (by omega)
    have orr := often_range a1 a2 n d d1 d2
    rw [List.replicate_succ, List.foldl_cons, ih _ d br.1 br.2 d1 d2, bo_do hD z1 z2 a1 a2 _ orr.1 orr.2]
    congr 1
    have sh : ∀ n d, F N a (often N a n d) = often N a n (F N a d) := fun n => by
      induction n with
      | zero => intro d; rfl
      | succ n ih => intro d; rw [often, ih, often]
    rw [sh]; rfl
theorem fold_range {N a : Nat} (a1 : 1 ≤ a) (a2 : a ≤ N) : ∀ n z, 1 ≤ z → z ≤ N → 1 ≤ (List.replicate n a).foldl (bo N) z ∧ (List.replicate n a).foldl (bo N) z ≤ N
  | 0, z, h1, h2 => ⟨h1, h2⟩
  | n + 1, z, h1, h2 => by
    have := bo_range (N := N) (a := z) (b := a) (by omega)
    exact fold_range a1 a2 n _ this.1 this.2
theorem of29_for {T : Nat → Option FD} {k : Nat} {L N A B C : Int} {M a : Nat} (h : ∀ x : Nat, 1 ≤ x → x ≤ M → runF T k 9 [.v (.int L), .v (.int A), .v (.int (x : Int))] = .ret (.v (.int (F M a x : Int))) []) (a1 : 1 ≤ a) (a2 : a ≤ M) {e0 e8 e9 : Option Ob} : ∀ (n m d : Nat) (e7 : Option Ob), 1 ≤ d → d ≤ M → ∃ e7', forL (forT (runF T k) [0] (.inr 7) ob29) (rangeL (m : Int) n 1) [e0, some (.v (.int L)), some (.v (.int N)), some (.v (.int A)), some (.v (.int B)), some (.v (.int C)), some (.v (.int (d : Int))), e7, e8, e9] = .ok .nx [e0, some (.v (.int L)), some (.v (.int N)), some (.v (.int A)), some (.v (.int B)), some (.v (.int C)), some (.v (.int (often M a n d : Int))), e7', e8, e9]
  | 0, m, d, e7, _, _ => ⟨e7, by rw [rangeL]; rfl⟩
  | n + 1, m, d, e7, h1, h2 => by
    have fr := F_range (N := M) a1 a2 h1 h2
    obtain ⟨e7', ih⟩ := of29_for (L := L) (N := N) (A := A) (B := B) (C := C) h a1 a2 (e0 := e0) (e8 := e8) (e9 := e9) n (m + 1) (F M a d) (some (.v (.int (m : Int)))) fr.1 fr.2
    refine ⟨e7', ?_⟩
    rw [rangeL_up, forL, of29_turn (h d h1 h2), Rs.bind_ok]
    exact ih
theorem last_row {N a : Nat} (a1 : 1 ≤ a) (a2 : a ≤ N) : idxf (.tuple ((R N a).map nI)) (.int (-1)) = some (.v (.int (N : Int))) := by
  have hp := R_pos a1 a2
  have hl : ((R N a).map nI).length = (R N a).length := List.length_map _
  have h1 : ¬ ((0 : Int) ≤ -1) := by omega
  have h2 : -(((R N a).map nI).length : Int) ≤ -1 := by rw [hl]; omega
  have h3 : (-1 + (((R N a).map nI).length : Int)).toNat = (R N a).length - 1 := by rw [hl]; omega
  have he : (R N a)[(R N a).length - 1]? = some N := by
    have := F_end a1 a2
    rw [F, atR, Nat.mod_eq_of_lt (by omega), List.getD_eq_getElem?_getD, List.getElem?_eq_getElem (by omega)] at this
    rw [List.getElem?_eq_getElem (by omega)]
    congr 1
  simp only [idxf, atI, ixN]
  rw [if_neg h1, if_pos h2, h3]
  simp only [Option.bind_some]
  rw [List.getElem?_map, he]
  rfl
include K
theorem k29_often (k : Nat) {l : Nat} (hl : l ≤ 12) {A0 B0 C0 : Int} (hA : 0 ≤ A0) (hC : 0 ≤ C0) (hC2 : C0 ≤ 9000) :
    ∃ A' C', runF T (k + 11) 28 [.ml (tin A0 B0 C0), .v (.int l)] = .ret (.v (.bool true)) [.ml (tin A' B0 C')] ∧ 0 ≤ A' ∧ C0 ≤ C' ∧ C' ≤ C0 + 10 := by
  obtain ⟨N, hN⟩ : ∃ N, 2 ^ l = N := ⟨_, rfl⟩
  have hp := pow_le13 (l := l) (by omega)
  have hs := shl_one (l := l) (by omega)
  rw [hN] at hp hs
  have hD : Div N := by rw [← hN]; exact div_pow l
  obtain ⟨va, A1, C1, t1, ha, hA1, hC1, hC1'⟩ := take_nat' K.h24 (k + 9) (A := A0) (B := B0) (C := C0) hA hC (by omega) N (z := N) rfl (by omega) (by omega)
  obtain ⟨vb, A2, C2, t2, hb, hA2, hC2', hC2''⟩ := take_nat' K.h24 (k + 9) (A := A1) (B := B0) (C := C1) hA1 (by omega) (by omega) N (z := N) rfl (by omega) (by omega)
  obtain ⟨vc, A3, C3, t3, hc, hA3, hC3, hC3'⟩ := take_nat' K.h24 (k + 9) (A := A2) (B := B0) (C := C2) hA2 (by omega) (by omega) 6 (z := 6) rfl (by omega) (by omega)
  have ea : 1 + (va : Int) = ((va + 1 : Nat) : Int) := by omega
  have eb : 1 + (vb : Int) = ((vb + 1 : Nat) : Int) := by omega
  have ec : 2 + (vc : Int) = ((vc + 2 : Nat) : Int) := by omega
  have T9 := fun {x y : Nat} (p1 : 1 ≤ x) (p2 : x ≤ N) (p3 : 1 ≤ y) (p4 : y ≤ N) => times_spec K.lf K.h9 (k + 5) (l := l) (by omega) hN p1 p2 p3 p4
  have fo := fold_range (N := N) (a := va + 1) (by omega) (by omega) (vc + 2) N hp.1 (Nat.le_refl _)
  have g5 := both_times_spec K.bf K.h16 K.h14 (k + 5) (l := l) (a := va + 1) (n := vc + 2) (by omega) hN (by omega) (by omega) (by omega)
  have od := often_bo hD (by omega : 1 ≤ va + 1) (by omega) (vc + 2) N (vb + 1) hp.1 (Nat.le_refl _) (by omega) (by omega)
  have orr := often_range (N := N) (a := va + 1) (by omega) (by omega) (vc + 2) (vb + 1) (by omega) (by omega)
  rw [F_top orr.1 orr.2] at od
  obtain ⟨D, eD⟩ : ∃ D, (List.replicate (vc + 2) (va + 1)).foldl (bo N) N = D := ⟨_, rfl⟩
  rw [eD] at g5 od fo
  have g6 := table_row_spec K.lf K.h10 (k + 5) (l := l) (by omega) hN fo.1 fo.2
  have g7 := period_spec K.lf K.h11 K.h10 (k + 4) (l := l) (by omega) hN fo.1 fo.2
  have g1 := T9 fo.1 fo.2 (y := vb + 1) (by omega) (by omega)
  rw [od] at g1
  obtain ⟨e7, hf⟩ := of29_for (T := T) (k := k + 10) (L := l) (N := N) (A := ((va + 1 : Nat) : Int)) (B := ((vb + 1 : Nat) : Int)) (C := ((vc + 2 : Nat) : Int)) (M := N) (a := va + 1) (fun x x1 x2 => T9 (by omega) (by omega) x1 x2) (by omega) (by omega) (e0 := some (.ml (tin A3 B0 C3))) (e8 := none) (e9 := none) (vc + 2) 0 (vb + 1) none (by omega) (by omega)
  have sm := k29_same K (k := k + 10) (xs := [.int (often N (va + 1) (vc + 2) (vb + 1)), .int (R N D).length, .int N]) rfl (by simp) (by simp [PyData.depthAll, PyData.depth]) (by omega)
  have key : ∃ env', evSs (runF T (k + 10)) [0] (q_law_often_right 24 9 16 10 26 11) [some (.ml (tin A0 B0 C0)), some (.v (.int l)), none, none, none, none, none, none, none, none] = .ok (.rt (.v (.bool true))) env' ∧ outsOf env' [0] = some [.ml (tin A3 B0 C3)] := by
    have hf' : forL (forT (runF T (k + 10)) [0] (.inr 7) ob29) (rangeL 0 (vc + 2) 1) _ = _ := hf
    rw [ob29] at hf'
    rw [q_law_often_right, A10_2v (o29_1 hs), A10_p3_4_5 (o29_2 t1 t2 t3), ea, eb, ec, A10_6v o29_3, st_for rfl (of29_it rfl (by omega)) hf', A10_8v (o29_5 g5), A10_9v (o29_6 g6)]
    exact ⟨_, st_ret rfl (o29_7 g1 g7 (last_row fo.1 fo.2) (by rw [lenf, List.length_map, vI]) sm), rfl⟩
  obtain ⟨env', q1, q2⟩ := key
  refine ⟨A3, C3, ?_, hA3, by omega, by omega⟩
  rw [y_run K.h28, if_pos (by rfl)]
  have e1 : ([Ob.ml (tin A0 B0 C0), Ob.v (.int l)].map some ++ List.replicate ((⟨2, 10, [0], q_law_often_right 24 9 16 10 26 11⟩ : FD).ns - (⟨2, 10, [0], q_law_often_right 24 9 16 10 26 11⟩ : FD).np) none) = [some (.ml (tin A0 B0 C0)), some (.v (.int l)), none, none, none, none, none, none, none, none] := rfl
  rw [e1, q1]
  simp only [q2]
  rfl
end
end Pv
-- PvBox29
set_option maxRecDepth 100000
namespace Pv
open PySem L2
theorem all_q : ∀ {ys : List PV}, (∀ y ∈ ys, y = .bool true) → ∃ bs, bBools ys = some bs ∧ bs.all id = true
  | [], _ => ⟨[], rfl, rfl⟩
  | y :: ys, h => by
    obtain ⟨bs, h1, h2⟩ := all_q (ys := ys) fun z hz => h z (List.mem_cons_of_mem _ hz)
    rw [h y List.mem_cons_self]
    exact ⟨true :: bs, by rw [bBools, h1]; rfl, by rw [List.all_cons, h2]; rfl⟩
theorem allf_q {ys : List PV} (h : ∀ y ∈ ys, y = .bool true) : allf (.list ys) = some (.v (.bool true)) := by
  obtain ⟨bs, h1, h2⟩ := all_q h
  rw [allf, h1, Option.bind_some, h2, vB]
theorem range_it {cf : Nat → List Ob → CR} {lk : List Nat} {e : IE} {env : En} {n : Nat} (hn : n ≤ 100000) (h : evF cf lk (.cons false e .nil) env = .ok [.int (n : Int)] env) : evIt cf lk (.range (.cons false e .nil)) env = .ok (rangeL 0 n 1) env := by
  rw [y_range, h, Rs.bind_ok, range_up hn, optR_some]
theorem all_lc {cf : Nat → List Ob → CR} {lk own : List Nat} {tg : List Nat ⊕ Nat} {it : IT} {c : IEs} {e : IE} {env env' : En} {ys : List PV} (h : evE cf lk (.lc own tg it c e) env = .ok (.ml ys) env') (hq : ∀ y ∈ ys, y = .bool true) : evE cf lk (.op .all (.cons false (.lc own tg it c e) .nil)) env = .ok (.v (.bool true)) env' := by
  have ha := allf_q hq
  simp [h, opf1, ha]
end Pv
-- PvK29e
set_option maxRecDepth 100000
namespace Pv
open PySem L2
section
variable {cf : Nat → List Ob → CR} {e0 e1 e2 : Option Ob} {r : ISs}
theorem l29_it {t0 t1 t2 : List PV} {v w : Int} (h1 : cf 24 [.ml t0, .v (.int 4)] = .ret (.v (.int v)) [.ml t1]) (h2 : cf 24 [.ml t1, .v (.int 2)] = .ret (.v (.int w)) [.ml t2]) : evIt cf [] (.seq (.tup (.cons false (.call 24 (.cons true (.x 3) (.cons false (.c (.int 4)) .nil))) (.cons false (.c (.int 6)) (.cons false (.c (.int 7)) (.cons false (.op .add (.cons false (.c (.int 8)) (.cons false (.call 24 (.cons true (.x 3) (.cons false (.c (.int 2)) .nil))) .nil))) .nil)))))) [e0, e1, e2, some (.ml t0), none] = .ok [.int v, .int 6, .int 7, .int (8 + w)] [e0, e1, e2, some (.ml t2), none] := by
  simp [h1, h2, opf2, addf, vI, itemsOf, handsOk, ioNames, putBack]
theorem l29_elt {t0 t1 : List PV} {x : PV} (h : cf 27 [.ml t0, .v x] = .ret (.v (.bool true)) [.ml t1]) : evE cf [] (.call 27 (.cons true (.x 3) (.cons false (.x 4) .nil))) [e0, e1, e2, some (.ml t0), some (.v x)] = .ok (.v (.bool true)) [e0, e1, e2, some (.ml t1), some (.v x)] := by
  simp [h, handsOk, ioNames, putBack]
theorem l29_c28 {t0 t1 t2 : List PV} {v : Int} (h1 : cf 24 [.ml t0, .v (.int 5)] = .ret (.v (.int v)) [.ml t1]) (h2 : cf 28 [.ml t1, .v (.int (4 + v))] = .ret (.v (.bool true)) [.ml t2]) : evE cf [] (.call 28 (.cons true (.x 3) (.cons false (.op .add (.cons false (.c (.int 4)) (.cons false (.call 24 (.cons true (.x 3) (.cons false (.c (.int 5)) .nil))) .nil))) .nil))) [e0, e1, e2, some (.ml t0), none] = .ok (.v (.bool true)) [e0, e1, e2, some (.ml t2), none] := by
  simp [h1, h2, opf2, addf, vI, handsOk, ioNames, putBack]
theorem l29_c27 {t0 t1 t2 : List PV} {v : Int} (h1 : cf 24 [.ml t0, .v (.int 2)] = .ret (.v (.int v)) [.ml t1]) (h2 : cf 27 [.ml t1, .v (.int (11 + v))] = .ret (.v (.bool true)) [.ml t2]) : evE cf [] (.call 27 (.cons true (.x 3) (.cons false (.op .add (.cons false (.c (.int 11)) (.cons false (.call 24 (.cons true (.x 3) (.cons false (.c (.int 2)) .nil))) .nil))) .nil))) [e0, e1, e2, some (.ml t0), none] = .ok (.v (.bool true)) [e0, e1, e2, some (.ml t2), none] := by
  simp [h1, h2, opf2, addf, vI, handsOk, ioNames, putBack]
theorem l29_or {t0 t1 t3 : List PV} (ha : evE cf [] (.op .all (.cons false (.lc [4] (.inr 4) (.seq (.tup (.cons false (.call 24 (.cons true (.x 3) (.cons false (.c (.int 4)) .nil))) (.cons false (.c (.int 6)) (.cons false (.c (.int 7)) (.cons false (.op .add (.cons false (.c (.int 8)) (.cons false (.call 24 (.cons true (.x 3) (.cons false (.c (.int 2)) .nil))) .nil))) .nil)))))) .nil (.call 27 (.cons true (.x 3) (.cons false (.x 4) .nil)))) .nil)) [e0, e1, e2, some (.ml t0), none] = .ok (.v (.bool true)) [e0, e1, e2, some (.ml t1), none]) (hb : evE cf [] (.call 28 (.cons true (.x 3) (.cons false (.op .add (.cons false (.c (.int 4)) (.cons false (.call 24 (.cons true (.x 3) (.cons false (.c (.int 5)) .nil))) .nil))) .nil))) [e0, e1, e2, some (.ml t1), none] = .ok (.v (.bool true)) [e0, e1, e2, some (.ml t3), none]) : evT cf [] (.or (.not (.op .all (.cons false (.lc [4] (.inr 4) (.seq (.tup (.cons false (.call 24 (.cons true (.x 3) (.cons false (.c (.int 4)) .nil))) (.cons false (.c (.int 6)) (.cons false (.c (.int 7)) (.cons false (.op .add (.cons false (.c (.int 8)) (.cons false (.call 24 (.cons true (.x 3) (.cons false (.c (.int 2)) .nil))) .nil))) .nil)))))) .nil (.call 27 (.cons true (.x 3) (.cons false (.x 4) .nil)))) .nil))) (.not (.call 28 (.cons true (.x 3) (.cons false (.op .add (.cons false (.c (.int 4)) (.cons false (.call 24 (.cons true (.x 3) (.cons false (.c (.int 5)) .nil))) .nil))) .nil))))) [e0, e1, e2, some (.ml t0), none] = .ok false [e0, e1, e2, some (.ml t3), none] := by
  simp only [y_T, y_or, y_not, ha, hb, Rs.bind_ok, y_truv, y_tb, optR_some, Bool.not_true, Bool.false_eq_true, if_false]
theorem l29_and {t0 : List PV} {J : Int} (hJ : ∃ t1, evE cf [] (.call 27 (.cons true (.x 3) (.cons false (.op .add (.cons false (.c (.int 11)) (.cons false (.call 24 (.cons true (.x 3) (.cons false (.c (.int 2)) .nil))) .nil))) .nil))) [e0, e1, some (.v (.int J)), some (.ml t0), none] = .ok (.v (.bool true)) [e0, e1, some (.v (.int J)), some (.ml t1), none]) : ∃ t1, evT cf [] (.and (.op .eq (.cons false (.x 2) (.cons false (.c (.int 0)) .nil))) (.not (.call 27 (.cons true (.x 3) (.cons false (.op .add (.cons false (.c (.int 11)) (.cons false (.call 24 (.cons true (.x 3) (.cons false (.c (.int 2)) .nil))) .nil))) .nil))))) [e0, e1, some (.v (.int J)), some (.ml t0), none] = .ok false [e0, e1, some (.v (.int J)), some (.ml t1), none] := by
  obtain ⟨t1, hb⟩ := hJ
  have c : evE cf [] (.op .eq (.cons false (.x 2) (.cons false (.c (.int 0)) .nil))) [e0, e1, some (.v (.int J)), some (.ml t0), none] = .ok (.v (.bool (J == 0))) [e0, e1, some (.v (.int J)), some (.ml t0), none] := by
    simp [opf2, cmpf, vB]
  by_cases h : J = 0
  · refine ⟨t1, ?_⟩
    rw [show (J == 0) = true by simpa using h] at c
    simp only [y_T, y_and, y_not, c, hb, Rs.bind_ok, y_truv, y_tb, optR_some, Bool.not_true, if_true]
  · refine ⟨t0, ?_⟩
    rw [show (J == 0) = false by simpa using h] at c
    simp only [y_T, y_and, c, Rs.bind_ok, y_truv, y_tb, optR_some, Bool.false_eq_true, if_false]
theorem l29_box {cs t : List PV} {J : Int} {e3 : Option Ob} (h : cf 23 [.v (.list cs), .v (.int J)] = .ret (.ml t) []) : evE cf [] (.call 23 (.cons false (.x 1) (.cons false (.x 2) .nil))) [e0, some (.v (.list cs)), some (.v (.int J)), e3, none] = .ok (.ml t) [e0, some (.v (.list cs)), some (.v (.int J)), e3, none] := by
  simp [h, handsOk, ioNames, putBack]
theorem l29_cells {d0 : PV} {cs : List PV} (h : cf 25 [.v d0, .v (.int 2)] = .ret (.ml cs) []) : evE cf [] (.call 25 (.cons false (.x 0) (.cons false (.c (.int 2)) .nil))) [some (.v d0), none, none, none, none] = .ok (.ml cs) [some (.v d0), none, none, none, none] := by
  simp [h, handsOk, ioNames, putBack]
theorem l29_len {cs : List PV} {e3 e4 : Option Ob} : evF cf [] (.cons false (.op .len (.cons false (.x 1) .nil)) .nil) [e0, some (.v (.list cs)), e2, e3, e4] = .ok [.int cs.length] [e0, some (.v (.list cs)), e2, e3, e4] := by
  simp [opf1, lenf, vI]
def l29Body : ISs := (.cons (.asg false 3 (.call 23 (.cons false (.x 1) (.cons false (.x 2) .nil)))) (.cons (.ite (.or (.not (.op .all (.cons false (.lc [4] (.inr 4) (.seq (.tup (.cons false (.call 24 (.cons true (.x 3) (.cons false (.c (.int 4)) .nil))) (.cons false (.c (.int 6)) (.cons false (.c (.int 7)) (.cons false (.op .add (.cons false (.c (.int 8)) (.cons false (.call 24 (.cons true (.x 3) (.cons false (.c (.int 2)) .nil))) .nil))) .nil)))))) .nil (.call 27 (.cons true (.x 3) (.cons false (.x 4) .nil)))) .nil))) (.not (.call 28 (.cons true (.x 3) (.cons false (.op .add (.cons false (.c (.int 4)) (.cons false (.call 24 (.cons true (.x 3) (.cons false (.c (.int 5)) .nil))) .nil))) .nil))))) (.cons (.ret (.c (.bool false))) .nil) .nil) (.cons (.ite (.and (.op .eq (.cons false (.x 2) (.cons false (.c (.int 0)) .nil))) (.not (.call 27 (.cons true (.x 3) (.cons false (.op .add (.cons false (.c (.int 11)) (.cons false (.call 24 (.cons true (.x 3) (.cons false (.c (.int 2)) .nil))) .nil))) .nil))))) (.cons (.ret (.c (.bool false))) .nil) .nil) .nil)))
end
section
variable {T : Nat → Option FD} (K : K29T T)
include K
theorem l29_comp (k : Nat) {A B C : Int} (hA : 0 ≤ A) (hC : 0 ≤ C) (hC2 : C ≤ 100) (e0 e1 e2 : Option Ob) :
    ∃ ys A' C', evE (runF T (k + 11)) [] (.lc [4] (.inr 4) (.seq (.tup (.cons false (.call 24 (.cons true (.x 3) (.cons false (.c (.int 4)) .nil))) (.cons false (.c (.int 6)) (.cons false (.c (.int 7)) (.cons false (.op .add (.cons false (.c (.int 8)) (.cons false (.call 24 (.cons true (.x 3) (.cons false (.c (.int 2)) .nil))) .nil))) .nil)))))) .nil (.call 27 (.cons true (.x 3) (.cons false (.x 4) .nil)))) [e0, e1, e2, some (.ml (tin A B C)), none] = .ok (.ml ys) [e0, e1, e2, some (.ml (tin A' B C')), none] ∧ (∀ y ∈ ys, y = .bool true) ∧ 0 ≤ A' ∧ 0 ≤ C' ∧ C' ≤ 400 := by
  obtain ⟨v, A1, C1, t1, hv, hA1, hC1, hC1'⟩ := take_nat' K.h24 (k + 10) (A := A) (B := B) (C := C) hA hC (by omega) 4 (z := 4) rfl (by omega) (by omega)
  obtain ⟨w, A2, C2, t2, hw, hA2, hC2', hC2''⟩ := take_nat' K.h24 (k + 10) (A := A1) (B := B) (C := C1) hA1 (by omega) (by omega) 2 (z := 2) rfl (by omega) (by omega)
  have it := l29_it (cf := runF T (k + 11)) (e0 := e0) (e1 := e1) (e2 := e2) t1 t2
  obtain ⟨ys, e', q1, q2, q3, A3, C3, q4, q5, q6, q7⟩ := lc_state (cf := runF T (k + 11)) (lk := []) (own := [4]) (tg := .inr 4) (elt := .call 27 (.cons true (.x 3) (.cons false (.x 4) .nil))) (Inv := fun i e => ∃ A' C', e = [e0, e1, e2, some (.ml (tin A' B C')), none] ∧ 0 ≤ A' ∧ 0 ≤ C' ∧ C' ≤ 102 + 10 * (i : Int)) (Q := fun y => y = .bool true) (by simp) it (by simp) ⟨A2, C2, rfl, hA2, by omega, by omega⟩ (by simp) fun i e d hi hd ⟨A3, C3, he, g1, g2, g3⟩ => by
    obtain ⟨l, rfl, hl⟩ : ∃ l : Nat, d = .int l ∧ l ≤ 12 := by
      simp only [List.mem_cons, List.not_mem_nil, or_false] at hd
      rcases hd with rfl | rfl | rfl | rfl
      · exact ⟨v, rfl, by omega⟩
      · exact ⟨6, rfl, by omega⟩
      · exact ⟨7, rfl, by omega⟩
      · exact ⟨8 + w, by congr 1, by omega⟩
    simp only [List.length_cons, List.length_nil] at hi
    obtain ⟨A4, C4, r1, r2, r3, r4⟩ := k29_right K k hl (A0 := A3) (B0 := B) (C0 := C3) g1 g2 (by omega)
    rw [he]
    exact ⟨_, _, .bool true, _, rfl, l29_elt r1, rfl, rfl, A4, C4, rfl, r2, by omega, by push_cast; omega⟩
  exact ⟨ys, A3, C3, by rw [q1, q4], q3, q5, q6, by simp at q7; omega⟩
theorem l29_for {k : Nat} {cs : List Int} (hcs : cs.length ≤ 63) {e0 : Option Ob} : ∀ (n m : Nat) (e2 e3 : Option Ob), m + n = cs.length →
    ∃ e2' e3', forL (forT (runF T (k + 11)) [] (.inr 2) l29Body) (rangeL (m : Int) n 1) [e0, some (.v (.list (cs.map .int))), e2, e3, none] = .ok .nx [e0, some (.v (.list (cs.map .int))), e2', e3', none]
  | 0, m, e2, e3, _ => ⟨e2, e3, by rw [rangeL]; rfl⟩
  | n + 1, m, e2, e3, h => by
    obtain ⟨A, B, b1, b2⟩ := box_spec K.h23 (k + 10) cs m (by omega) (by omega)
    obtain ⟨ys, A1, C1, q1, q2, q3, q4, q5⟩ := l29_comp K k (A := A) (B := B) (C := 0) b2 (by omega) (by omega) e0 (some (.v (.list (cs.map .int)))) (some (.v (.int (m : Int))))
    obtain ⟨v, A2, C2, t2, hv, hA2, hC2, hC2'⟩ := take_nat' K.h24 (k + 10) (A := A1) (B := B) (C := C1) q3 q4 (by omega) 5 (z := 5) rfl (by omega) (by omega)
    obtain ⟨A3, C3, w, hA3, hC3, hC3'⟩ := k29_often K k (l := 4 + v) (by omega) (A0 := A2) (B0 := B) (C0 := C2) hA2 (by omega) (by omega)
    rw [show ((4 + v : Nat) : Int) = 4 + (v : Int) from rfl] at w
    obtain ⟨v4, A4, C4, t4, hv4, hA4, hC4, hC4'⟩ := take_nat' K.h24 (k + 10) (A := A3) (B := B) (C := C3) hA3 (by omega) (by omega) 2 (z := 2) rfl (by omega) (by omega)
    obtain ⟨A5, C5, w5, _⟩ := k29_right K k (l := 11 + v4) (by omega) (A0 := A4) (B0 := B) (C0 := C4) hA4 (by omega) (by omega)
    rw [show ((11 + v4 : Nat) : Int) = 11 + (v4 : Int) from rfl] at w5
    have c1 := l29_or (all_lc q1 q2) (l29_c28 (e0 := e0) (e1 := some (.v (.list (cs.map .int)))) (e2 := some (.v (.int (m : Int)))) t2 w)
    obtain ⟨t6, c2⟩ := l29_and (cf := runF T (k + 11)) (e0 := e0) (e1 := some (.v (.list (cs.map .int)))) (J := (m : Int)) ⟨_, l29_c27 (e2 := some (.v (.int (m : Int)))) t4 w5⟩
    obtain ⟨e2', e3', ih⟩ := l29_for (k := k) hcs (e0 := e0) n (m + 1) (some (.v (.int (m : Int)))) (some (.ml t6)) (by omega)
    refine ⟨e2', e3', ?_⟩
    have t : forT (runF T (k + 11)) [] (.inr 2) l29Body (.int (m : Int)) [e0, some (.v (.list (cs.map .int))), e2, e3, none] = .ok .nx [e0, some (.v (.list (cs.map .int))), some (.v (.int (m : Int))), some (.ml t6), none] := by
      rw [forT]
      simp only [setTg, List.set]
      rw [l29Body, st_asg (o := .ml (tin A B 0)) (env'' := [e0, some (.v (.list (cs.map .int))), some (.v (.int (m : Int))), some (.ml (tin A B 0)), none]) rfl (l29_box b1) rfl, st_skip c1 (y_ss0 ..), st_skip c2 (y_ss0 ..), y_ss0]
    rw [rangeL_up, forL, t, Rs.bind_ok]
    exact ih
theorem k29_law (ns : List Int) : runF T 40 29 [.v (ro (ns.map .int))] = .ret (.v (.bool true)) [] := by
  obtain ⟨cs, c1, c2, c3⟩ := cells_spec K.h25 38 2 (by omega) (by omega) ns
  rw [show ((2 : Nat) : Int) = 2 from rfl] at c1
  generalize ro (ns.map .int) = d0 at c1 ⊢
  obtain ⟨e2, e3, f⟩ := l29_for K (k := 28) (cs := cs) (by omega) (e0 := some (.v d0)) cs.length 0 none none (by omega)
  have f' : forL (forT (runF T 39) [] (.inr 2) l29Body) (rangeL 0 cs.length 1) [some (.v d0), some (.v (.list (cs.map .int))), none, none, none] = .ok .nx [some (.v d0), some (.v (.list (cs.map .int))), e2, e3, none] := f
  rw [l29Body] at f'
  have hs : ∃ env', evSs (runF T 39) [] (q_law_12 25 23 24 27 28) [some (.v d0), none, none, none, none] = .ok (.rt (.v (.bool true))) env' := by
    rw [q_law_12, st_asg (env'' := [some (.v d0), some (.v (.list (cs.map .int))), none, none, none]) rfl (l29_cells c1) rfl, st_for rfl (range_it (n := cs.length) (by omega) (by rw [l29_len, List.length_map])) f']
    exact ⟨_, st_ret rfl (by rw [y_c])⟩
  obtain ⟨env', hs⟩ := hs
  exact run_ret (k := 39) K.h29 rfl rfl hs
end
end Pv
namespace Row
open PySem L2 Pv
def top (i : Nat) : Stmt := PySem.Challenge.pw_leftspread_k29_main_two_numbers_are_one.main.body.getD i (.Pass ⟨0, 0, 0, 0⟩)
def b0 : ISs := q_is_number
def N0 : List Str := ["thing"]
/-- is_number -/
def e0 : Ent := ⟨"is_number", "is_number", defArgs (top 3), defBody (top 3), defScope (top 3), N0, ⟨1, 1, [], b0⟩⟩
def b1 : ISs := q_is_among 0
def N1 : List Str := ["thing", "least", "most"]
/-- is_among -/
def e1 : Ent := ⟨"is_among", "is_among", defArgs (top 4), defBody (top 4), defScope (top 4), N1, ⟨3, 3, [], b1⟩⟩
def b2 : ISs := q_tupled 2
def N2 : List Str := ["value", "own"]
/-- tupled -/
def e2 : Ent := ⟨"tupled", "tupled", defArgs (top 5), defBody (top 5), defScope (top 5), N2, ⟨1, 2, [], b2⟩⟩
def b3 : ISs := q_sure_number 1
def N3 : List Str := ["thing", "least", "most"]
/-- sure_number -/
def e3 : Ent := ⟨"sure_number", "sure_number", defArgs (top 6), defBody (top 6), defScope (top 6), N3, ⟨3, 3, [], b3⟩⟩
def b4 : ISs := q_rows_in_2
def N4 : List Str := ["level", "last", "rows", "_", "number", "row", "turned"]
/-- rows_in -/
def e4 : Ent := ⟨"rows_in", "rows_in", defArgs (top 9), defBody (top 9), defScope (top 9), N4, ⟨1, 7, [], b4⟩⟩
def b5 : ISs := q_product_in
def N5 : List Str := ["rows", "one", "other"]
/-- product_in -/
def e5 : Ent := ⟨"product_in", "product_in", defArgs (top 10), defBody (top 10), defScope (top 10), N5, ⟨3, 3, [], b5⟩⟩
def b6 : ISs := q_sure_level 3
def N6 : List Str := ["thing"]
/-- sure_level -/
def e6 : Ent := ⟨"sure_level", "sure_level", defArgs (top 11), defBody (top 11), defScope (top 11), N6, ⟨1, 1, [], b6⟩⟩
def b7 : ISs := q_sure_in 3
def N7 : List Str := ["level", "thing"]
/-- sure_in -/
def e7 : Ent := ⟨"sure_in", "sure_in", defArgs (top 12), defBody (top 12), defScope (top 12), N7, ⟨2, 2, [], b7⟩⟩
def b8 : ISs := q_sure_all_in 2 1
def N8 : List Str := ["level", "thing", "own", "its"]
/-- sure_all_in -/
def e8 : Ent := ⟨"sure_all_in", "sure_all_in", defArgs (top 13), defBody (top 13), defScope (top 13), N8, ⟨2, 4, [], b8⟩⟩
def b9 : ISs := q_times 6 7 5 4
def N9 : List Str := ["level", "one", "other", "told", "near"]
/-- times -/
def e9 : Ent := ⟨"times", "times", defArgs (top 14), defBody (top 14), defScope (top 14), N9, ⟨3, 5, [], b9⟩⟩
def b10 : ISs := q_table_row 6 7 4
def N10 : List Str := ["level", "one", "told", "near"]
/-- table_row -/
def e10 : Ent := ⟨"table_row", "table_row", defArgs (top 15), defBody (top 15), defScope (top 15), N10, ⟨2, 4, [], b10⟩⟩
def b11 : ISs := q_period 10
def N11 : List Str := ["level", "one"]
/-- period -/
def e11 : Ent := ⟨"period", "period", defArgs (top 16), defBody (top 16), defScope (top 16), N11, ⟨2, 2, [], b11⟩⟩
def b12 : ISs := q_both_in 5
def N12 : List Str := ["level", "rows", "one", "other", "last"]
/-- both_in -/
def e12 : Ent := ⟨"both_in", "both_in", defArgs (top 19), defBody (top 19), defScope (top 19), N12, ⟨4, 5, [], b12⟩⟩
def b13 : ISs := q_both 6 7 12 4
def N13 : List Str := ["level", "one", "other", "told", "near"]
/-- both -/
def e13 : Ent := ⟨"both", "both", defArgs (top 20), defBody (top 20), defScope (top 20), N13, ⟨3, 5, [], b13⟩⟩
def b14 : ISs := q_folded 4 12
def N14 : List Str := ["level", "numbers", "rows", "found", "own"]
/-- folded -/
def e14 : Ent := ⟨"folded", "folded", defArgs (top 21), defBody (top 21), defScope (top 21), N14, ⟨2, 5, [], b14⟩⟩
def b15 : ISs := q_all_both 6 14 8
def N15 : List Str := ["level", "numbers", "told"]
/-- all_both -/
def e15 : Ent := ⟨"all_both", "all_both", defArgs (top 22), defBody (top 22), defScope (top 22), N15, ⟨2, 3, [], b15⟩⟩
def b16 : ISs := q_both_times 6 7 14 3
def N16 : List Str := ["level", "one", "many", "told", "own"]
/-- both_times -/
def e16 : Ent := ⟨"both_times", "both_times", defArgs (top 23), defBody (top 23), defScope (top 23), N16, ⟨3, 5, [], b16⟩⟩
def b17 : ISs := q_is_both 13 0
def N17 : List Str := ["level", "one", "other", "thing", "found"]
/-- is_both -/
def e17 : Ent := ⟨"is_both", "is_both", defArgs (top 24), defBody (top 24), defScope (top 24), N17, ⟨4, 5, [], b17⟩⟩
def b18 : ISs := q_laws_of_both 6 7 4 12 5
def N18 : List Str := ["level", "one", "other", "third", "told", "a", "b", "c", "rows", "pair", "ahead", "behind", "last", "one_pair", "two_pair", "three_pair"]
/-- laws_of_both -/
def e18 : Ent := ⟨"laws_of_both", "laws_of_both", defArgs (top 25), defBody (top 25), defScope (top 25), N18, ⟨4, 16, [], b18⟩⟩
def b19 : ISs := q_fixed_by 6 7 4 5
def N19 : List Str := ["level", "one", "told", "own", "rows", "its"]
/-- fixed_by -/
def e19 : Ent := ⟨"fixed_by", "fixed_by", defArgs (top 26), defBody (top 26), defScope (top 26), N19, ⟨2, 6, [], b19⟩⟩
def b20 : ISs := q_sure_below 3
def N20 : List Str := ["level"]
/-- sure_below -/
def e20 : Ent := ⟨"sure_below", "sure_below", defArgs (top 30), defBody (top 30), defScope (top 30), N20, ⟨1, 1, [], b20⟩⟩
def b21 : ISs := q_lowered_in
def N21 : List Str := ["level", "number"]
/-- lowered_in -/
def e21 : Ent := ⟨"lowered_in", "lowered_in", defArgs (top 31), defBody (top 31), defScope (top 31), N21, ⟨2, 2, [], b21⟩⟩
def b22 : ISs := q_lowered 20 21 3
def N22 : List Str := ["level", "number", "told"]
/-- lowered -/
def e22 : Ent := ⟨"lowered", "lowered", defArgs (top 32), defBody (top 32), defScope (top 32), N22, ⟨2, 3, [], b22⟩⟩
def b23 : ISs := q_law_box 9285029
def N23 : List Str := ["script", "k", "bit_so"]
/-- _law_box -/
def e23 : Ent := ⟨"_law_box", "_law_box", defArgs (top 34), defBody (top 34), defScope (top 34), N23, ⟨2, 3, [], b23⟩⟩
def b24 : ISs := q_law_take
def N24 : List Str := ["tin", "below_so", "drawn_so", "once_so", "wide_so", "twice_so"]
/-- _law_take -/
def e24 : Ent := ⟨"_law_take", "_law_take", defArgs (top 35), defBody (top 35), defScope (top 35), N24, ⟨2, 6, [0], b24⟩⟩
def b25 : ISs := q_law_cells
def N25 : List Str := ["script", "most_so", "cells_so", "k", "bit_so", "at_so"]
/-- _law_cells -/
def e25 : Ent := ⟨"_law_cells", "_law_cells", defArgs (top 36), defBody (top 36), defScope (top 36), N25, ⟨2, 6, [], b25⟩⟩
def b26 : ISs := q_law_same 26
def N26 : List Str := ["got", "due", "mine", "its"]
/-- _law_same -/
def e26 : Ent := ⟨"_law_same", "_law_same", defArgs (top 37), defBody (top 37), defScope (top 37), N26, ⟨2, 4, [], b26⟩⟩
def b27 : ISs := q_law_right_29 24 13 18 9 16 15 17 22 19 26
def N27 : List Str := ["tin", "floor_so", "last_so", "a", "b", "c", "done_so", "sides_so", "got", "near", "far", "due", "lap", "d", "other_so", "half_so", "left_so"]
/-- _law_right -/
def e27 : Ent := ⟨"_law_right", "_law_right", defArgs (top 38), defBody (top 38), defScope (top 38), N27, ⟨2, 17, [0], b27⟩⟩
def b28 : ISs := q_law_often_right 24 9 16 10 26 11
def N28 : List Str := ["tin", "floor_so", "last_so", "a", "d", "often_so", "here", "lap", "done_so", "row_so"]
/-- _law_often_right -/
def e28 : Ent := ⟨"_law_often_right", "_law_often_right", defArgs (top 39), defBody (top 39), defScope (top 39), N28, ⟨2, 10, [0], b28⟩⟩
def b29 : ISs := q_law_12 25 23 24 27 28
def N29 : List Str := ["script", "cells_so", "k", "tin", "floor_so"]
/-- law -/
def e29 : Ent := ⟨"law", "law", defArgs (top 40), defBody (top 40), defScope (top 40), N29, ⟨1, 5, [], b29⟩⟩
def ents0 : List Ent := [e0, e1, e2, e3, e4, e5, e6, e7, e8, e9, e10, e11, e12, e13, e14, e15, e16, e17, e18, e19, e20, e21, e22, e23, e24, e25, e26, e27, e28, e29]
def ents : List Ent := ents0
def cI0 : List (Str × Int) := [("MOST_LEVEL", 12), ("MOST_TIMES", 1000), ("MOST_BELOW", 11), ("MOST_NUMBER", 4096)]
def cI : List (Str × Int) := cI0
def cS0 : List (Str × Str) := []
def cS : List (Str × Str) := cS0
def bts0 : List Str := ["abs", "all", "bool", "enumerate", "int", "isinstance", "len", "list", "min", "range", "str", "tuple", "zip"]
def bts : List Str := bts0
def loose0 : List Str := ["Unfit", "is_number", "is_among", "tupled", "sure_number", "MOST_LEVEL", "rows_in", "product_in", "sure_level", "sure_in", "sure_all_in", "times", "table_row", "period", "MOST_TIMES", "both_in", "both", "folded", "all_both", "both_times", "is_both", "laws_of_both", "fixed_by", "MOST_BELOW", "MOST_NUMBER", "sure_below", "lowered_in", "lowered", "_law_box", "_law_take"]
def loose1 : List Str := ["_law_cells", "_law_same", "_law_right", "_law_often_right"]
def loose : List Str := loose0 ++ loose1
def T : Tab := ⟨ents, cI, cS, bts⟩
end Row

namespace Row
open PySem PySem.Spec PyProof.Rows L2 Pv
abbrev R : PySem.W.OpenRow := PySem.W.OpenLaw.row PySem.Challenge.rw_leftspread_k29_main_two_numbers_are_one
abbrev hk : PySem.W.Hook := He.hookD 4 T.fa T.fns
def ob (s : PySem.W.SharedT) : He.AlD := He.obsDG 4 T.fa T.fns (HandSHeadRun.getT s)
theorem ob_eq (s : PySem.W.SharedT) : ob s = hk.obs s.abs := He.obsDG_eq (HandSHeadRun.getT_eq s)
theorem tab_good : T.ok = true := by kernel_rfl
theorem run (w : World) : HandSHeadRun.RunEq R (PySem.W.view R.prog [40]) hk ob 4000 loose w := by
  intro os
  kernel_rfl
theorem k29t : K29T T.fd := by constructor <;> rfl
theorem law_runs (ns : List Int) (h : ns.length ≤ 63) : runF T.fd 40 29 [.v (ro (ns.map .int))] = .ret (.v (.bool true)) [] := k29_law k29t ns

end Row
open PySem PySem.W PySem.Calls PyProof.Rows
theorem PySem.Challenge.cw_leftspread_k29_main_two_numbers_are_one_holds : PySem.Challenge.rw_leftspread_k29_main_two_numbers_are_one.Holds := by
  w_on; o_law
  refine HandSHeadRun.head_any (r := OpenLaw.row PySem.Challenge.rw_leftspread_k29_main_two_numbers_are_one) (q := view (OpenLaw.row PySem.Challenge.rw_leftspread_k29_main_two_numbers_are_one).prog [40]) (H := Row.hk) (ob := Row.ob) (M := 4000) (loose := Row.loose) (d := HandSHeadRun.topDef (OpenLaw.row PySem.Challenge.rw_leftspread_k29_main_two_numbers_are_one).prog 40) (kwd := []) Row.ob_eq
    (by kernel_rfl) (fun s => by kernel_rfl) Row.run (by kernel_rfl) (by kernel_rfl) (by kernel_rfl) (by rfl) (by first | assumption | decide +kernel) (by decide +kernel) ⟨rfl, rfl, rfl, rfl, rfl, by decide +kernel⟩ ?hw ?hc
  case hw => w_witness2
  case hc =>
    refine L2.walk_ofE (l := PySem.Challenge.rw_leftspread_k29_main_two_numbers_are_one) (n := 63) (k := 40) (x := "script") (CX := Pv.CXany (PySem.Challenge.rw_leftspread_k29_main_two_numbers_are_one).prog) rfl (by decide) (by kernel_rfl) ⟨rfl, by decide, by decide⟩ ?F (Pv.CXany_no _)
    intro w mg fa h Y G hmg0
    have hmg : mg ("law" : PySem.Str) = some (.ref fa) := by
      have e : (HandSHeadRun.topDef (OpenLaw.row PySem.Challenge.rw_leftspread_k29_main_two_numbers_are_one).prog 40).name = ("law" : PySem.Str) := by kernel_rfl
      rw [← e]
      exact hmg0
    exact Pv.law_F (E := Row.e29) Row.tab_good rfl (by kernel_rfl) Row.law_runs w mg fa h Y G hmg
