import PyProof.Rows.All
import PySem.Challenge.RW_leftspread_k04_whole_rows_of_moves
import KE.SortData
import KE.KeyNested
import HandS.ForMost
import HandS.Text
import HandS.Exc
import HandS.Walk
import HandS.TupAny
import HandS.Deep
import HandS.Flow
import HandS.Style
import HandS.Wide
import HandS.TupMul
import HandS.SetFor
import HandS.Strs
import HandS.SortInts
import HandS.TupSets
import PyProof.P3Eq
import HandS.List
import KE.DataMinMax
import HandS.IsInst
import HandS.ExcOwn
import HandS.TryOnly
import PyProof.EnumMake
import PyProof.Draws
import HandS.Zip0
import HandS.Zip
import HandS.Words
import HandS.Conv
import HandS.Star
import HandS.ExcIs
import HandS.Head0
import HandS.HeadHook1
import HandS.HeadHook2
import HandS.Defaults
import HandS.Head1
import HandS.Head2
import HandS.HeadEnd
set_option Elab.async false
set_option linter.all false
set_option maxRecDepth 100000
set_option maxHeartbeats 0
-- PvDat
set_option maxRecDepth 100000
namespace Pv
open PySem
abbrev PV := PyData
abbrev NK := NestedKey
/-- before, by Python's order -/
def pLt (a b : PV) : Bool := PySem.W.dataLt a b
def insP (d : PV) : List PV → List PV
  | [] => [d]
  | e :: r => if pLt e d then e :: insP d r else d :: e :: r
def sortP : List PV → List PV
  | [] => []
  | d :: r => insP d (sortP r)
def tupB : PV → Bool
  | .tuple (_ :: _) => true
  | _ => false
def othB : PV → Bool
  | .none => false
  | .tuple _ => false
  | _ => true
def sortOk (xs : List PV) : Bool := (xs.all fun d => decide (d.depth ≤ 150) && (xs.all fun e => PySem.W.alike d e)) && (xs.all tupB || xs.all othB)
def bInts : List PV → Option (List Int)
  | [] => some []
  | .int i :: r => (bInts r).map (i :: ·)
  | _ :: _ => none
/-- strictly rising, each once -/
def insS (n : Int) : List Int → List Int
  | [] => [n]
  | m :: r => if n < m then n :: m :: r else if n = m then m :: r else m :: insS n r
def sortS : List Int → List Int
  | [] => []
  | n :: r => insS n (sortS r)
def sItems : PV → Option (List PV)
  | .list xs => some xs
  | .tuple xs => some xs
  | _ => none
/-- the members of set(d), rising -/
def setf (d : PV) : Option (List Int) := (sItems d).bind fun xs => (bInts xs).bind fun ns => if ns.length + 1 < 4096 then some (sortS ns) else none
mutual
def toNK : PV → Option NK
  | .none => some .none
  | .int i => some (.num i)
  | .tuple xs => (toNKs xs).map .tup
  | _ => none
def toNKs : List PV → Option (List NK)
  | [] => some []
  | d :: r => (toNK d).bind fun k => (toNKs r).map (k :: ·)
end
def uniqK : List NK → List NK
  | [] => []
  | k :: r => if k ∈ uniqK r then uniqK r else k :: uniqK r
def isTup (d : PV) : Bool := match d with
  | .tuple _ => true
  | _ => false
/-- the members of set(ds), each once -/
def nset (ds : List PV) : Option (List NK) := (toNKs ds).bind fun ks => if (ds.all isTup && ks.all fun k => decide (k.depth ≤ 8)) && decide ((uniqK ks).length < 63) then some (uniqK ks) else none
end Pv
-- PvEval
set_option maxRecDepth 100000
namespace Pv
open PySem L2

/-- what a name may hold: a value that never changes; a list of one's own that nothing else holds; a def by its number -/
inductive Ob where
  | v (d : PV) | ml (xs : List PV) | fn (f : Nat)
  deriving Inhabited
def Ob.mut : Ob → Bool
  | .ml _ => true
  | _ => false
/-- what may be read of it -/
def Ob.view : Ob → Option PV
  | .v d => some d
  | .ml xs => some (.list xs)
  | .fn _ => none
def Ob.frozen : Ob → Ob
  | .ml xs => .v (.list xs)
  | o => o

abbrev En := List (Option Ob)

inductive Rs (α : Type) where
  | ok (a : α) (e : En) | ex (c : Nat) (as : List PV) (e : En) | no
def Rs.bind {α β : Type} (r : Rs α) (k : α → En → Rs β) : Rs β := match r with
  | .ok a e => k a e
  | .ex c as e => .ex c as e
  | .no => .no
@[simp] theorem Rs.bind_ok {α β : Type} (a : α) (e : En) (k : α → En → Rs β) : (Rs.ok a e).bind k = k a e := rfl
@[simp] theorem Rs.bind_ex {α β : Type} (c : Nat) (as : List PV) (e : En) (k : α → En → Rs β) : (Rs.ex (α := α) c as e).bind k = .ex c as e := rfl
@[simp] theorem Rs.bind_no {α β : Type} (k : α → En → Rs β) : (Rs.no (α := α)).bind k = .no := rfl
def optR {α : Type} (o : Option α) (e : En) : Rs α := match o with
  | some a => .ok a e
  | none => .no
@[simp] theorem optR_some {α : Type} (a : α) (e : En) : optR (some a) e = .ok a e := rfl
@[simp] theorem optR_none {α : Type} (e : En) : optR (none : Option α) e = .no := rfl

/-- how a call ends: the value and what the changed arguments became; an error -/
inductive CR where
  | ret (o : Ob) (outs : List Ob) | exc (c : Nat) (as : List PV) | no

inductive Op where
  | add | sub | mul | fdiv | mod | pow | shl | neg
  | eq | ne | lt | le | gt | ge | isN | notN | isin | notin
  | idx | slice (lo hi : Bool) | rev
  | len | abs | int | tuple | list | bool
  | isList | isTuple | isSeq | isInt | isBool | isStr | isBoolStr
  | all | any | sum | min1 | max1 | min2 | max2
  | lindex | lcount
  | listR | tupR | str
  | sorted | sset | lset
  deriving DecidableEq

/-- methods that leave all as it is -/
inductive Mt where
  | lindex | split | words | join | scount
  deriving DecidableEq
mutual
inductive IE where
  | c (d : PV) | x (i : Nat) | f (n : Nat)
  | tup (es : IEs) | lst (es : IEs)
  | op (o : Op) (es : IEs)
  | and (a b : IE) | or (a b : IE) | not (a : IE) | ite (c a b : IE)
  | chain (o1 o2 : Op) (a b c : IE)
  | sl2 (a : IEs) (lo hi : IE)
  | meth (m : Mt) (a : IEs) (es : IEs)
  | call (f : Nat) (es : IEs) | callk (f : Nat) (perm : List Nat) (es : IEs)
  | callx (i : Nat) (es : IEs)
  | calls (f : Nat) (e : IE)
  | callf (fs : List Nat) (i : Nat) (es : IEs)
  | popi (i : Nat) (e : IE)
  | pop (i : Nat)
  | lc (own : List Nat) (tg : List Nat ⊕ Nat) (it : IT) (cond : IEs) (elt : IE)
inductive IEs where
  | nil | cons (io : Bool) (e : IE) (es : IEs)
inductive IT where
  | seq (e : IE) | enum (e : IE) | zip (a b : IE) | range (es : IEs)
end
def IE.isX : IE → Option Nat
  | .x i => some i
  | _ => none

def lim : Nat := sizeLine

def truth : PV → Option Bool
  | .none => some false
  | .bool b => some b
  | .int i => some (i != 0)
  | .str s => if s.length ≤ lim then some (s.length != 0) else none
  | .list xs => some (!xs.isEmpty)
  | .tuple xs => some (!xs.isEmpty)
  | .dict _ => none

def small (i : Int) : Bool := decide (-(2 ^ 64) < i) && decide (i < 2 ^ 64)
def isD : PV → Bool
  | .dict _ => true
  | _ => false
def eqOk (a b : PV) : Bool := (!isD a && !isD b) && (decide (a.depth ≤ 150) || decide (b.depth ≤ 150))
def bInt : PV → Option Int
  | .int i => some i
  | _ => none
def bBool : PV → Option Bool
  | .bool i => some i
  | _ => none
def bBools : List PV → Option (List Bool)
  | [] => some []
  | .bool i :: r => (bBools r).map (i :: ·)
  | _ :: _ => none
def lastMax : Int → List Int → Int
  | m, [] => m
  | m, i :: r => lastMax (if i > m then i else m) r
def lastMin : Int → List Int → Int
  | m, [] => m
  | m, i :: r => lastMin (if i < m then i else m) r
def firstAt (d : PV) : List PV → Option Nat
  | [] => none
  | z :: r => if PyData.eqv z d then some 0 else (firstAt d r).map (· + 1)
def cutP (xs : List PV) (lo hi : Option Int) : List PV := (xs.drop (HT.sIx xs.length 0 lo)).take (HT.sIx xs.length xs.length hi - HT.sIx xs.length 0 lo)
def vI (i : Int) : Option Ob := some (.v (.int i))
def vB (b : Bool) : Option Ob := some (.v (.bool b))

def isD' : PV → Bool := isD
def eqf (a b : PV) : Option Bool := if eqOk a b then some (PyData.eqv a b) else none
def nef (a b : PV) : Option Bool := if eqOk a b then some (!PyData.eqv a b) else none
def ltf : PV → PV → Option Bool
  | .int i, .int j => some (decide (i < j))
  | _, _ => none
def lef : PV → PV → Option Bool
  | .int i, .int j => some (decide (i ≤ j))
  | _, _ => none
def gtf : PV → PV → Option Bool
  | .int i, .int j => some (decide (j < i))
  | _, _ => none
def gef : PV → PV → Option Bool
  | .int i, .int j => some (decide (j ≤ i))
  | _, _ => none
def isNone : PV → Bool
  | .none => true
  | _ => false
def isNf (a : PV) : PV → Option Bool
  | .none => some (isNone a)
  | _ => none
def notNf (a : PV) : PV → Option Bool
  | .none => some (!isNone a)
  | _ => none
def mem (a : PV) (ds : List PV) : Bool := ds.any fun z => PyData.eqv z a
def inf (a : PV) : PV → Option Bool
  | .list ds => if !isD a && decide (a.depth ≤ 150) then some (mem a ds) else none
  | .tuple ds => if !isD a && decide (a.depth ≤ 150) then some (mem a ds) else none
  | .str b => (match a with
    | .str a => some (!(Builtin.Str.occurrences b a 0 b.length 1).isEmpty)
    | _ => none)
  | _ => none
/-- a two-place comparison of views -/
def cmpf : Op → PV → PV → Option Bool
  | .eq, a, b => eqf a b
  | .ne, a, b => nef a b
  | .lt, a, b => ltf a b
  | .le, a, b => lef a b
  | .gt, a, b => gtf a b
  | .ge, a, b => gef a b
  | .isN, a, b => isNf a b
  | .notN, a, b => notNf a b
  | .isin, a, b => inf a b
  | .notin, a, b => (inf a b).map (!·)
  | _, _, _ => none
def isK : PV → Option Unit
  | .dict _ => none
  | _ => some ()
def isListV : PV → Bool
  | .list _ => true
  | _ => false
def isTupV : PV → Bool
  | .tuple _ => true
  | _ => false
def isSeqV (d : PV) : Bool := isListV d || isTupV d
def isIntV : PV → Bool
  | .int _ => true
  | .bool _ => true
  | _ => false
def isBoolV : PV → Bool
  | .bool _ => true
  | _ => false
def isStrV : PV → Bool
  | .str _ => true
  | _ => false
def kindf (p : PV → Bool) (d : PV) : Option Ob := if isD d then none else vB (p d)
def addf : PV → PV → Option Ob
  | .int i, .int j => vI (i + j)
  | .str i, .str j => if i.length + j.length ≤ lim then some (.v (.str (i ++ j))) else none
  | .list xs, .list ys => if xs.length + ys.length ≤ lim then some (.ml (xs ++ ys)) else none
  | .tuple xs, .tuple ys => if xs.length + ys.length ≤ lim then some (.v (.tuple (xs ++ ys))) else none
  | _, _ => none
def subf : PV → PV → Option Ob
  | .int i, .int j => vI (i - j)
  | _, _ => none
def mulf : PV → PV → Option Ob
  | .int i, .int j => if small i || small j then vI (i * j) else none
  | .list xs, .int k => if (decide (-(2 ^ 63) ≤ k) && decide (k < 2 ^ 63)) && decide (xs.length * k.toNat ≤ lim) then some (.ml (List.replicate k.toNat xs).flatten) else none
  | .tuple xs, .int k => if (!xs.isEmpty && decide (2 ≤ k)) && (decide (k ≤ 1000) && decide (xs.length ≤ 1000)) then some (.v (.tuple (List.replicate k.toNat xs).flatten)) else none
  | _, _ => none
def fdivf : PV → PV → Option Ob
  | .int i, .int j => if decide (0 < j) && decide (j.natAbs.log2 < 9000) then vI (i / j) else none
  | _, _ => none
def modf : PV → PV → Option Ob
  | .int i, .int j => if 0 < j then vI (i % j) else none
  | _, _ => none
def powOk (i j : Int) : Bool := (decide (0 ≤ j) && decide (j ≤ 1000000)) && decide (i.natAbs < 2 ^ 64)
def powf : PV → PV → Option Ob
  | .int i, .int j => if powOk i j then vI (i ^ j.toNat) else none
  | _, _ => none
def shlf : PV → PV → Option Ob
  | .int i, .int j => if powOk i j then vI (i * 2 ^ j.toNat) else none
  | _, _ => none
def negf : PV → Option Ob
  | .int i => vI (-i)
  | _ => none
def idxf : PV → PV → Option Ob
  | .list xs, .int i => (atI xs i).map .v
  | .tuple xs, .int i => (atI xs i).map .v
  | .str z, .int i => if z.length ≤ lim then (atI z.cps.toList i).map fun c => .v (.str ⟨#[c]⟩) else none
  | _, _ => none
def slicef (d : PV) (lo hi : Option Int) : Option Ob := match d with
  | .list xs => some (.ml (cutP xs lo hi))
  | .tuple xs => some (.v (.tuple (cutP xs lo hi)))
  | .dict [(.none, .list xs)] => some (.ml (cutP xs lo hi))
  | _ => none
def revf : PV → Option Ob
  | .list xs => some (.ml xs.reverse)
  | .tuple xs => some (.v (.tuple xs.reverse))
  | _ => none
def lenf : PV → Option Ob
  | .list xs => vI xs.length
  | .tuple xs => vI xs.length
  | .str z => if z.length ≤ lim then vI z.length else none
  | _ => none
def absf : PV → Option Ob
  | .int i => vI (if i < 0 then -i else i)
  | _ => none
def intf : PV → Option Ob
  | .int i => vI i
  | .bool b => vI (if b then 1 else 0)
  | _ => none
def boolf : PV → Option Ob
  | .int i => vB (i != 0)
  | .bool b => vB b
  | _ => none
def tuplef : PV → Option Ob
  | .list xs => some (.v (.tuple xs))
  | .tuple xs => some (.v (.tuple xs))
  | _ => none
def listf : PV → Option Ob
  | .list xs => some (.ml xs)
  | .tuple xs => some (.ml xs)
  | _ => none
def allf : PV → Option Ob
  | .list xs => (bBools xs).bind fun bs => vB (bs.all id)
  | _ => none
def anyf : PV → Option Ob
  | .list xs => (bBools xs).bind fun bs => vB (bs.any id)
  | _ => none
def sumf : PV → Option Ob
  | .list xs => (bInts xs).bind fun ns => vI ns.sum
  | _ => none
def max1f : PV → Option Ob
  | .list xs => (match bInts xs with
    | some (n :: ns) => vI (lastMax n ns)
    | _ => none)
  | .tuple xs => (match bInts xs with
    | some (n :: ns) => vI (lastMax n ns)
    | _ => none)
  | _ => none
def min1f : PV → Option Ob
  | .list xs => (match bInts xs with
    | some (n :: ns) => vI (lastMin n ns)
    | _ => none)
  | .tuple xs => (match bInts xs with
    | some (n :: ns) => vI (lastMin n ns)
    | _ => none)
  | _ => none
def max2f : PV → PV → Option Ob
  | .int i, .int j => vI (if j > i then j else i)
  | _, _ => none
def min2f : PV → PV → Option Ob
  | .int i, .int j => vI (if j < i then j else i)
  | _, _ => none
def lindexf : PV → PV → Option Ob
  | .list xs, d => if !isD d && (decide (d.depth ≤ 60) && decide (PyData.depthAll xs ≤ 60)) then (firstAt d xs).map fun (j : Nat) => Ob.v (.int (j : Int)) else none
  | _, _ => none
def rgOk (a b : Int) : Bool := (decide (-(2 ^ 62) ≤ a) && decide (a < 2 ^ 62)) && ((decide (-(2 ^ 62) ≤ b) && decide (b < 2 ^ 62)) && decide ((b - a).toNat ≤ 2 ^ 24))
def rgP (a b : Int) : List PV := (List.range (b - a).toNat).map fun (i : Nat) => .int (a + (i : Int))
def listRf : PV → PV → Option Ob
  | .int a, .int b => if rgOk a b then some (.ml (rgP a b)) else none
  | _, _ => none
def tupRf : PV → PV → Option Ob
  | .int a, .int b => if rgOk a b then some (.v (.tuple (rgP a b))) else none
  | _, _ => none
def strf : PV → Option Ob
  | .int i => if decide (i.natAbs.log2 < 1920) && PyData.strOk (toString i) then some (.v (.str (toString i))) else none
  | _ => none
def sortedf : PV → Option Ob
  | .list xs => if sortOk xs then some (.ml (sortP xs)) else none
  | _ => none
def ssetf (d : PV) : Option Ob := match setf d with
  | some ns => some (.ml (ns.map .int))
  | none => (sItems d).bind fun xs => (nset xs).bind fun ks => if sortOk (ks.map NestedKey.data) then some (.ml (sortP (ks.map NestedKey.data))) else none
def lsetf (d : PV) : Option Ob := match setf d with
  | some ns => vI (ns.length : Nat)
  | none => (sItems d).bind fun xs => (nset xs).bind fun ks => vI (ks.length : Nat)
def opf1 : Op → PV → Option Ob
  | .neg, d => negf d
  | .slice false false, d => slicef d none none
  | .rev, d => revf d
  | .len, d => lenf d
  | .abs, d => absf d
  | .int, d => intf d
  | .bool, d => boolf d
  | .tuple, d => tuplef d
  | .list, d => listf d
  | .isList, d => kindf isListV d
  | .isTuple, d => kindf isTupV d
  | .isSeq, d => kindf isSeqV d
  | .isInt, d => kindf isIntV d
  | .isBool, d => kindf isBoolV d
  | .isStr, d => kindf isStrV d
  | .isBoolStr, d => kindf (fun d => isBoolV d || isStrV d) d
  | .all, d => allf d
  | .any, d => anyf d
  | .sum, d => sumf d
  | .max1, d => max1f d
  | .min1, d => min1f d
  | .listR, d => listRf (.int 0) d
  | .tupR, d => tupRf (.int 0) d
  | .str, d => strf d
  | .sorted, d => sortedf d
  | .sset, d => ssetf d
  | .lset, d => lsetf d
  | _, _ => none
def opf2 : Op → PV → PV → Option Ob
  | .add, a, b => addf a b
  | .sub, a, b => subf a b
  | .mul, a, b => mulf a b
  | .fdiv, a, b => fdivf a b
  | .mod, a, b => modf a b
  | .pow, a, b => powf a b
  | .shl, a, b => shlf a b
  | .idx, a, b => idxf a b
  | .slice true false, d, a => (bInt a).bind fun a => slicef d (some a) none
  | .slice false true, d, b => (bInt b).bind fun b => slicef d none (some b)
  | .max2, a, b => max2f a b
  | .min2, a, b => min2f a b
  | .lindex, a, b => lindexf a b
  | .listR, a, b => listRf a b
  | .tupR, a, b => tupRf a b
  | o, a, b => (cmpf o a b).map fun k => .v (.bool k)
def opf3 : Op → PV → PV → PV → Option Ob
  | .slice true true, d, a, b => (bInt a).bind fun a => (bInt b).bind fun b => slicef d (some a) (some b)
  | _, _, _, _ => none
def strsOf : List PV → Option (List Str)
  | [] => some []
  | .str s :: r => (strsOf r).map (s :: ·)
  | _ :: _ => none
def seqOf : PV → Option (List PV)
  | .list xs => some xs
  | .tuple xs => some xs
  | _ => none
def newStrs (ys : List Str) : Option Ob := if ys.all PyData.strOk then some (.ml (ys.map .str)) else none
def methK : Mt → PV → Bool
  | .lindex, d => isListV d
  | _, d => isStrV d
def splitf : PV → PV → Option Ob
  | .str a, .str b => if !(b.length == 0) && decide (a.length + 2 ≤ lim) then newStrs (Txt.split a b) else none
  | _, _ => none
def wordsf : PV → Option Ob
  | .str a => if a.length + 2 ≤ lim then newStrs (Txt.words a) else none
  | _ => none
def joinf : PV → PV → Option Ob
  | .str a, d => (seqOf d).bind fun xs => (strsOf xs).bind fun ys => if decide ((ys.map (·.length)).sum + ys.length * a.length ≤ 16777216) && PyData.strOk (Txt.join a ys) then some (.v (.str (Txt.join a ys))) else none
  | _, _ => none
def scountf : PV → PV → Option Ob
  | .str a, .str b => vI (Txt.count a b)
  | _, _ => none
def methF (m : Mt) (d : PV) : List PV → Option Ob
  | [] => (match m with
    | .words => wordsf d
    | _ => none)
  | [e] => (match m with
    | .lindex => lindexf d e
    | .split => splitf d e
    | .join => joinf d e
    | .scount => scountf d e
    | .words => none)
  | _ => none
def opf (o : Op) : List PV → Option Ob
  | [a] => opf1 o a
  | [a, b] => opf2 o a b
  | [a, b, c] => opf3 o a b c
  | _ => none

def views : List Ob → Option (List PV)
  | [] => some []
  | o :: r => match o.view, views r with
    | some d, some ds => some (d :: ds)
    | _, _ => none

/-- an argument: a name (looked at when all are known), or what has come -/
abbrev Ag := Nat ⊕ Ob
def resolve (env : En) : List Ag → Option (List Ob)
  | [] => some []
  | .inl i :: r => match env[i]?, resolve env r with
    | some (some o), some os => some (o :: os)
    | _, _ => none
  | .inr o :: r => (resolve env r).map (o :: ·)

/-- outs of a call go back to the names -/
def putBack (env : En) : List (Bool × Ag) → List Ob → Option En
  | [], [] => some env
  | (false, _) :: r, outs => putBack env r outs
  | (true, .inl i) :: r, o :: outs => putBack (env.set i (some o)) r outs
  | (true, .inr _) :: r, _ :: outs => putBack env r outs
  | _, _ => none
/-- no name twice among the changed -/
def ioNames : List (Bool × Ag) → List Nat
  | [] => []
  | (true, .inl i) :: r => i :: ioNames r
  | _ :: r => ioNames r
/-- what is handed in: changed arguments are lists of one's own, the others never change -/
def handsOk : List (Bool × Ag) → List Ob → Bool
  | [], [] => true
  | (io, _) :: r, o :: os => (if io then o.mut else !o.mut) && handsOk r os
  | _, _ => false

def pickD (ds : List PV) : List Nat → Option (List PV)
  | [] => some []
  | i :: r => match ds[i]?, pickD ds r with
    | some d, some l => some (d :: l)
    | _, _ => none
def wipeE (env : En) (own : List Nat) : En := own.foldl (fun e i => e.set i none) env
/-- names of a block as they were ahead of it, where they hold what never changes -/
def restore (env0 env : En) : List Nat → En
  | [] => env
  | i :: r => restore env0 (match env0[i]? with
    | some (some (.v d)) => env.set i (some (.v d))
    | _ => env.set i none) r

def setTgs (env : En) : List Nat → List PV → Option En
  | [], [] => some env
  | i :: is, d :: ds => setTgs (env.set i (some (.v d))) is ds
  | _, _ => none
def setTg (env : En) (tg : List Nat ⊕ Nat) (d : PV) : Option En := match tg, d with
  | .inr i, d => some (env.set i (some (.v d)))
  | .inl is, .tuple ds => setTgs env is ds
  | _, _ => none

def rangeL (lo : Int) (n : Nat) (st : Int) : List PV := (List.range n).map fun (k : Nat) => .int (lo + (k : Int) * st)
def rangeV : List PV → Option (List PV)
  | [.int b] => if decide (-(2 ^ 62) ≤ b) && decide (b < 2 ^ 62) then some (rangeL 0 b.toNat 1) else none
  | [.int a, .int b] => if decide (-(2 ^ 62) ≤ a) && decide (a < 2 ^ 62) && decide (-(2 ^ 62) ≤ b) && decide (b < 2 ^ 62) then some (rangeL a (b - a).toNat 1) else none
  | [.int a, .int b, .int (-1)] => if decide (-(2 ^ 62) ≤ a) && decide (a < 2 ^ 62) && decide (-(2 ^ 62) ≤ b) && decide (b < 2 ^ 62) then some (rangeL a (a - b).toNat (-1)) else none
  | _ => none
def enumL : Nat → List PV → List PV
  | _, [] => []
  | k, d :: r => .tuple [.int k, d] :: enumL (k + 1) r
def zipL : List PV → List PV → List PV
  | a :: as, b :: bs => .tuple [a, b] :: zipL as bs
  | _, _ => []

/-- a list that is only looked at (the script) -/
def ro (xs : List PV) : PV := .dict [(.none, .list xs)]
def itemsOf : PV → Option (List PV)
  | .list xs => some xs
  | .tuple xs => some xs
  | .str s => some (s.cps.toList.map fun c => .str ⟨#[c]⟩)
  | _ => none
def listOf : PV → Option (List PV)
  | .list xs => some xs
  | .tuple xs => some xs
  | _ => none
def zipOf : PV → PV → Option (List PV)
  | .list xs, .list ys => some (zipL xs ys)
  | .tuple xs, .tuple ys => some (zipL xs ys)
  | _, _ => none
def wipeL (env : En) (l : List Nat) : En := l.foldl (fun e i => e.set i none) env
/-- a comprehension's turns -/
def loopL (turn : PV → List PV → En → Rs (List PV)) : List PV → List PV → En → Rs (List PV)
  | [], acc, env => .ok acc env
  | d :: r, acc, env => match turn d acc env with
    | .ok acc env => loopL turn r acc env
    | _ => .no
def fzR (o : Ob) (env : En) : Rs PV := match o.frozen with
  | .v (.dict _) => .no
  | .v d => .ok d env
  | _ => .no
def truR (o : Ob) (env : En) : Rs Bool := optR (o.view.bind truth) env

def methL (m : Mt) (env : En) (l : List (Bool × Ag)) : Bool := match (resolve env (l.map (·.2))).bind views with
  | some [d] => methK m d
  | _ => false
def methG (m : Mt) (ds : List PV) : List PV → Option Ob
  | [d] => methF m d ds
  | _ => none
section
variable (cf : Nat → List Ob → CR) (lk : List Nat)

def readX (env : En) (i : Nat) : Rs Ob := match env[i]? with
  | some (some o) => .ok o.frozen (if o.mut then env.set i (some o.frozen) else env)
  | _ => .no
def endCall (as : List (Bool × Ag)) (env : En) : CR → Rs Ob
  | .ret o outs => (match putBack env as outs with
    | some env' => .ok o env'
    | none => .no)
  | .exc c xs => .ex c xs (wipeL env (ioNames as))
  | .no => .no
def doCall (f : Nat) (as : List (Bool × Ag)) (env : En) : Rs Ob :=
  match resolve env (as.map (·.2)) with
  | some os => if handsOk as os && decide (ioNames as).Nodup then endCall as env (cf f os) else .no
  | none => .no
def doCallK (f : Nat) (perm : List Nat) (ds : List PV) (env : En) : Rs Ob :=
  match pickD ds perm with
  | some args => if ds.length == perm.length then endCall [] env (cf f (args.map .v)) else .no
  | none => .no
/-- f(*d) -/
def doCallS (f : Nat) (d : PV) (env : En) : Rs Ob := match seqOf d with
  | some ds => endCall [] env (cf f (ds.map .v))
  | none => .no
def isMl (env : En) (i : Nat) : Bool := match env[i]? with
  | some (some (.ml _)) => true
  | _ => false
def turnL (own : List Nat) (tg : List Nat ⊕ Nat) (cnd : En → Rs Bool) (elt : En → Rs Ob) (d : PV) (acc : List PV) (env : En) : Rs (List PV) :=
  match setTg (wipeL env own) tg d with
  | some env1 => (cnd env1).bind fun k env2 => if k then (elt env2).bind fun o env3 => (fzR o env3).bind fun y env3 =>
      if acc.length < lim then .ok (acc ++ [y]) env3 else .no
    else .ok acc env2
  | none => .no

/-- x.pop(k) -/
def popAt (i : Nat) (d : PV) (env : En) : Rs Ob := match env[i]?, d with
  | some (some (.ml xs)), .int k => if xs.length ≤ lim then (match ixN xs.length k with
    | some j => (match xs[j]? with
      | some d => .ok (.v d) (env.set i (some (.ml (xs.eraseIdx j))))
      | none => .no)
    | none => .no) else .no
  | _, _ => .no
mutual
def evE : IE → En → Rs Ob
  | .c d, env => .ok (.v d) env
  | .f n, env => .ok (.fn n) env
  | .x i, env => readX env i
  | .tup es, env => (evF es env).bind fun ds env => if ds.length ≤ lim then .ok (.v (.tuple ds)) env else .no
  | .lst es, env => (evF es env).bind fun ds env => if ds.length ≤ lim then .ok (.ml ds) env else .no
  | .op o es, env => (evA es env).bind fun as env => optR (((resolve env (as.map (·.2))).bind views).bind (opf o)) env
  | .and a b, env => (evE a env).bind fun o env => (truR o env).bind fun k env => if k then evE b env else .ok o env
  | .or a b, env => (evE a env).bind fun o env => (truR o env).bind fun k env => if k then .ok o env else evE b env
  | .not a, env => (evE a env).bind fun o env => (truR o env).bind fun k env => .ok (.v (.bool (!k))) env
  | .ite c a b, env => (evE c env).bind fun o env => (truR o env).bind fun k env => if k then evE a env else evE b env
  | .chain o1 o2 a b c, env => (evE a env).bind fun oa env => (evE b env).bind fun ob env =>
      match oa.view, ob.view with
      | some da, some db => (match cmpf o1 da db with
        | some true => (evE c env).bind fun oc env => optR ((oc.view.bind fun dc => cmpf o2 db dc).map fun k => .v (.bool k)) env
        | some false => .ok (.v (.bool false)) env
        | none => .no)
      | _, _ => .no
  | .sl2 a lo hi, env => (evA a env).bind fun as env => (evE lo env).bind fun ol env => match ol with
      | .v (.int i) => (evE hi env).bind fun oh env => (match oh with
        | .v (.int j) => optR (((resolve env (as.map (·.2))).bind views).bind fun ds => match ds with
          | [d] => slicef d (some i) (some j)
          | _ => none) env
        | _ => .no)
      | _ => .no
  | .meth m a es, env => (evA a env).bind fun l env => if methL m env l then (evF es env).bind fun ds env => optR (((resolve env (l.map (·.2))).bind views).bind (methG m ds)) env else .no
  | .call f es, env => (evC es env).bind fun as env => doCall cf f as env
  | .callk f perm es, env => (evF es env).bind fun ds env => doCallK cf f perm ds env
  | .callx i es, env => (evC es env).bind fun as env => match env[i]? with
    | some (some (.fn f)) => doCall cf f as env
    | _ => .no
  | .calls f e, env => (evE e env).bind fun o env => (fzR o env).bind fun d env => doCallS cf f d env
  | .callf fs i es, env => (match env[i]? with
    | some (some (.v (.int j))) => (match atI fs j with
      | some f => (evF es env).bind fun ds env => endCall [] env (cf f (ds.map .v))
      | none => .no)
    | _ => .no)
  | .popi i e, env => if isMl env i then (evE e env).bind fun o env => (fzR o env).bind fun d env => popAt i d env else .no
  | .pop i, env => match env[i]? with
    | some (some (.ml xs)) => (match xs.getLast? with
      | some d => .ok (.v d) (env.set i (some (.ml xs.dropLast)))
      | none => .no)
    | _ => .no
  | .lc own tg it cond elt, env => if own.any (fun i => lk.contains i) then .no else (evIt it env).bind fun ds env0 =>
      (loopL (turnL own tg (fun env => evK cond env) (fun env => evE elt env)) ds [] (wipeL env0 own)).bind fun acc env1 => .ok (.ml acc) (restore env0 env1 own)
def evK : IEs → En → Rs Bool
  | .nil, env => .ok true env
  | .cons _ e _, env => (evE e env).bind truR
def evF : IEs → En → Rs (List PV)
  | .nil, env => .ok [] env
  | .cons _ e es, env => (evE e env).bind fun o env => (fzR o env).bind fun d env => (evF es env).bind fun ds env => .ok (d :: ds) env
def evA : IEs → En → Rs (List (Bool × Ag))
  | .nil, env => .ok [] env
  | .cons io e es, env => match e.isX with
    | some i => (match env[i]? with
      | some (some _) => (evA es env).bind fun as env => .ok ((io, .inl i) :: as) env
      | _ => .no)
    | none => (evE e env).bind fun o env => (evA es env).bind fun as env => .ok ((io, .inr o) :: as) env
def evC : IEs → En → Rs (List (Bool × Ag))
  | .nil, env => .ok [] env
  | .cons io e es, env => (if io then (match e.isX with
    | some i => (match env[i]? with
      | some (some _) => .ok (.inl i) env
      | _ => .no)
    | none => (evE e env).bind fun o env => .ok (.inr o) env)
    else (evE e env).bind fun o env => .ok (.inr o.frozen) env).bind fun ag env => (evC es env).bind fun as env => .ok ((io, ag) :: as) env
def evIt : IT → En → Rs (List PV)
  | .seq e, env => (evE e env).bind fun o env => (fzR o env).bind fun d env => optR (itemsOf d) env
  | .enum e, env => (evE e env).bind fun o env => (fzR o env).bind fun d env => optR ((listOf d).map (enumL 0)) env
  | .zip a b, env => (evE a env).bind fun oa env => (fzR oa env).bind fun da env => (evE b env).bind fun ob env => (fzR ob env).bind fun db env => optR (zipOf da db) env
  | .range es, env => (evF es env).bind fun ds env => optR (rangeV ds) env
end
def evT (e : IE) (env : En) : Rs Bool := (evE cf lk e env).bind truR
end

inductive Fl where
  | nx | rt (o : Ob) | bk | ct
mutual
inductive IS where
  | asg (z : Bool) (i : Nat) (e : IE)
  | par (is : List Nat) (es : IEs)
  | unp (is : List Nat) (e : IE)
  | unpn (i : Nat) (is : List Nat) (e : IE)
  | sub (i : Nat) (ix e : IE)
  | swp (i : Nat) (x1 x2 e1 e2 : IE)
  | ap (i : Nat) (e : IE) | ext (i : Nat) (e : IE)
  | ex (e : IE)
  | ret (e : IE) | retn
  | ite (c : IE) (a b : ISs)
  | whl (c : IE) (b : ISs)
  | for_ (tg : List Nat ⊕ Nat) (it : IT) (b : ISs)
  | raise (c : Nat) (es : IEs)
  | tryr (nc c i : Nat) (m : Str) (b : ISs)
  | brk | cnt | pass | never
inductive ISs where
  | nil | cons (s : IS) (r : ISs)
end
def wfuel : Nat := 2 ^ 62
def whileN (c : En → Rs Bool) (b : En → Rs Fl) : Nat → En → Rs Fl
  | 0, _ => .no
  | n + 1, env => (c env).bind fun k env => if k then (b env).bind fun fl env => (match fl with
      | .nx => whileN c b n env
      | .ct => whileN c b n env
      | .bk => .ok .nx env
      | .rt o => .ok (.rt o) env) else .ok .nx env
def forL (turn : PV → En → Rs Fl) : List PV → En → Rs Fl
  | [], env => .ok .nx env
  | d :: r, env => (turn d env).bind fun fl env => match fl with
    | .nx => forL turn r env
    | .ct => forL turn r env
    | .bk => .ok .nx env
    | .rt o => .ok (.rt o) env
/-- the values of several expressions, each for a name: lists of one's own stay so -/
def setObs (env : En) : List Nat → List Ob → Option En
  | [], [] => some env
  | i :: is, o :: os => setObs (env.set i (some o)) is os
  | _, _ => none
section
variable (cf : Nat → List Ob → CR) (lk : List Nat)
def free (i : Nat) : Bool := !lk.contains i
def freeTg : List Nat ⊕ Nat → Bool
  | .inr i => free lk i
  | .inl is => is.all (free lk)
/-- x[ix] = d, a list of one's own -/
def stI (i : Nat) (ix : IE) (d : PV) (env : En) : Rs Unit := if isMl env i then (evE cf lk ix env).bind fun oi env => (match env[i]?, oi with
      | some (some (.ml xs)), .v (.int k) => (match ixN xs.length k with
        | some j => .ok () (env.set i (some (.ml (xs.set j d))))
        | none => .no)
      | _, _ => .no) else .no
/-- what a try says: nc classes are known, class c is caught, slot i is the clause's name -/
def resTry (nc c i : Nat) (m : Str) : Rs Fl → Rs Fl
  | .ok fl env => .ok fl env
  | .ex c' as env => if c' = c then .ok (.rt (.ml [.str m, .bool true])) (env.set i none) else if c' < nc then .ex c' as env else .no
  | .no => .no
/-- given away, if one says so -/
def fzIf (z : Bool) (o : Ob) : Ob := if z then o.frozen else o
/-- values of a row of expressions, kept apart -/
def evO : IEs → En → Rs (List Ob)
  | .nil, env => .ok [] env
  | .cons z e es, env => (evE cf lk e env).bind fun o env => (evO es env).bind fun os env => .ok (fzIf z o :: os) env
def retO (e : IE) (env : En) : Rs Ob := match e.isX with
  | some i => (match env[i]? with
    | some (some o) => if free lk i && o.mut then .ok o (env.set i none) else readX env i
    | _ => .no)
  | none => evE cf lk e env
mutual
def evS : IS → En → Rs Fl
  | .asg z i e, env => if free lk i then (evE cf lk e env).bind fun o env => .ok .nx (env.set i (some (fzIf z o))) else .no
  | .par is es, env => if is.all (free lk) && decide is.Nodup then (evO cf lk es env).bind fun os env => optR (setObs env is os) env |>.bind fun env' _ => .ok .nx env' else .no
  | .unp is e, env => if is.all (free lk) then (evE cf lk e env).bind fun o env => (match o with
      | .v (.tuple ds) => optR (setTgs env is ds) env |>.bind fun env' _ => .ok .nx env'
      | _ => .no) else .no
  | .unpn i is e, env => if free lk i && is.all (free lk) then (evE cf lk e env).bind fun o env => (match o with
      | .v (.tuple [d, .tuple ds]) => optR (setTgs (env.set i (some (.v d))) is ds) env |>.bind fun env' _ => .ok .nx env'
      | _ => .no) else .no
  | .sub i ix e, env => (evE cf lk e env).bind fun o env => (fzR o env).bind fun d env => if isMl env i then (evE cf lk ix env).bind fun oi env => (match env[i]?, oi with
      | some (some (.ml xs)), .v (.int k) => (match ixN xs.length k with
        | some j => .ok .nx (env.set i (some (.ml (xs.set j d))))
        | none => .no)
      | _, _ => .no) else .no
  | .swp i x1 x2 e1 e2, env => (evF cf lk (.cons false e1 (.cons false e2 .nil)) env).bind fun ds env => (match ds with
      | [d1, d2] => ((stI cf lk i x1 d1 env).bind fun _ env => stI cf lk i x2 d2 env).bind fun _ env => .ok .nx env
      | _ => .no)
  | .ap i e, env => if isMl env i then (evE cf lk e env).bind fun o env => (fzR o env).bind fun d env => match env[i]? with
      | some (some (.ml xs)) => if xs.length < lim then .ok .nx (env.set i (some (.ml (xs ++ [d])))) else .no
      | _ => .no else .no
  | .ext i e, env => if isMl env i then (evE cf lk e env).bind fun o env => match env[i]?, o.view with
      | some (some (.ml xs)), some (.list ys) => if xs.length + ys.length ≤ lim then .ok .nx (env.set i (some (.ml (xs ++ ys)))) else .no
      | _, _ => .no else .no
  | .ex e, env => (evE cf lk e env).bind fun _ env => .ok .nx env
  | .ret e, env => (retO cf lk e env).bind fun o env => .ok (.rt o) env
  | .retn, env => .ok (.rt (.v .none)) env
  | .ite c a b, env => (evT cf lk c env).bind fun k env => if k then evSs a env else evSs b env
  | .whl c b, env => whileN (fun env => evT cf lk c env) (fun env => evSs b env) wfuel env
  | .for_ tg it b, env => if freeTg lk tg then (evIt cf lk it env).bind fun ds env => forL (fun d env => match setTg env tg d with
      | some env => evSs b env
      | none => .no) ds env else .no
  | .raise c es, env => (evF cf lk es env).bind fun ds env => .ex c ds env
  | .tryr nc c i m b, env => resTry nc c i m (evSs b env)
  | .brk, env => .ok .bk env
  | .cnt, env => .ok .ct env
  | .pass, env => .ok .nx env
  | .never, _ => .no
def evSs : ISs → En → Rs Fl
  | .nil, env => .ok .nx env
  | .cons s r, env => (evS s env).bind fun fl env => match fl with
    | .nx => evSs r env
    | fl => .ok fl env
end
end

structure FD where
  np : Nat
  ns : Nat
  io : List Nat
  body : ISs
def outsOf (env : En) : List Nat → Option (List Ob)
  | [] => some []
  | i :: r => match env[i]?, outsOf env r with
    | some (some o), some os => some (o :: os)
    | _, _ => none
def ioOk (io : List Nat) : Nat → List Ob → Bool
  | _, [] => true
  | i, o :: r => (o.mut == io.contains i) && ioOk io (i + 1) r
def runF (T : Nat → Option FD) : Nat → Nat → List Ob → CR
  | 0, _, _ => .no
  | k + 1, f, args => match T f with
    | none => .no
    | some d => if args.length == d.np && ioOk d.io 0 args then (match evSs (runF T k) d.io d.body (args.map some ++ List.replicate (d.ns - d.np) none) with
      | .ok fl env => (match outsOf env d.io, fl with
        | some outs, .nx => if outs.all Ob.mut then .ret (.v .none) outs else .no
        | some outs, .rt o => if outs.all Ob.mut then .ret o outs else .no
        | _, _ => .no)
      | .ex c as _ => .exc c as
      | .no => .no) else .no
end Pv
-- PvRep
set_option maxRecDepth 100000
namespace Pv
open PySem L2

/-- the ground: what of the heap is known for ever (tuples, lists that nobody changes any more) -/
abbrev Gr := Hp

mutual
inductive RF (K : PySem.W.Frag) (Fz : Hp) : V → PV → Prop
  | non : RF K Fz .non .none
  | bl (b : Bool) : RF K Fz (.bl b) (.bool b)
  | int (i : Int) : RF K Fz (.int i) (.int i)
  | str {x : Str} : PyData.strOk x = true → RF K Fz (.str x) (.str x)
  | lst {a : Addr} {vs : List V} {xs : List PV} : Fz a = some (.lst vs) → RFs K Fz vs xs → RF K Fz (.ref a) (.list xs)
  | tup {a : Addr} {vs : List V} {xs : List PV} : SqT K Fz a vs → RFs K Fz vs xs → RF K Fz (.ref a) (.tuple xs)
inductive RFs (K : PySem.W.Frag) (Fz : Hp) : List V → List PV → Prop
  | nil : RFs K Fz [] []
  | cons {v : V} {vs : List V} {d : PV} {ds : List PV} : RF K Fz v d → RFs K Fz vs ds → RFs K Fz (v :: vs) (d :: ds)
end

theorem SqT.mono {K : PySem.W.Frag} {H H' : Hp} (h : Same H H') {a : Addr} {xs : List V} (q : SqT K H a xs) : SqT K H' a xs := by
  rcases q with (q | ⟨o, q⟩) | q
  · exact .inl (.inl (h _ _ q))
  · exact .inl (.inr ⟨o, h _ _ q⟩)
  · exact .inr q

mutual
theorem RF.mono {K : PySem.W.Frag} {H H' : Hp} (h : Same H H') : ∀ {d : PV} {v : V}, RF K H v d → RF K H' v d
  | .none, _, r => by cases r; exact .non
  | .bool _, _, r => by cases r; exact .bl _
  | .int _, _, r => by cases r; exact .int _
  | .str _, _, r => by cases r with | str e => exact .str e
  | .list xs, _, r => by
    cases r with
    | lst e q => exact .lst (h _ _ e) (RFs.mono h q)
  | .tuple xs, _, r => by
    cases r with
    | tup e q => exact .tup (SqT.mono h e) (RFs.mono h q)
  | .dict _, _, r => by cases r
theorem RFs.mono {K : PySem.W.Frag} {H H' : Hp} (h : Same H H') : ∀ {ds : List PV} {vs : List V}, RFs K H vs ds → RFs K H' vs ds
  | [], _, r => by cases r; exact .nil
  | d :: ds, _, r => by
    cases r with
    | cons a b => exact .cons (RF.mono h a) (RFs.mono h b)
end
mutual
theorem RF.dp {K : PySem.W.Frag} {H : Hp} : ∀ {d : PV} {v : V}, RF K H v d → Dp K H v d
  | .none, _, r => by cases r; exact .non
  | .bool _, _, r => by cases r; exact .bl _
  | .int _, _, r => by cases r; exact .int _
  | .str _, _, r => by cases r with | str e => exact .str _
  | .list xs, _, r => by
    cases r with
    | lst e q => exact .lst (SqL.of e) (RFs.dp q)
  | .tuple xs, _, r => by
    cases r with
    | tup e q => exact .tup e (RFs.dp q)
  | .dict _, _, r => by cases r
theorem RFs.dp {K : PySem.W.Frag} {H : Hp} : ∀ {ds : List PV} {vs : List V}, RFs K H vs ds → DpAll K H vs ds
  | [], _, r => by cases r; exact .nil
  | d :: ds, _, r => by
    cases r with
    | cons a b => exact .cons (RF.dp a) (RFs.dp b)
end
mutual
theorem RF.lay {K : PySem.W.Frag} {H : Hp} : ∀ {d : PV} {v : V}, RF K H v d → d.canLay0 = true
  | .none, _, r => rfl
  | .bool _, _, r => rfl
  | .int _, _, r => rfl
  | .str _, _, r => by cases r with | str e => rw [PyData.canLay0]; exact e
  | .list xs, _, r => by
    cases r with
    | lst e q => rw [PyData.canLay0]; exact RFs.lay q
  | .tuple xs, _, r => by
    cases r with
    | tup e q => rw [PyData.canLay0]; exact RFs.lay q
  | .dict _, _, r => by cases r
theorem RFs.lay {K : PySem.W.Frag} {H : Hp} : ∀ {ds : List PV} {vs : List V}, RFs K H vs ds → PyData.canLayAll0 ds = true
  | [], _, r => rfl
  | d :: ds, _, r => by
    cases r with
    | cons a b => rw [PyData.canLayAll0, RF.lay a, RFs.lay b]; rfl
end

section
variable {K : PySem.W.Frag} {Fz H : Hp}
theorem RFs.length : ∀ {ds : List PV} {vs : List V}, RFs K H vs ds → vs.length = ds.length
  | [], _, r => by cases r; rfl
  | d :: ds, _, r => by
    cases r with
    | cons a b => simp [RFs.length b]
theorem RFs.append : ∀ {ds es : List PV} {vs ws : List V}, RFs K H vs ds → RFs K H ws es → RFs K H (vs ++ ws) (ds ++ es)
  | [], _, _, _, r, q => by cases r; exact q
  | d :: ds, _, _, _, r, q => by
    cases r with
    | cons a b => exact .cons a (RFs.append b q)
theorem RFs.take : ∀ {ds : List PV} {vs : List V} (n : Nat), RFs K H vs ds → RFs K H (vs.take n) (ds.take n)
  | _, _, 0, _ => .nil
  | [], _, n + 1, r => by cases r; exact .nil
  | d :: ds, _, n + 1, r => by
    cases r with
    | cons a b => exact .cons a (RFs.take n b)
theorem RFs.drop : ∀ {ds : List PV} {vs : List V} (n : Nat), RFs K H vs ds → RFs K H (vs.drop n) (ds.drop n)
  | _, _, 0, r => r
  | [], _, n + 1, r => by cases r; exact .nil
  | d :: ds, _, n + 1, r => by
    cases r with
    | cons a b => exact RFs.drop n b
theorem RFs.get : ∀ {ds : List PV} {vs : List V} {i : Nat} {d : PV}, RFs K H vs ds → ds[i]? = some d → ∃ v, vs[i]? = some v ∧ RF K H v d
  | [], _, _, _, _, e => by simp at e
  | _ :: _, _, 0, _, .cons a b, e => by simp at e; subst e; exact ⟨_, rfl, a⟩
  | _ :: ds, _, i + 1, _, .cons a b, e => by
    obtain ⟨v, h1, h2⟩ := RFs.get (i := i) b (by simpa using e)
    exact ⟨v, by simpa using h1, h2⟩
theorem RFs.set {v : V} {d : PV} (h : RF K H v d) : ∀ {ds : List PV} {vs : List V} (i : Nat), RFs K H vs ds → RFs K H (vs.set i v) (ds.set i d)
  | _, _, _, .nil => .nil
  | _, _, 0, .cons a b => .cons h b
  | _, _, i + 1, .cons a b => .cons a (RFs.set h i b)
theorem RFs.rev : ∀ {ds : List PV} {vs : List V}, RFs K H vs ds → RFs K H vs.reverse ds.reverse
  | _, _, .nil => .nil
  | _, _, .cons a b => by
    rw [List.reverse_cons, List.reverse_cons]
    exact (RFs.rev b).append (.cons a .nil)
theorem RFs.dropLast {ds : List PV} {vs : List V} (h : RFs K H vs ds) : RFs K H vs.dropLast ds.dropLast := by
  rw [List.dropLast_eq_take, List.dropLast_eq_take, h.length]
  exact h.take _
theorem RFs.rep {ds : List PV} {vs : List V} (h : RFs K H vs ds) : ∀ k : Nat, RFs K H (List.replicate k vs).flatten (List.replicate k ds).flatten
  | 0 => .nil
  | k + 1 => by
    rw [List.replicate_succ, List.replicate_succ, List.flatten_cons, List.flatten_cons]
    exact h.append (RFs.rep h k)
theorem RFs.cut {ds : List PV} {vs : List V} (h : RFs K H vs ds) (lo hi : Option Int) : RFs K H (cutV vs lo hi) (cutP ds lo hi) := by
  unfold cutV cutP
  rw [h.length]
  exact (h.drop _).take _
theorem RFs.one {d : PV} {v : V} (h : RF K H v d) : RFs K H [v] [d] := .cons h .nil
theorem RFs.ints : ∀ {ns : List Int} {vs : List V}, RFs K H vs (ns.map PyData.int) → vs = ns.map V.int
  | [], _, r => by cases r; rfl
  | n :: ns, _, r => by
    cases r with
    | cons a b => cases a; rw [RFs.ints b]; rfl
theorem RFs.of_ints : ∀ (ns : List Int), RFs K H (ns.map V.int) (ns.map PyData.int)
  | [] => .nil
  | n :: ns => .cons (.int n) (RFs.of_ints ns)
end
theorem bInts_some : ∀ {xs : List PV} {ns : List Int}, bInts xs = some ns → xs = ns.map PyData.int
  | [], ns, h => by simp [bInts] at h; subst h; rfl
  | .int i :: r, ns, h => by
    rw [bInts, Option.map_eq_some_iff] at h
    obtain ⟨ms, h1, rfl⟩ := h
    rw [bInts_some h1]; rfl
  | .none :: _, _, h => by simp [bInts] at h
  | .bool _ :: _, _, h => by simp [bInts] at h
  | .str _ :: _, _, h => by simp [bInts] at h
  | .list _ :: _, _, h => by simp [bInts] at h
  | .tuple _ :: _, _, h => by simp [bInts] at h
  | .dict _ :: _, _, h => by simp [bInts] at h
theorem bInts_map : ∀ (ns : List Int), bInts (ns.map PyData.int) = some ns
  | [] => rfl
  | n :: ns => by simp [bInts, bInts_map ns]
theorem bBools_some : ∀ {xs : List PV} {ns : List Bool}, bBools xs = some ns → xs = ns.map PyData.bool
  | [], ns, h => by simp [bBools] at h; subst h; rfl
  | .bool i :: r, ns, h => by
    rw [bBools, Option.map_eq_some_iff] at h
    obtain ⟨ms, h1, rfl⟩ := h
    rw [bBools_some h1]; rfl
  | .none :: _, _, h => by simp [bBools] at h
  | .int _ :: _, _, h => by simp [bBools] at h
  | .str _ :: _, _, h => by simp [bBools] at h
  | .list _ :: _, _, h => by simp [bBools] at h
  | .tuple _ :: _, _, h => by simp [bBools] at h
  | .dict _ :: _, _, h => by simp [bBools] at h
theorem RFs.bls {K : PySem.W.Frag} {H : Hp} : ∀ {ns : List Bool} {vs : List V}, RFs K H vs (ns.map PyData.bool) → vs = ns.map V.bl
  | [], _, r => by cases r; rfl
  | n :: ns, _, r => by
    cases r with
    | cons a b => cases a; rw [RFs.bls b]; rfl

/-- the ground of a law -/
structure Gx where
  K : PySem.W.Frag
  mg : Str → Option Value
  nm : Nat → Str

/-- a value that may be looked at: of the ground, a list of one's own, the script -/
inductive VW (K : PySem.W.Frag) (Fz H : Hp) : V → PV → Prop
  | fz {v : V} {d : PV} : RF K Fz v d → VW K Fz H v d
  | own {a : Addr} {vs : List V} {xs : List PV} : H a = some (.lst vs) → RFs K Fz vs xs → VW K Fz H (.ref a) (.list xs)
  | ro {a : Addr} {vs : List V} {xs : List PV} : SqL K Fz a vs → RFs K Fz vs xs → VW K Fz H (.ref a) (ro xs)

/-- an object of the machine and its value -/
inductive RO (G : Gx) (Fz H : Hp) : Ob → V → Prop
  | v {v : V} {d : PV} : RF G.K Fz v d → RO G Fz H (.v d) v
  | ro {a : Addr} {vs : List V} {xs : List PV} : SqL G.K Fz a vs → RFs G.K Fz vs xs → RO G Fz H (.v (Pv.ro xs)) (.ref a)
  | ml {a : Addr} {vs : List V} {xs : List PV} : H a = some (.lst vs) → RFs G.K Fz vs xs → Fz a = none → RO G Fz H (.ml xs) (.ref a)
  | fn {a : Addr} {f : Nat} : G.mg (G.nm f) = some (.ref a) → RO G Fz H (.fn f) (.ref a)

theorem RO.view {G : Gx} {Fz H : Hp} {o : Ob} {v : V} {d : PV} (r : RO G Fz H o v) (e : o.view = some d) : VW G.K Fz H v d := by
  cases r with
  | v r => cases e; exact .fz r
  | ro a b => cases e; exact .ro a b
  | ml a b c => cases e; exact .own a b
  | fn _ => cases e

section
variable {K : PySem.W.Frag} {Fz H : Hp} {v : V}
theorem VW.list {xs : List PV} (h : VW K Fz H v (.list xs)) (sub : Same Fz H) : ∃ a vs, v = .ref a ∧ H a = some (.lst vs) ∧ RFs K Fz vs xs := by
  cases h with
  | fz r => cases r with | lst e q => exact ⟨_, _, rfl, sub _ _ e, q⟩
  | own e q => exact ⟨_, _, rfl, e, q⟩
theorem VW.tuple {xs : List PV} (h : VW K Fz H v (.tuple xs)) (sub : Same Fz H) : ∃ a vs, v = .ref a ∧ SqT K H a vs ∧ RFs K Fz vs xs ∧ SqT K Fz a vs := by
  cases h with
  | fz r => cases r with | tup e q => exact ⟨_, _, rfl, SqT.mono sub e, q, e⟩
theorem VW.int {i : Int} (h : VW K Fz H v (.int i)) : v = .int i := by
  cases h with | fz r => cases r; rfl
theorem VW.bl {i : Bool} (h : VW K Fz H v (.bool i)) : v = .bl i := by
  cases h with | fz r => cases r; rfl
theorem VW.str {i : Str} (h : VW K Fz H v (.str i)) : v = .str i ∧ PyData.strOk i = true := by
  cases h with | fz r => cases r with | str e => exact ⟨rfl, e⟩
theorem VW.non (h : VW K Fz H v .none) : v = .non := by
  cases h with | fz r => cases r; rfl
theorem VW.dp {d : PV} (h : VW K Fz H v d) (sub : Same Fz H) (nd : isD d = false) : Dp K H v d := by
  cases h with
  | fz r => exact (r.mono sub).dp
  | own e q => exact .lst (SqL.of e) (q.mono sub).dp
  | ro _ _ => cases nd
theorem VW.lay {d : PV} (h : VW K Fz H v d) (nd : isD d = false) : d.canLay0 = true := by
  cases h with
  | fz r => exact r.lay
  | own e q => rw [PyData.canLay0]; exact q.lay
  | ro _ _ => cases nd
end

/-- nothing but new objects -/
structure Ext (Fz H Fz' H' : Hp) : Prop where
  hh : Same H H'
  ff : Same Fz Fz'
  sub : Same Fz' H'
  nw : ∀ a, H a ≠ none → Fz a = none → Fz' a = none
theorem Ext.refl {Fz H : Hp} (sub : Same Fz H) : Ext Fz H Fz H := ⟨Same.refl _, Same.refl _, sub, fun _ _ h => h⟩
theorem ne_of_some {H : Hp} {a : Addr} {o : HO} (h : H a = some o) : H a ≠ none := by rw [h]; simp
theorem Same.upd {H : Hp} {p : Addr} {o : HO} (hp : H p = none) : Same H (upd H p o) := fun b u h => by
  rw [upd_ne (ne_of_none h hp)]; exact h
theorem Ext.newL {Fz H : Hp} (sub : Same Fz H) {p : Addr} {o : HO} (hp : H p = none) : Ext Fz H Fz (upd H p o) :=
  ⟨Same.upd hp, Same.refl _, fun b u h => Same.upd hp b u (sub b u h), fun _ _ h => h⟩
theorem fz_none {Fz H : Hp} (sub : Same Fz H) {p : Addr} (hp : H p = none) : Fz p = none := by
  cases e : Fz p with
  | none => rfl
  | some o => rw [sub p o e] at hp; cases hp
theorem Ext.newT {Fz H : Hp} (sub : Same Fz H) {p : Addr} {o : HO} (hp : H p = none) : Ext Fz H (upd Fz p o) (upd H p o) := by
  refine ⟨Same.upd hp, Same.upd (fz_none sub hp), fun b u h => ?_, fun a ha hf => ?_⟩
  · by_cases e : b = p
    · subst e; rw [upd_same] at h ⊢; exact h
    · rw [upd_ne e] at h ⊢; exact sub b u h
  · have e : a ≠ p := fun e => ha (e ▸ hp)
    rw [upd_ne e]; exact hf
/-- the end of an operation: ob has come, whatever stands for it -/
def Res (G : Gx) (Fz H : Hp) (ob : Ob) (Q : VK) : Prop :=
  ∀ v Fz' H', Ext Fz H Fz' H' → RO G Fz' H' ob v → (ob.mut = true → ∃ a, v = .ref a ∧ H a = none) → Q v H'
section
variable {G : Gx} {Fz H : Hp} {Q : VK}
theorem Res.sc {d : PV} {v : V} (sub : Same Fz H) (q : Res G Fz H (.v d) Q) (r : RF G.K Fz v d) : Q v H := q v Fz H (Ext.refl sub) (.v r) (fun h => by cases h)
theorem Res.lst {xs : List PV} {vs : List V} (sub : Same Fz H) (q : Res G Fz H (.ml xs) Q) (r : RFs G.K Fz vs xs) : ∀ p, H p = none → Q (.ref p) (upd H p (.lst vs)) := fun p hp =>
  q _ Fz _ (Ext.newL sub hp) (.ml upd_same r (fz_none sub hp)) fun _ => ⟨p, rfl, hp⟩
theorem Res.tup {xs : List PV} {vs : List V} (sub : Same Fz H) (q : Res G Fz H (.v (.tuple xs)) Q) (r : RFs G.K Fz vs xs) : ∀ p, H p = none → Q (.ref p) (upd H p (.tup vs)) := fun p hp =>
  q _ (upd Fz p (.tup vs)) _ (Ext.newT sub hp) (.v (.tup (SqT.of upd_same) (r.mono (Same.upd (fz_none sub hp))))) fun h => by cases h
end
end Pv
-- PvOps
set_option maxRecDepth 100000
namespace Pv
open PySem L2

def r1 (G : Gx) (f : PV → Option Ob) : V → Hp → VK → Prop := fun x H Q => ∃ Fz d ob, Same Fz H ∧ VW G.K Fz H x d ∧ f d = some ob ∧ Res G Fz H ob Q
def r2 (G : Gx) (f : PV → PV → Option Ob) : R2 := fun x y H Q => ∃ Fz d e ob, Same Fz H ∧ VW G.K Fz H x d ∧ VW G.K Fz H y e ∧ f d e = some ob ∧ Res G Fz H ob Q
def r1L (G : Gx) (f : PV → Option Ob) : List V → Hp → VK → Prop := fun xs H Q => ∃ x, xs = [x] ∧ r1 G f x H Q
def r2L (G : Gx) (f : PV → PV → Option Ob) : List V → Hp → VK → Prop := fun xs H Q => ∃ x y, xs = [x, y] ∧ r2 G f x y H Q
def cmpO (f : PV → PV → Option Bool) (a b : PV) : Option Ob := (f a b).map fun k => .v (.bool k)

theorem vI_eq {i : Int} {ob : Ob} (h : vI i = some ob) : ob = .v (.int i) := by cases h; rfl
theorem vB_eq {i : Bool} {ob : Ob} (h : vB i = some ob) : ob = .v (.bool i) := by cases h; rfl
theorem cmpO_eq {f : PV → PV → Option Bool} {a b : PV} {ob : Ob} (h : cmpO f a b = some ob) : ∃ k, f a b = some k ∧ ob = .v (.bool k) := by
  unfold cmpO at h
  cases e : f a b with
  | none => rw [e] at h; cases h
  | some k => rw [e] at h; cases h; exact ⟨k, rfl, rfl⟩
theorem strOk_add {i j : Str} (hi : PyData.strOk i = true) (hj : PyData.strOk j = true) : PyData.strOk (i ++ j) = true := by
  unfold PyData.strOk at *
  have e : (i ++ j).cps = i.cps ++ j.cps := rfl
  rw [e]
  simp only [Array.all_append, hi, hj, Bool.and_self]
theorem lim_eq : lim = sizeLine := rfl
theorem small_ok {i : Int} (h : small i = true) : -(2 ^ 64) < i ∧ i < 2 ^ 64 := by
  unfold small at h
  simp only [Bool.and_eq_true, decide_eq_true_eq] at h
  exact h
theorem b2 {a b : Bool} (h : (a && b) = true) : a = true ∧ b = true := by simpa using h
theorem ite_some {c : Prop} [Decidable c] {α : Type} {a b : α} (h : (if c then some a else none) = some b) : c ∧ a = b := by
  by_cases e : c
  · rw [if_pos e] at h; exact ⟨e, Option.some.inj h⟩
  · rw [if_neg e] at h; cases h
theorem ite_sm {c : Prop} [Decidable c] {α : Type} {a : Option α} {b : α} (h : (if c then a else none) = some b) : c ∧ a = some b := by
  by_cases e : c
  · rw [if_pos e] at h; exact ⟨e, h⟩
  · rw [if_neg e] at h; cases h

section
variable {X : Cx} {G : Gx} (hK : X.K = G.K)
include hK

theorem op_addA : OpR X (binaryOp .Add) (r2 G addf) := by
  intro pins s σ H x y v u Q I rx ry h
  obtain ⟨Fz, d, e, ob, sub, hx, hy, ho, q⟩ := h
  unfold addf at ho
  split at ho
  · cases vI_eq ho
    cases hx.int; cases hy.int
    exact op_add pins s σ H _ _ v u Q I rx ry ⟨_, _, rfl, rfl, q.sc sub (.int _)⟩
  · obtain ⟨hl, rfl⟩ := ite_some ho
    obtain ⟨rfl, s1⟩ := hx.str; obtain ⟨rfl, s2⟩ := hy.str
    exact op_add_str pins s σ H _ _ v u Q I rx ry ⟨_, _, rfl, rfl, hl, q.sc sub (.str (strOk_add s1 s2))⟩
  · obtain ⟨hl, rfl⟩ := ite_some ho
    obtain ⟨a, vs, rfl, ha, ra⟩ := hx.list sub; obtain ⟨b, ws, rfl, hb, rb⟩ := hy.list sub
    exact op_cat pins s σ H _ _ v u Q I rx ry ⟨_, _, _, _, rfl, rfl, ha, hb, by rw [ra.length, rb.length]; exact hl, q.lst sub (ra.append rb)⟩
  · obtain ⟨hl, rfl⟩ := ite_some ho
    obtain ⟨a, vs, rfl, ha, ra, ga⟩ := hx.tuple sub; obtain ⟨b, ws, rfl, hb, rb, gb⟩ := hy.tuple sub
    refine op_catA pins s σ H _ _ v u Q I rx ry ⟨_, _, _, _, rfl, rfl, hK ▸ ha, hK ▸ hb, by rw [ra.length, rb.length]; exact hl, fun e => ?_, fun _ e => ?_, fun _ _ => q.tup sub (ra.append rb)⟩
    · subst e; cases ra; exact q.sc sub (.tup gb rb)
    · subst e; cases rb; rw [List.append_nil] at q; exact q.sc sub (.tup ga ra)
  · cases ho
theorem op_subA : OpR X (binaryOp .Sub) (r2 G subf) := by
  intro pins s σ H x y v u Q I rx ry h
  obtain ⟨Fz, d, e, ob, sub, hx, hy, ho, q⟩ := h
  unfold subf at ho
  split at ho
  · cases vI_eq ho
    cases hx.int; cases hy.int
    exact op_sub pins s σ H _ _ v u Q I rx ry ⟨_, _, rfl, rfl, q.sc sub (.int _)⟩
  · cases ho
theorem op_mulA : OpR X (binaryOp .Mult) (r2 G mulf) := by
  intro pins s σ H x y v u Q I rx ry h
  obtain ⟨Fz, d, e, ob, sub, hx, hy, ho, q⟩ := h
  unfold mulf at ho
  split at ho
  · obtain ⟨hl, ho⟩ := ite_sm ho
    cases vI_eq ho
    cases hx.int; cases hy.int
    refine op_mul pins s σ H _ _ v u Q I rx ry ⟨_, _, rfl, rfl, ?_, q.sc sub (.int _)⟩
    rw [Bool.or_eq_true] at hl
    rcases hl with hl | hl
    · exact .inl (small_ok hl)
    · exact .inr (small_ok hl)
  · obtain ⟨hl, rfl⟩ := ite_some ho
    obtain ⟨h12, h3⟩ := b2 hl
    obtain ⟨h1, h2⟩ := b2 h12
    obtain ⟨a, vs, rfl, ha, ra⟩ := hx.list sub
    cases hy.int
    exact op_rep pins s σ H _ _ v u Q I rx ry ⟨_, _, _, rfl, rfl, ha, of_decide_eq_true h1, of_decide_eq_true h2, by rw [ra.length]; exact of_decide_eq_true h3, q.lst sub (ra.rep _)⟩
  · obtain ⟨hl, rfl⟩ := ite_some ho
    obtain ⟨h12, h34⟩ := b2 hl
    obtain ⟨h1, h2⟩ := b2 h12
    obtain ⟨h3, h4⟩ := b2 h34
    obtain ⟨a, vs, rfl, ha, ra, ga⟩ := hx.tuple sub
    cases hy.int
    refine op_repT pins s σ H _ _ v u Q I rx ry ⟨_, _, _, rfl, rfl, hK ▸ ha, fun e => ?_, of_decide_eq_true h2, of_decide_eq_true h3, by rw [ra.length]; exact of_decide_eq_true h4, q.tup sub (ra.rep _)⟩
    subst e
    cases ra
    cases h1
  · cases ho
theorem op_fdivA : OpR X (binaryOp .FloorDiv) (r2 G fdivf) := by
  intro pins s σ H x y v u Q I rx ry h
  obtain ⟨Fz, d, e, ob, sub, hx, hy, ho, q⟩ := h
  unfold fdivf at ho
  split at ho
  · obtain ⟨hl, ho⟩ := ite_sm ho
    obtain ⟨h1, h2⟩ := b2 hl
    cases vI_eq ho
    cases hx.int; cases hy.int
    exact op_fdivW pins s σ H _ _ v u Q I rx ry ⟨_, _, rfl, rfl, ⟨of_decide_eq_true h1, of_decide_eq_true h2⟩, q.sc sub (.int _)⟩
  · cases ho
theorem op_modA : OpR X (binaryOp .Mod) (r2 G modf) := by
  intro pins s σ H x y v u Q I rx ry h
  obtain ⟨Fz, d, e, ob, sub, hx, hy, ho, q⟩ := h
  unfold modf at ho
  split at ho
  · obtain ⟨hl, ho⟩ := ite_sm ho
    cases vI_eq ho
    cases hx.int; cases hy.int
    exact op_mod pins s σ H _ _ v u Q I rx ry ⟨_, _, rfl, rfl, hl, q.sc sub (.int _)⟩
  · cases ho
theorem powOk_ok {i j : Int} (h : powOk i j = true) : CPow i j := by
  unfold powOk at h
  obtain ⟨h12, h3⟩ := b2 h
  obtain ⟨h1, h2⟩ := b2 h12
  exact ⟨of_decide_eq_true h1, of_decide_eq_true h2, of_decide_eq_true h3⟩
theorem op_powA : OpR X (binaryOp .Pow) (r2 G powf) := by
  intro pins s σ H x y v u Q I rx ry h
  obtain ⟨Fz, d, e, ob, sub, hx, hy, ho, q⟩ := h
  unfold powf at ho
  split at ho
  · obtain ⟨hl, ho⟩ := ite_sm ho
    cases vI_eq ho
    cases hx.int; cases hy.int
    exact op_pow pins s σ H _ _ v u Q I rx ry ⟨_, _, rfl, rfl, powOk_ok hK hl, q.sc sub (.int _)⟩
  · cases ho
theorem op_shlA : OpR X (binaryOp .LShift) (r2 G shlf) := by
  intro pins s σ H x y v u Q I rx ry h
  obtain ⟨Fz, d, e, ob, sub, hx, hy, ho, q⟩ := h
  unfold shlf at ho
  split at ho
  · obtain ⟨hl, ho⟩ := ite_sm ho
    cases vI_eq ho
    cases hx.int; cases hy.int
    exact op_shl pins s σ H _ _ v u Q I rx ry ⟨_, _, rfl, rfl, powOk_ok hK hl, q.sc sub (.int _)⟩
  · cases ho
theorem un_negA : UnR X (unaryOp .USub) (r1 G negf) := by
  intro pins s σ H x v Q I rx h
  obtain ⟨Fz, d, ob, sub, hx, ho, q⟩ := h
  unfold negf at ho
  split at ho
  · cases vI_eq ho
    cases hx.int
    exact un_neg pins s σ H _ v Q I rx ⟨_, rfl, q.sc sub (.int _)⟩
  · cases ho

theorem eqOk_ok {a b : PV} (h : eqOk a b = true) : isD a = false ∧ isD b = false ∧ min a.depth b.depth ≤ 150 := by
  unfold eqOk at h
  obtain ⟨h12, h3⟩ := b2 h
  obtain ⟨h1, h2⟩ := b2 h12
  refine ⟨by simpa using h1, by simpa using h2, ?_⟩
  rw [Bool.or_eq_true] at h3
  rcases h3 with h3 | h3
  · have := of_decide_eq_true h3; omega
  · have := of_decide_eq_true h3; omega
theorem op_eqA (hu : X.A.units + 150 < cLine) : OpR X (compareOp .Eq) (r2 G (cmpO eqf)) := by
  intro pins s σ H x y v u Q I rx ry h
  obtain ⟨Fz, d, e, ob, sub, hx, hy, ho, q⟩ := h
  obtain ⟨k, hk, rfl⟩ := cmpO_eq ho
  unfold eqf at hk
  obtain ⟨hl, rfl⟩ := ite_some hk
  obtain ⟨n1, n2, hm⟩ := eqOk_ok hK hl
  obtain ⟨as, p1⟩ := Dp.reads I d x v (hK ▸ hx.dp sub n1) rx
  obtain ⟨bs, p2⟩ := Dp.reads I e y u (hK ▸ hy.dp sub n2) ry
  exact SeqAt.compareEq_reads p1 p2 (hx.lay n1) (hy.lay n2) (by omega) ⟨.bl _, H, I, rfl, q.sc sub (.bl _)⟩
theorem op_neA (hu : X.A.units + 150 < cLine) : OpR X (compareOp .NotEq) (r2 G (cmpO nef)) := by
  intro pins s σ H x y v u Q I rx ry h
  obtain ⟨Fz, d, e, ob, sub, hx, hy, ho, q⟩ := h
  obtain ⟨k, hk, rfl⟩ := cmpO_eq ho
  unfold nef at hk
  obtain ⟨hl, rfl⟩ := ite_some hk
  obtain ⟨n1, n2, hm⟩ := eqOk_ok hK hl
  obtain ⟨as, p1⟩ := Dp.reads I d x v (hK ▸ hx.dp sub n1) rx
  obtain ⟨bs, p2⟩ := Dp.reads I e y u (hK ▸ hy.dp sub n2) ry
  exact SeqAt.compareNe_reads p1 p2 (hx.lay n1) (hy.lay n2) (by omega) ⟨.bl _, H, I, rfl, q.sc sub (.bl _)⟩
theorem op_ltA : OpR X (compareOp .Lt) (r2 G (cmpO ltf)) := by
  intro pins s σ H x y v u Q I rx ry h
  obtain ⟨Fz, d, e, ob, sub, hx, hy, ho, q⟩ := h
  obtain ⟨k, hk, rfl⟩ := cmpO_eq ho
  unfold ltf at hk
  split at hk
  · cases hk; cases hx.int; cases hy.int
    exact op_lt pins s σ H _ _ v u Q I rx ry ⟨_, _, rfl, rfl, q.sc sub (.bl _)⟩
  · cases hk
theorem op_leA : OpR X (compareOp .LtE) (r2 G (cmpO lef)) := by
  intro pins s σ H x y v u Q I rx ry h
  obtain ⟨Fz, d, e, ob, sub, hx, hy, ho, q⟩ := h
  obtain ⟨k, hk, rfl⟩ := cmpO_eq ho
  unfold lef at hk
  split at hk
  · cases hk; cases hx.int; cases hy.int
    exact op_le pins s σ H _ _ v u Q I rx ry ⟨_, _, rfl, rfl, q.sc sub (.bl _)⟩
  · cases hk
theorem op_gtA : OpR X (compareOp .Gt) (r2 G (cmpO gtf)) := by
  intro pins s σ H x y v u Q I rx ry h
  obtain ⟨Fz, d, e, ob, sub, hx, hy, ho, q⟩ := h
  obtain ⟨k, hk, rfl⟩ := cmpO_eq ho
  unfold gtf at hk
  split at hk
  · cases hk; cases hx.int; cases hy.int
    exact op_gt pins s σ H _ _ v u Q I rx ry ⟨_, _, rfl, rfl, q.sc sub (.bl _)⟩
  · cases hk
theorem op_geA : OpR X (compareOp .GtE) (r2 G (cmpO gef)) := by
  intro pins s σ H x y v u Q I rx ry h
  obtain ⟨Fz, d, e, ob, sub, hx, hy, ho, q⟩ := h
  obtain ⟨k, hk, rfl⟩ := cmpO_eq ho
  unfold gef at hk
  split at hk
  · cases hk; cases hx.int; cases hy.int
    exact op_ge pins s σ H _ _ v u Q I rx ry ⟨_, _, rfl, rfl, q.sc sub (.bl _)⟩
  · cases hk
theorem VW.isNone {Fz H : Hp} {x : V} {d : PV} (h : VW G.K Fz H x d) : decide (x = V.non) = Pv.isNone d := by
  cases h with
  | fz r => cases r <;> first | rfl | (simp [Pv.isNone])
  | own _ _ => simp [Pv.isNone]
  | ro _ _ => simp [Pv.isNone, Pv.ro]
theorem op_isNA : OpR X (compareOp .Is) (r2 G (cmpO isNf)) := by
  intro pins s σ H x y v u Q I rx ry h
  obtain ⟨Fz, d, e, ob, sub, hx, hy, ho, q⟩ := h
  obtain ⟨k, hk, rfl⟩ := cmpO_eq ho
  unfold isNf at hk
  split at hk
  · cases hk; cases hy.non
    exact op_isN pins s σ H _ _ v u Q I rx ry ⟨rfl, by rw [VW.isNone hK hx]; exact q.sc sub (.bl _)⟩
  · cases hk
theorem op_notNA : OpR X (compareOp .IsNot) (r2 G (cmpO notNf)) := by
  intro pins s σ H x y v u Q I rx ry h
  obtain ⟨Fz, d, e, ob, sub, hx, hy, ho, q⟩ := h
  obtain ⟨k, hk, rfl⟩ := cmpO_eq ho
  unfold notNf at hk
  split at hk
  · cases hk; cases hy.non
    exact op_notN pins s σ H _ _ v u Q I rx ry ⟨rfl, by rw [VW.isNone hK hx]; exact q.sc sub (.bl _)⟩
  · cases hk
end
end Pv
-- PvSort
set_option maxRecDepth 100000
namespace Pv
open PySem L2

abbrev leP : PV → PV → Bool := PySem.W.dataLe false fun d => d
theorem leP_eq (a b : PV) : leP a b = !pLt b a := rfl
theorem leP_tot : PySem.W.TotalLe leP := PySem.W.sortLe_total (PyProof.Rows.listOrd PyProof.Rows.itemOrd) false fun d => PySem.W.keyToks d
theorem leP_trans (a b c : PV) : leP a b = true → leP b c = true → leP a c = true := leP_tot.trans a b c
theorem leP_total (a b : PV) : (leP a b || leP b a) = true := by
  rcases leP_tot.total a b with h | h <;> simp [h]
theorem insP_app (d : PV) : ∀ (l1 l2 : List PV), (∀ b ∈ l1, pLt b d = true) → (∀ b ∈ l2, pLt b d = false) → insP d (l1 ++ l2) = l1 ++ d :: l2
  | [], [], _, _ => rfl
  | [], e :: r, _, h => by
    rw [List.nil_append, insP, h e List.mem_cons_self]
    rfl
  | e :: l1, l2, h, h2 => by
    rw [List.cons_append, insP, h e List.mem_cons_self, if_pos rfl, insP_app d l1 l2 (fun b hb => h b (List.mem_cons_of_mem _ hb)) h2]
    rfl
theorem sortP_eq : ∀ xs : List PV, xs.mergeSort leP = sortP xs
  | [] => by rw [List.mergeSort_nil]; rfl
  | d :: r => by
    obtain ⟨l1, l2, e1, e2, e3⟩ := List.mergeSort_cons leP_trans leP_total d r
    have hp := List.pairwise_mergeSort leP_trans leP_total (d :: r)
    rw [e1] at hp
    rw [sortP, ← sortP_eq r, e2, e1, insP_app d l1 l2]
    · intro b hb
      have := e3 b hb
      rw [leP_eq] at this
      simpa using this
    · intro b hb
      have := (List.pairwise_append.mp hp).2.1
      have := (List.pairwise_cons.mp this).1 b hb
      rw [leP_eq] at this
      simpa using this
theorem sortP_perm (xs : List PV) : (sortP xs).Perm xs := by rw [← sortP_eq]; exact List.mergeSort_perm _ _
theorem sortOk_ok {xs : List PV} (h : sortOk xs = true) : PySem.W.AllAlike xs ∧ PySem.W.Sortable xs ∧ ∀ d ∈ xs, d.depth ≤ 150 := by
  rw [sortOk, Bool.and_eq_true, List.all_eq_true] at h
  obtain ⟨h1, h2⟩ := h
  refine ⟨fun d hd e he => ?_, ?_, fun d hd => ?_⟩
  · have := h1 d hd
    rw [Bool.and_eq_true, List.all_eq_true] at this
    exact this.2 e he
  · rw [Bool.or_eq_true, List.all_eq_true, List.all_eq_true] at h2
    rcases h2 with h2 | h2
    · refine .inl fun d hd => ?_
      have := h2 d hd
      unfold tupB at this
      split at this
      · exact ⟨_, _, rfl⟩
      · cases this
    · refine .inr fun d hd => ?_
      have := h2 d hd
      unfold othB at this
      split at this
      · cases this
      · cases this
      · rename_i n1 n2
        exact ⟨fun e => n1 e, fun xs e => n2 xs e⟩
  · have := h1 d hd
    rw [Bool.and_eq_true] at this
    exact of_decide_eq_true this.1
theorem RFs.zip {K : PySem.W.Frag} {H : Hp} : ∀ {vs : List V} {xs : List PV}, RFs K H vs xs → ∃ ps : List (V × PV), ps.map (·.1) = vs ∧ ps.map (·.2) = xs ∧ ∀ p ∈ ps, RF K H p.1 p.2
  | _, _, .nil => ⟨[], rfl, rfl, fun p h => by cases h⟩
  | v :: _, d :: _, .cons a b => by
    obtain ⟨ps, h1, h2, h3⟩ := RFs.zip b
    refine ⟨(v, d) :: ps, by simp [h1], by simp [h2], fun p hp => ?_⟩
    rcases List.mem_cons.mp hp with rfl | hp
    · exact a
    · exact h3 p hp
theorem RFs.of_pairs {K : PySem.W.Frag} {H : Hp} : ∀ {ps : List (V × PV)}, (∀ p ∈ ps, RF K H p.1 p.2) → RFs K H (ps.map (·.1)) (ps.map (·.2))
  | [], _ => .nil
  | p :: ps, h => .cons (h p List.mem_cons_self) (RFs.of_pairs fun q hq => h q (List.mem_cons_of_mem _ hq))
theorem each_of_vals : ∀ {ps : List (V × PV)} {us : List Value}, Vals (ps.map (·.1)) us → PySem.W.EachIs (fun u (p : V × PV) => RelV p.1 u) us ps
  | [], _, r => by cases r; exact .nil
  | p :: ps, _, r => by
    cases r with
    | cons a b => exact .cons a (each_of_vals b)
theorem vals_of_each : ∀ {ps : List (V × PV)} {us : List Value}, PySem.W.EachIs (fun u (p : V × PV) => RelV p.1 u) us ps → Vals (ps.map (·.1)) us
  | _, _, .nil => Paired.nil
  | _, _, .cons a b => Paired.cons a (vals_of_each b)
theorem each_memR {α β : Type} {R S : α → β → Prop} : ∀ {as : List α} {bs : List β}, PySem.W.EachIs R as bs → (∀ a b, b ∈ bs → R a b → S a b) → PySem.W.EachIs S as bs
  | _, _, .nil, _ => .nil
  | _, _, .cons a b, h => .cons (h _ _ List.mem_cons_self a) (each_memR b fun x y hy r => h x y (List.mem_cons_of_mem _ hy) r)

section
variable {X : Cx} {G : Gx} (hK : X.K = G.K)
include hK
theorem call_sortedA (hu : X.A.units + 160 < cLine) : CallR X (.builtin "sorted") (r1L G sortedf) := by
  intro pins s σ H vs us Q I r h
  obtain ⟨x, rfl, Fz, d, ob, sub, hx, ho, q⟩ := h
  unfold sortedf at ho
  split at ho
  · rename_i xs
    obtain ⟨hs, rfl⟩ := ite_some ho
    obtain ⟨h1, h2, h3⟩ := sortOk_ok hs
    obtain ⟨a, ws, rfl, ha, ra⟩ := hx.list sub
    obtain ⟨its, rv, hl, hz⟩ := I.list (SqL.of ha)
    rw [Vals.ref1 r]
    obtain ⟨ps, e1, e2, e3⟩ := RFs.zip ra
    subst e1 e2
    have ev := each_of_vals rv
    refine PySem.W.sorted_data (R := fun u (p : V × PV) => RelV p.1 u) (enc := fun p => p.2) (bs := ps) hl.isList ev (each_memR ev fun u p hp ru => ?_) ?_ ?_ ?_ ?_ fun out ho eo => ?_
    · exact Dp.reads I p.2 p.1 u (hK ▸ ((e3 p hp).mono sub).dp) ru
    · exact h1
    · exact h2
    · rw [List.length_map] at hz; exact hz
    · intro p hp
      have := h3 p.2 (List.mem_map.mpr ⟨p, hp, rfl⟩)
      omega
    · obtain ⟨ep, he'⟩ := PyProof.Rows.sortedAll_at s.heap its out.toArray
      have hperm : (ps.mergeSort (PySem.W.dataLe false fun p => p.2)).Perm ps := List.mergeSort_perm _ _
      have e4 : (ps.mergeSort (PySem.W.dataLe false fun p => p.2)).map (·.2) = sortP (ps.map (·.2)) := by
        rw [← sortP_eq, PySem.W.sort_maps]
        intro a _ b _
        rfl
      have hlen : ((ps.mergeSort (PySem.W.dataLe false fun p => p.2)).map (·.1)).length ≤ sizeLine := by
        rw [List.length_map, hperm.length_eq]
        rw [List.length_map] at hz
        exact hz
      refine ⟨.ref _, upd H (s.heap.objs.size + 1) (.lst ((ps.mergeSort (PySem.W.dataLe false fun p => p.2)).map (·.1))), I.laid (t' := s.toks) (fun _ _ => PyProof.Rows.sortedAll_old) (Nat.le_succ _) ⟨hlen, out, ep, vals_of_each eo, he'⟩, rfl, ?_⟩
      refine q.lst sub ?_ _ (I.hok.fresh (Nat.le_succ _))
      rw [← e4]
      exact RFs.of_pairs fun p hp => e3 p (hperm.mem_iff.mp hp)
  · cases ho
end
end Pv
-- PvSet
set_option maxRecDepth 100000
set_option maxHeartbeats 1000000
namespace Pv
open PySem L2
open PySem.W PyProof.Rows in
section
variable {P : Program} {w : World} {A : Around} {E : Value → Shared → Prop} {s : Shared}
abbrev newSet (w : World) : Obj := { cls := .type "set", dict := none, data := .set #[] 0 (.fresh 0 0 (!w.params.followText "set-order")) }
abbrev pset (w : World) (s : Shared) : Heap := s.heap.push (newSet w)
theorem setI_gone {h h' h2 : Heap} {a b : Addr} {o : Obj} (e : h.get? b = some o) (m : ∀ b o, b ∉ [h.objs.size, a] → h2.get? b = some o → h'.get? b = some o) (hb : b ∉ [h.objs.size, a]) (e2 : h2.get? b = some o) : h'.get? b = some o := m b o hb e2
theorem call_set_listI {l : Addr} {items : Array Value} (ns : List Int) {Q : Value → Shared → Prop} (hh : A.handled = none) (hl : s.heap.IsList l items) (hit : IntsAre items.toList ns) (hb : ns.length + 1 < scanBound)
    (h : ∀ (h' : Heap) (tk c : Nat), SetR w h' s.heap.objs.size (fun j => decide (j ∈ ns)) c → c ≤ ns.length → (∀ b o, s.heap.get? b = some o → h'.get? b = some o) → Q (.ref s.heap.objs.size) { s with heap := h', toks := tk }) :
    wpAny (model P w) A (call (.type "set") [.ref l]) Q E s := by
  have hsz : items.size = ns.length := by
    have := hit.length
    rwa [Array.length_toList] at this
  obtain ⟨_, _, mro⟩ := F.called_set.mro
  have k1 := F.called_set.made
  have k2 := F.called_set.sub
  refine wpAny_call (codeAny_of_tree (?_ : wpAny _ _ (callAny (.type "set") _) _ _ _))
  refine wpAny_pure ⟨Code.quiet_builtin _ (by decide +kernel), codeAny_builtin F.entry_type_call ?_⟩
  rw [Around.under_plain (weight_type_call_type "set" [.ref l] []) rfl]
  have k3 := F.called_set.notType
  have k4 := F.called_set.canCreate
  have k5 := F.typeCall_set_1 (.ref l)
  repeat (any_goals (first | assumption | wp_step))
  refine codeAny_mono (code_set_led1 (.ref l) (E := E) (Q₁ := fun obj t => obj = .ref s.heap.objs.size ∧ t = { s with heap := pset w s }) ⟨rfl, rfl⟩) fun r t hr => ?_
  cases r with
  | error e => exact hr
  | ok fl =>
    cases fl <;> first | exact hr.elim | skip
    obtain ⟨rfl, rfl⟩ := hr
    have g0 : (pset w s).get? s.heap.objs.size = some (newSet w) := Heap.get?_push_size _ rfl
    have g1 : Shared.TypeIs { s with heap := pset w s } (.ref s.heap.objs.size) "set" := ⟨_, g0, rfl⟩
    have g2 := F.called_set.init.lookup
    have g3 := F.called_set.init.bind (.ref s.heap.objs.size)
    repeat (any_goals (first | assumption | wp_step))
    refine codeAny_mono (codeAny_call_builtin (R := wants (fun r t => r = .none ∧ ∃ h' tk c, t = { s with heap := h', toks := tk } ∧ SetR w h' s.heap.objs.size (fun j => decide (j ∈ ns)) c ∧ c ≤ ns.length ∧
        (∀ b o, s.heap.get? b = some o → h'.get? b = some o)) E) F.called_set.init.plain F.entry_set_init (check_set_init_1 g1 ?_)) fun r2 t2 h2 => ?_
    · obtain ⟨⟨oc, od, oda, osl⟩, hol, hcl, nl, hdl⟩ := hl
      simp only at hcl hdl
      subst hcl hdl
      have g4 : (pset w s).get? l = some { cls := .type "list", dict := od, data := .seq items nl, slots := osl } := Heap.get?_push_of_some _ hol
      have g5 := F.sub_list_set
      have g6 := F.sub_list_frozenset
      have g7 : (Value.type "list" == Value.type "dict") = false := by decide
      have g8 : (pset w s).IsList l items := ⟨_, g4, rfl, nl, rfl⟩
      unfold Builtin.«set.__init__» noKeywords Builtin.Frozenset.updateFrom
      generalize hI : pyIter = I
      wp_walk
      subst hI
      refine wpAny_pyIter_list g8 (wpAny_bind (wpAny_runValue ?_))
      have z1 : (pset w s).objs.size = s.heap.objs.size + 1 := Heap.size_push ..
      have z2 : l < s.heap.objs.size := Heap.lt_size hol
      have hh3 : A.in1.in1.in1.handled = none := by simp [hh]
      have z3 : l ≠ (pset w s).objs.size := fun e => by
        have e : l = s.heap.objs.size + 1 := e.trans z1
        exact absurd z2 (by rw [e]; exact fun q => Nat.not_succ_le_self _ (Nat.le_of_lt q))
      have z4 : s.heap.objs.size ∉ [(pset w s).objs.size, l] := by
        rw [z1]
        simp only [List.mem_cons, List.not_mem_nil, or_false, not_or]
        exact ⟨fun q => Nat.succ_ne_self _ q.symm, fun q => Nat.lt_irrefl _ (q ▸ z2)⟩
      have val : ∀ (i : Nat) (v : Value), items[i]? = some v → ∃ k t, ns[i]? = some k ∧ v = .int k t := fun i v hv => by
        obtain ⟨t, e⟩ := IntsAre.int_at hit i v (by rwa [Array.getElem?_toList])
        have hi : i < ns.length := hsz ▸ (Array.getElem?_eq_some_iff.mp hv).1
        refine ⟨ns[i], t, List.getElem?_eq_getElem hi, ?_⟩
        rw [e, List.getD_eq_getElem?_getD, List.getElem?_eq_getElem hi]; rfl
      refine set_update_ints ((Walks.list hh3 _ l z3 items).toS) s.heap.objs.size z4 ns hsz hb val (items.size - 0) 0 _ (by omega) (Nat.zero_le _) ⟨⟨_, Heap.get?_push_size _ rfl, rfl, rfl⟩, g8.push _⟩ ?_ ?_
      · exact ⟨0, Nat.le_refl 0, setR_new_at (Heap.get?_push_of_some _ g0)⟩
      · rintro ⟨h', gn, dr, tk, os⟩ c hm hc hS
        obtain rfl : gn = s.gens := hm.gens
        obtain rfl : dr = s.drawn := hm.drawn
        obtain rfl : os = s.os := hm.os
        show wpAny _ _ _ _ _ _
        refine wpAny_pure ?_
        show wpAny _ _ (ret Value.none) _ _ _
        refine wpAny_pure ⟨rfl, h', tk, c, rfl, hS, hsz ▸ hc, fun b o e => ?_⟩
        have lt := Heap.lt_size e
        refine hm.heap b o ?_ (Heap.get?_push_of_some _ (Heap.get?_push_of_some _ e))
        rw [z1]
        simp only [List.mem_cons, List.not_mem_nil, or_false, not_or]
        exact ⟨Nat.ne_of_lt lt, Nat.ne_of_lt (Nat.lt_succ_of_lt lt)⟩
    · cases r2 with
      | error e => exact h2
      | ok fl =>
        cases fl <;> first | exact h2.elim | skip
        obtain ⟨rfl, h', tk, c, rfl, hS, hc, hk⟩ := h2
        repeat (any_goals (first | assumption | wp_step))
        exact h _ _ _ hS hc hk
theorem SetR.sorted {S : Int → Bool} {n : Nat} {a : Addr} {Q : Value → Shared → Prop} (R : SetR w s.heap a S n) (hh : A.handled = none)
    (hQ : ∀ t p (out : List Value) (c : Nat) (ns : List Int), (∀ b o, s.heap.get? b = some o → t.heap.get? b = some o) → t.gens = s.gens → t.os = s.os → s.heap.objs.size ≤ p → t.heap.get? p = some (seqObj "list" out.toArray c) → IntsAre out ns →
      ns.Pairwise (· < ·) → (∀ k, k ∈ ns ↔ S k = true) → ns.length < scanBound → Q (.ref p) t) : wpAny (model P w) A (call (.builtin "sorted") [.ref a]) Q E s := by
  obtain ⟨o, es, ep, tb, ho, hex, hd, good, nd, mem, few, fits, hn, ris, led⟩ := R
  refine Calls.call_function_entry kind_sorted plain_sorted entry_sorted (args_sorted1 _) ?_
  unfold Builtin.«sorted»
  refine wpAny_bind (m := checkCount "sorted" 1 1 _) (wpAny_pure (wpAny_bind (collect_set (A := A.in1) hh ⟨o, ho, hex.1, hd⟩ fits few ris led fun t1 vs k1 z1 gn1 os1 pm => ?_)))
  have len : vs.length = n := by rw [pm.length_eq, List.length_map, Array.length_toList, hn]
  have ia : IntsAre vs (vs.map Builtin.Re.reRawOf) := ints_of vs fun v hv => by
    obtain ⟨e, he, rfl⟩ := List.mem_map.mp (pm.mem_iff.mp hv)
    obtain ⟨k, tk, q, _⟩ := good e he
    exact ⟨k, tk, q⟩
  have pk : (vs.map Builtin.Re.reRawOf).Perm (es.toList.map keyOf) := by
    have z := pm.map Builtin.Re.reRawOf
    rwa [List.map_map] at z
  have small : vs.length ≤ sizeLine := by
    rw [len, ← hn, sizeLine_eq]
    have : scanBound = 4096 := rfl
    omega
  refine wpAny_bind (wpAny_newList ?_ small)
  have gL : (t1.heap.push (seqObj "list" vs.toArray 0)).get? t1.heap.objs.size = some (seqObj "list" vs.toArray 0) := Heap.get?_push_size _ rfl
  refine wpAny_bind (wpAny_holding (wpAny_call_entry slot_list_sort ⟨_, gL, rfl⟩ entry_list_sort (SrtO.list_sort_ord SrtO.swo_int gL small (fun h2 => SrtO.ints_sortable ia h2) fun out h1 h2 => ⟨_, rfl, ?_⟩) (args_list_sort _)))
  obtain ⟨j1, j2, j3⟩ := SrtO.ints_out ia h1 h2
  obtain ⟨c, hc⟩ := sortedHeap_at (vs := vs) (out := out.toArray) gL
  have pn := j2.trans pk
  have str : (out.map SrtO.iv).Pairwise (· < ·) := lt_of_le_nodup _ j3 (pn.nodup_iff.mpr nd)
  refine wpAny_pure ⟨_, rfl, hQ _ t1.heap.objs.size out c _ (fun b u e => ?_) gn1 os1 z1 hc j1 str (fun k => by rw [pn.mem_iff, ← mem k]) ?_⟩
  · have q := k1 b u e
    have lt := Heap.lt_size q
    show (sortedHeap (t1.heap.push (seqObj "list" vs.toArray 0)) t1.heap.objs.size vs out.toArray).get? b = some u
    rw [sortedHeap_old (Nat.ne_of_lt lt) (by rw [size_push']; exact Nat.lt_succ_of_lt lt), Heap.get?_push_of_some _ q]
  · rw [pn.length_eq, List.length_map, Array.length_toList]; exact few
end
theorem insS_mem {n k : Int} : ∀ {l : List Int}, k ∈ insS n l ↔ k = n ∨ k ∈ l
  | [] => by simp [insS]
  | m :: r => by
    unfold insS
    split
    · simp
    · split
      · rename_i h; subst h; simp
      · have := insS_mem (n := n) (k := k) (l := r)
        simp only [List.mem_cons, this]
        constructor
        · rintro (h | h | h) <;> simp [h]
        · rintro (h | h | h) <;> simp [h]
theorem insS_up {n : Int} : ∀ {l : List Int}, l.Pairwise (· < ·) → (insS n l).Pairwise (· < ·)
  | [], _ => by simp [insS]
  | m :: r, h => by
    have h1 := List.pairwise_cons.mp h
    unfold insS
    split
    · rename_i q
      refine List.pairwise_cons.mpr ⟨fun k hk => ?_, h⟩
      rcases List.mem_cons.mp hk with rfl | hk
      · exact q
      · exact Int.lt_trans q (h1.1 k hk)
    · split
      · exact h
      · rename_i q1 q2
        refine List.pairwise_cons.mpr ⟨fun k hk => ?_, insS_up h1.2⟩
        rcases insS_mem.mp hk with rfl | hk
        · omega
        · exact h1.1 k hk
theorem sortS_mem {k : Int} : ∀ {l : List Int}, k ∈ sortS l ↔ k ∈ l
  | [] => by simp [sortS]
  | m :: r => by rw [sortS, insS_mem, sortS_mem, List.mem_cons]
theorem sortS_up : ∀ l : List Int, (sortS l).Pairwise (· < ·)
  | [] => by simp [sortS]
  | m :: r => insS_up (sortS_up r)
theorem up_one : ∀ {l m : List Int}, l.Pairwise (· < ·) → m.Pairwise (· < ·) → (∀ k, k ∈ l ↔ k ∈ m) → l = m
  | [], [], _, _, _ => rfl
  | [], b :: m, _, _, h => absurd ((h b).mpr List.mem_cons_self) (by simp)
  | a :: l, [], _, _, h => absurd ((h a).mp List.mem_cons_self) (by simp)
  | a :: l, b :: m, hl, hm, h => by
    have h1 := List.pairwise_cons.mp hl
    have h2 := List.pairwise_cons.mp hm
    have e : a = b := by
      have p := (h a).mp List.mem_cons_self
      have q := (h b).mpr List.mem_cons_self
      rcases List.mem_cons.mp p with e | p
      · exact e
      · rcases List.mem_cons.mp q with e | q
        · exact e.symm
        · have := h2.1 a p
          have := h1.1 b q
          omega
    subst e
    rw [up_one h1.2 h2.2 fun k => ⟨fun hk => ?_, fun hk => ?_⟩]
    · rcases List.mem_cons.mp ((h k).mp (List.mem_cons_of_mem _ hk)) with rfl | r
      · exact absurd (h1.1 _ hk) (by omega)
      · exact r
    · rcases List.mem_cons.mp ((h k).mpr (List.mem_cons_of_mem _ hk)) with rfl | r
      · exact absurd (h2.1 _ hk) (by omega)
      · exact r
/-- set(d) -/
def rSetN (K : PySem.W.Frag) (w : World) : List V → Hp → VK → Prop := fun vs H Q => ∃ (l : Addr) (ns : List Int), vs = [.ref l] ∧ (SqL K H l (ns.map V.int) ∨ SqT K H l (ns.map V.int)) ∧ ns.length + 1 < 4096 ∧
  ∀ (S : Addr) (c : Nat), H S = none → Q (.ref S) (upd H S (SetO w S (fun j => decide (j ∈ ns)) c))
def rSortN (w : World) : List V → Hp → VK → Prop := fun vs H Q => ∃ (S : Addr) (ns : List Int) (c : Nat), vs = [.ref S] ∧ H S = some (SetO w S (fun j => decide (j ∈ ns)) c) ∧
  ∀ a, H a = none → Q (.ref a) (upd H a (.lst ((sortS ns).map V.int)))
def rLenN (w : World) : List V → Hp → VK → Prop := fun vs H Q => ∃ (S : Addr) (ns : List Int) (c : Nat), vs = [.ref S] ∧ H S = some (SetO w S (fun j => decide (j ∈ ns)) c) ∧ Q (.int ((sortS ns).length : Nat)) H
section
variable {X : Cx} {G : Gx}
open PySem.W PyProof.Rows in
theorem cr_setN (hc : X.calm = true) : CallR X (.type "set") (rSetN X.K X.w) := by
  intro pins s σ H vs us Q I r h
  obtain ⟨l, ns, rfl, hl, hn, q⟩ := h
  rw [Vals.ref1 r]
  have hb : ns.length + 1 < scanBound := hn
  rcases hl with hl | hl
  · obtain ⟨its, rv, pl, hz⟩ := I.list hl
    refine call_set_listI ns (I.ok.hd hc) pl.isList rv.ints hb fun h' tk c R hc k => ?_
    exact ⟨.ref _, _, I.laid (t' := tk) k (Nat.le_refl _) (setO_new R), rfl, q _ c (I.hok.fresh (Nat.le_refl _))⟩
  · obtain ⟨its, rv, pl, hz⟩ := I.tuple hl
    refine call_set_tupI ns (I.ok.hd hc) pl rv.ints hb fun h' tk c R hc k => ?_
    exact ⟨.ref _, _, I.laid (t' := tk) k (Nat.le_refl _) (setO_new R), rfl, q _ c (I.hok.fresh (Nat.le_refl _))⟩
open PySem.W PyProof.Rows in
theorem cr_sortN (hc : X.calm = true) : CallR X (.builtin "sorted") (rSortN X.w) := by
  intro pins s σ H vs us Q I r h
  obtain ⟨S, ns, c, rfl, hS, q⟩ := h
  rw [Vals.ref1 r]
  refine SetR.sorted (setO_get I hS) (I.ok.hd hc) fun t p out c ns' k gn os hp hg ia up mem few => ?_
  have e : ns' = sortS ns := up_one up (sortS_up ns) fun k => by rw [mem, decide_eq_true_eq, sortS_mem]
  subst e
  have z : ((sortS ns).map V.int).length ≤ sizeLine := by
    rw [List.length_map, sizeLine_eq]
    have : scanBound = 4096 := rfl
    omega
  have f := I.hok.fresh hp
  obtain ⟨th, tg, td, tt, to⟩ := t
  obtain rfl : tg = s.gens := gn
  obtain rfl : to = s.os := os
  exact ⟨.ref p, upd H p (.lst ((sortS ns).map V.int)), I.call (ch := []) (Un.laid k hp f) (I.hok.laid k hp ⟨z, out, c, vals_of_ints ia, hg⟩) I.bare (fun _ z => nomatch z), rfl, q p f⟩
open PySem.W PyProof.Rows in
theorem cr_lenN : CallR X (.builtin "len") (rLenN X.w) := by
  intro pins s σ H vs us Q I r h
  obtain ⟨S, ns, c, rfl, hS, q⟩ := h
  rw [Vals.ref1 r]
  obtain ⟨o, es, ep, tb, ho, hex, hd, good, nd, mem, few, fits, hn, ris, led⟩ := setO_get I hS
  have e : (es.toList.map keyOf).length = (sortS ns).length := by
    have nd2 : (sortS ns).Nodup := (sortS_up ns).imp fun h => Int.ne_of_lt h
    have pm : (es.toList.map keyOf).Perm (sortS ns) := (List.perm_ext_iff_of_nodup nd nd2).mpr fun k => by rw [← mem k, decide_eq_true_eq, sortS_mem]
    exact pm.length_eq
  rw [List.length_map, Array.length_toList] at e
  refine call_len_set ho hex hd fits (by have : scanBound = 4096 := rfl; omega) ⟨.int ((sortS ns).length : Nat), H, I.tok _, ⟨_, by rw [e]⟩, q⟩
variable (hK : X.K = G.K)
include hK
theorem setf_ok {Fz H : Hp} {x : V} {d : PV} {ns : List Int} (sub : Same Fz H) (hx : VW G.K Fz H x d) (h : setf d = some ns) : ∃ l ms, x = .ref l ∧ (SqL X.K H l (ms.map V.int) ∨ SqT X.K H l (ms.map V.int)) ∧ ms.length + 1 < 4096 ∧ ns = sortS ms := by
  unfold setf at h
  rw [Option.bind_eq_some_iff] at h
  obtain ⟨xs, h1, h⟩ := h
  rw [Option.bind_eq_some_iff] at h
  obtain ⟨ms, h2, h⟩ := h
  obtain ⟨h3, rfl⟩ := ite_some h
  have h2 := bInts_some h2
  subst h2
  unfold sItems at h1
  split at h1
  · cases h1
    obtain ⟨a, vs, rfl, ha, ra⟩ := hx.list sub
    rw [ra.ints] at ha
    exact ⟨a, ms, rfl, .inl (SqL.of ha), h3, rfl⟩
  · cases h1
    obtain ⟨a, vs, rfl, ha, ra, _⟩ := hx.tuple sub
    rw [ra.ints] at ha
    exact ⟨a, ms, rfl, .inr (hK ▸ ha), h3, rfl⟩
  · cases h1
end
end Pv
-- PvNSet
set_option maxRecDepth 100000
set_option maxHeartbeats 3000000
namespace Pv
open PySem L2
mutual
/-- nothing in it is a text -/
def bare : NK → Bool
  | .text _ => false
  | .tup ks => bares ks
  | _ => true
def bares : List NK → Bool
  | [] => true
  | k :: ks => bare k && bares ks
end
mutual
theorem rdk_at {h h' : Heap} (g : ∀ a o vs n, h.get? a = some o → o.data = .seq vs n → h'.get? a = some o) : ∀ (k : NK) (v : Value) (as : List Addr), Reads h v k.data as → Reads h' v k.data as
  | .none, _, _, r => by rw [NestedKey.data] at *; cases r; exact .none
  | .num i, _, _, r => by rw [NestedKey.data] at *; cases r; exact .int _ _
  | .text x, _, _, r => by rw [NestedKey.data] at *; cases r; exact .str _ _
  | .tup ks, _, _, r => by
    rw [NestedKey.data] at *
    cases r with
    | tuple h1 h2 h3 h4 => exact .tuple (g _ _ _ _ h1 h3) h2 h3 (rdks_at g ks _ _ h4)
theorem rdks_at {h h' : Heap} (g : ∀ a o vs n, h.get? a = some o → o.data = .seq vs n → h'.get? a = some o) : ∀ (ks : List NK) (vs : List Value) (as : List Addr), ReadsAll h vs (NestedKey.datas ks) as → ReadsAll h' vs (NestedKey.datas ks) as
  | [], _, _, r => by rw [NestedKey.datas] at *; cases r; exact .nil
  | k :: ks, _, _, r => by
    rw [NestedKey.datas] at *
    cases r with
    | cons r1 r2 => exact .cons (rdk_at g k _ _ r1) (rdks_at g ks _ _ r2)
end
mutual
theorem nis_of {h : Heap} : ∀ (k : NK) (v : Value) (as : List Addr), Reads h v k.data as → NestedIs h k v
  | .none, _, _, r => by rw [NestedKey.data] at r; cases r; exact .none
  | .num i, _, _, r => by rw [NestedKey.data] at r; cases r; exact .int _ _
  | .text x, _, _, r => by rw [NestedKey.data] at r; cases r; exact .text _ _
  | .tup ks, _, _, r => by
    rw [NestedKey.data] at r
    cases r with
    | tuple h1 h2 h3 h4 => exact .tup h1 h2 h3 (niss_of ks _ _ h4)
theorem niss_of {h : Heap} : ∀ (ks : List NK) (vs : List Value) (as : List Addr), ReadsAll h vs (NestedKey.datas ks) as → NestedAll h ks vs
  | [], _, _, r => by rw [NestedKey.datas] at r; cases r; exact .nil
  | k :: ks, _, _, r => by
    rw [NestedKey.datas] at r
    cases r with
    | cons r1 r2 => exact .cons (nis_of k _ _ r1) (niss_of ks _ _ r2)
end
structure IsN (h : Heap) (k : NK) (a : Addr) : Prop where
  rd : ∃ as, Reads h (.ref a) k.data as
  dp : k.depth ≤ 8
  br : bare k = true
section
variable {P : Program} {w : World} {s : Shared}
open PySem.W PyProof.Rows
mutual
theorem cls_key : ∀ (k : NK) (v : Value) (n : Nat), NestedIs s.heap k v → k.depth ≤ n → ∀ (A : Around) (E : Value → Shared → Prop) (Q : Bool → Shared → Prop), Q false s → wpAny (model P w) A (ofAClassStatement n v) Q E s
  | .none, _, n, x, _, A, E, Q, h => by cases x; cases n <;> exact wpAny_pure h
  | .num i, _, n, x, _, A, E, Q, h => by cases x <;> cases n <;> exact wpAny_pure h
  | .text y, _, n, x, _, A, E, Q, h => by cases x; cases n <;> exact wpAny_pure h
  | .tup ks, _, 0, _, hn, _, _, _, _ => by simp [NestedKey.depth] at hn
  | .tup ks, _, n + 1, x, hn, A, E, Q, h => by
    cases x with
    | @tup a o vs m _ hg hc hd hall =>
      simp only [NestedKey.depth, Nat.add_le_add_iff_right] at hn
      have ty : s.TypeIs (.ref a) "tuple" := ⟨o, hg, hc⟩
      unfold ofAClassStatement
      refine wpAny_bind (wpAny_typeOf ty ?_)
      dsimp only
      have e : (("tuple" : String) == "tuple") = true := by decide
      simp only [e, if_true, Bool.not_true, Bool.false_eq_true, if_false]
      try refine wpAny_bind (wpAny_pure ?_)
      try simp only [Bool.not_true, Bool.false_eq_true, if_false]
      show wpAny _ _ (seqItems? (.ref a) >>= _) _ _ s
      refine wpAny_bind (wpAny_seqItems hg hd ?_)
      dsimp only
      refine wpAny_bind (?_ : wpAny _ _ (forIn vs _ _) _ _ s)
      rw [← Array.forIn_toList]
      refine wpAny_forIn_list _ (fun l r t => r.1 = none ∧ t = s ∧ ∃ kl, NestedAll s.heap kl l ∧ NestedKey.depthAll kl ≤ n ∧ ∀ x ∈ l, ∀ (A : Around) (E : Value → Shared → Prop) (Q : Bool → Shared → Prop), Q false s → wpAny (model P w) A (ofAClassStatement n x) Q E s) _ ?_ ?_ _ _
        ⟨rfl, rfl, ks, hall, hn, cls_keys ks vs.toList n hall hn⟩
      · rintro v l r t ⟨hr, rfl, kl, k1, k2, k3⟩
        refine wpAny_bind (k3 v List.mem_cons_self _ _ _ ?_)
        simp only [Bool.false_eq_true, if_false]
        cases k1 with
        | cons q1 q2 =>
          simp only [NestedKey.depthAll] at k2
          exact wpAny_pure ⟨rfl, rfl, _, q2, by omega, fun u hu => k3 u (List.mem_cons_of_mem _ hu)⟩
      · rintro ⟨r1, r2⟩ t ⟨hr, rfl, _⟩
        simp only at hr
        subst hr
        exact wpAny_pure h
theorem cls_keys : ∀ (ks : List NK) (vs : List Value) (n : Nat), NestedAll s.heap ks vs → NestedKey.depthAll ks ≤ n → ∀ v ∈ vs, ∀ (A : Around) (E : Value → Shared → Prop) (Q : Bool → Shared → Prop), Q false s → wpAny (model P w) A (ofAClassStatement n v) Q E s
  | [], _, _, x, _, v, hv => by cases x; cases hv
  | k :: ks, _, n, .cons x1 x2, hn, v, hv => by
    simp only [NestedKey.depthAll] at hn
    rcases List.mem_cons.mp hv with rfl | hv
    · exact cls_key k _ n x1 (by omega)
    · exact cls_keys ks _ n x2 (by omega) v hv
end
mutual
theorem byv_key : ∀ (k : NK) (v : Value) (n : Nat), NestedIs s.heap k v → k.depth ≤ n → bare k = true → ∀ (A : Around) (E : Value → Shared → Prop) (Q : Bool → Shared → Prop), Q true s → wpAny (model P w) A (hashByValue n v) Q E s
  | .none, _, n, x, _, _, A, E, Q, h => by cases x; cases n <;> exact wpAny_pure h
  | .num i, _, n, x, _, _, A, E, Q, h => by cases x <;> cases n <;> exact wpAny_pure h
  | .text y, _, n, x, _, hb, A, E, Q, h => by simp [bare] at hb
  | .tup ks, _, 0, _, hn, _, _, _, _, _ => by simp [NestedKey.depth] at hn
  | .tup ks, _, n + 1, x, hn, hb, A, E, Q, h => by
    cases x with
    | @tup a o vs m _ hg hc hd hall =>
      simp only [NestedKey.depth, Nat.add_le_add_iff_right] at hn
      have ty : s.TypeIs (.ref a) "tuple" := ⟨o, hg, hc⟩
      unfold hashByValue
      refine wpAny_bind (wpAny_specialOf ty F.slot_tuple_hash.lookup ?_)
      show wpAny _ _ (seqItems? (.ref a) >>= _) _ _ s
      refine wpAny_bind (wpAny_seqItems hg hd ?_)
      refine wpAny_bind (?_ : wpAny _ _ (forIn vs _ _) _ _ s)
      rw [← Array.forIn_toList]
      refine wpAny_forIn_list _ (fun l r t => r.1 = none ∧ t = s ∧ ∀ x ∈ l, ∀ (A : Around) (E : Value → Shared → Prop) (Q : Bool → Shared → Prop), Q true s → wpAny (model P w) A (hashByValue n x) Q E s) _ ?_ ?_ _ _
        ⟨rfl, rfl, byv_keys ks vs.toList n hall hn (by simpa [bare] using hb)⟩
      · rintro v l r t ⟨hr, rfl, k3⟩
        refine wpAny_bind (k3 v List.mem_cons_self _ _ _ ?_)
        simp only [Bool.not_true, Bool.false_eq_true, if_false]
        exact wpAny_pure ⟨rfl, rfl, fun u hu => k3 u (List.mem_cons_of_mem _ hu)⟩
      · rintro ⟨r1, r2⟩ t ⟨hr, rfl, _⟩
        simp only at hr
        subst hr
        exact wpAny_pure h
theorem byv_keys : ∀ (ks : List NK) (vs : List Value) (n : Nat), NestedAll s.heap ks vs → NestedKey.depthAll ks ≤ n → bares ks = true → ∀ v ∈ vs, ∀ (A : Around) (E : Value → Shared → Prop) (Q : Bool → Shared → Prop), Q true s → wpAny (model P w) A (hashByValue n v) Q E s
  | [], _, _, x, _, _, v, hv => by cases x; cases hv
  | k :: ks, _, n, .cons x1 x2, hn, hb, v, hv => by
    simp only [NestedKey.depthAll] at hn
    rw [bares, Bool.and_eq_true] at hb
    rcases List.mem_cons.mp hv with rfl | hv
    · exact byv_key k _ n x1 (by omega) hb.1
    · exact byv_keys ks _ n x2 (by omega) hb.2 v hv
end
theorem IsN.is {h : Heap} {k : NK} {a : Addr} (x : IsN h k a) : NestedIs h k (.ref a) := by
  obtain ⟨as, r⟩ := x.rd
  exact nis_of k _ as r
theorem IsN.tk {h : Heap} {k : NK} {a : Addr} (x : IsN h k a) {h' : Heap} (g : ∀ b o, h.get? b = some o → h'.get? b = some o) : IsN h' k a := by
  obtain ⟨as, r⟩ := x.rd
  exact ⟨⟨as, rdk_at (fun a o _ _ e _ => g a o e) k _ as r⟩, x.dp, x.br⟩
theorem IsN.inj {h : Heap} {k k' : NK} {a : Addr} (x : IsN h k a) (y : IsN h k' a) : k = k' := NestedIs.inj _ _ _ x.is y.is
/-- a search among such keys shows nothing -/
theorem seen_no {A : Around} {E : Value → Shared → Prop} {k : NK} {b : Addr} {Q : Bool → Shared → Prop} (hb : IsN s.heap k b) {ys : List Value} (hy : ∀ y ∈ ys, ∃ k' c, y = Value.ref c ∧ IsN s.heap k' c) (h : Q false s) :
    wpAny (model P w) A (searchCouldBeSeen (.ref b) ys) Q E s := by
  unfold searchCouldBeSeen
  refine wpAny_bind (wpAny_forIn_list _ (fun l r t => r.1 = none ∧ t = s ∧ ∀ y ∈ l, ∃ k' c, y = Value.ref c ∧ IsN s.heap k' c) _ ?_ ?_ _ _ ⟨rfl, rfl, hy⟩)
  · rintro v l r t ⟨hr, rfl, all⟩
    obtain ⟨k', c, rfl, hc⟩ := all v List.mem_cons_self
    have all' : ∀ y ∈ l, ∃ k' c, y = Value.ref c ∧ IsN t.heap k' c := fun u hu => all u (List.mem_cons_of_mem _ hu)
    dsimp only
    by_cases same : (b == c || (carriedByValue (.ref b) && carriedByValue (.ref c))) = true
    · exact wp_if_pos same (wpAny_pure ⟨rfl, rfl, all'⟩)
    · refine wp_if_neg same ?_
      refine wpAny_bind (quiet_key k _ 8 _ hb.is hb.dp _ _ _ ?_)
      simp only [Bool.not_true, Bool.false_eq_true, if_false]
      refine wpAny_bind (quiet_key k' _ 8 _ hc.is hc.dp _ _ _ ?_)
      simp only [Bool.not_true, Bool.false_eq_true, if_false]
      refine wpAny_bind (cls_key k _ 8 hb.is hb.dp _ _ _ ?_)
      simp only [Bool.false_eq_true, if_false]
      refine wpAny_bind (cls_key k' _ 8 hc.is hc.dp _ _ _ ?_)
      simp only [Bool.false_eq_true, if_false]
      exact wpAny_pure ⟨rfl, rfl, all'⟩
  · rintro ⟨r1, r2⟩ t ⟨hr, rfl, _⟩
    simp only at hr
    subst hr
    exact wpAny_pure h
end
end Pv
-- PvNSet2
set_option maxRecDepth 100000
set_option maxHeartbeats 3000000
namespace Pv
open PySem L2
abbrev NL := List (Addr × NK)
def nrow (w : World) (p : Addr × NK) : Int × Value := (p.2.hash w, Value.ref p.1)
abbrev hashesN (w : World) (L : NL) : List Int := L.map fun p => p.2.hash w
structure SetN (w : World) (h : Heap) (a : Addr) (L : NL) (es : Array (Int × Value)) (ep : Nat) (t : SetTable) : Prop where
  ob : ∃ o, h.get? a = some o ∧ o.ExactSet ∧ o.data = .set es ep t
  rows : es.toList = L.map (nrow w)
  tab : TabOk t (hashesN w L)
  nd : (L.map (·.2)).Nodup
  key : ∀ p ∈ L, IsN h p.2 p.1
  plain : t.plain = true
  led : w.params.followText "set-order" = true ∨ t.led = true
  room : L.length * 5 < t.mask * 3
  few : L.length < 64
section
variable {P : Program} {w : World} {A : Around} {E : Value → Shared → Prop} {s : Shared} {a : Addr} {L : NL} {es : Array (Int × Value)} {ep : Nat} {t : SetTable}
open PySem.W PyProof.Rows
theorem SetN.size (R : SetN w s.heap a L es ep t) : es.size = L.length := by
  rw [← Array.length_toList, R.rows, List.length_map]
theorem SetN.psize (R : SetN w s.heap a L es ep t) : t.place.size = L.length := by
  have := R.tab.sz
  rwa [List.length_map] at this
theorem SetN.fits (R : SetN w s.heap a L es ep t) : t.fits es.size = true := by
  have h1 := R.psize
  have h2 := R.size
  have h3 := R.room
  rw [SetTable.fits, SetTable.fill, R.tab.dm, Bool.and_eq_true, beq_iff_eq, decide_eq_true_eq]
  refine ⟨by omega, ?_⟩
  show t.place.size + 0 ≤ t.mask
  omega
theorem SetN.at (R : SetN w s.heap a L es ep t) {i : Nat} {p : Addr × NK} (h : L[i]? = some p) : es[i]? = some (nrow w p) := by
  rw [← Array.getElem?_toList, R.rows, List.getElem?_map, h]; rfl
theorem SetN.even (R : SetN w s.heap a L es ep t) : ¬ t.gaveWay = true := by
  rw [SetTable.gaveWay, mask_odd R.tab.mok]; decide
theorem nth_dummy (m : Nat) : ∀ (n : Nat) (p : SetTable.Probe), p.dummy = none → (nth m p n).dummy = none
  | 0, _, h => h
  | n + 1, p, h => nth_dummy m n (adv m p) (by unfold adv; split <;> exact h)
/-- the start of the way of a hash -/
abbrev st0 (t : SetTable) (h : Int) : SetTable.Probe := runAt t.mask (SetTable.bits h % (t.mask + 1)) (SetTable.bits h)
theorem searchN (R : SetN w s.heap a L es ep t) {x : Addr} {k : NK} {hv : Int} (eh : hv = k.hash w) (hx : IsN s.heap k x) (hu : A.units + 8 < cLine) {K : Nat} (lt : K < 10 * SetTable.turns t.mask)
    (hK : way t.mask hv K ∉ t.place.toList) (hB : ∀ c, c < K → way t.mask hv c ∈ t.place.toList) {Q : SetFound → Shared → Prop}
    (yes : k ∈ L.map (·.2) → Q (.there none) s) (no : k ∉ L.map (·.2) → Q (.free (way t.mask hv K) false) s) :
    ∀ (f c : Nat) (stand : Option SetTable.Probe), stand.getD (t.probeStart hv) = nth t.mask (st0 t hv) c → c ≤ K → K - c < f →
      (∀ (i : Nat) p, L[i]? = some p → p.2 = k → ∃ c', c ≤ c' ∧ c' < K ∧ t.place.toList[i]? = some (way t.mask hv c')) →
      wpAny (model P w) A (setSearchFrom a (.ref x) hv true f stand) Q E s
  | 0, c, _, _, _, z, _ => absurd z (Nat.not_lt_zero _)
  | f + 1, c, stand, hs, hc, hf, still => by
    obtain ⟨o, ho, hex, hd⟩ := R.ob
    rw [setSearchFrom_succ]
    refine wpAny_bind (wpAny_setState_of ho hd R.fits ?_)
    dsimp only
    refine wp_if_neg R.even ?_
    try refine wpAny_bind (wpAny_pure ?_)
    have add : ∀ q, nth t.mask (nth t.mask (st0 t hv) c) q = nth t.mask (st0 t hv) (c + q) := fun q => (nth_add t.mask c _ q).symm
    have addj : ∀ q, (nth t.mask (nth t.mask (st0 t hv) c) q).j = way t.mask hv (c + q) := fun q => by rw [add]
    have hashAt : ∀ (i : Nat) p, L[i]? = some p → (es[i]?.map (·.1)).getD 0 = p.2.hash w := fun i p hp => by rw [R.at hp]; rfl
    rcases go_spec t R.tab.ris R.tab.dm (fun i => (es[i]?.map (·.1)).getD 0) hv (10 * SetTable.turns t.mask) (K - c) _ (nth_dummy _ c _ rfl) (by omega) (fun q hq => by rw [addj]; exact hB (c + q) (by omega)) (by rw [addj, show c + (K - c) = K by omega]; exact hK)
      with ⟨q, i, hq, hi, hh, none', pr⟩ | ⟨none', pr⟩
    · have pr' : t.probe (fun i => (es[i]?.map (·.1)).getD 0) hv (stand.getD (t.probeStart hv)) = some (.candidate (way t.mask hv (c + q)) i (nth t.mask (st0 t hv) (c + (q + 1)))) := by
        rw [hs, ← addj, ← add]; exact pr
      rw [pr']
      dsimp only
      rw [addj] at hi
      have hiL : i < L.length := by
        have h1 : i < t.place.toList.length := (List.getElem?_eq_some_iff.mp hi).1
        rw [Array.length_toList, R.psize] at h1
        exact h1
      obtain ⟨p, hp⟩ : ∃ p, L[i]? = some p := ⟨_, List.getElem?_eq_getElem hiL⟩
      have mem : p ∈ L := List.mem_of_getElem? hp
      have kp := R.key p mem
      have go : wpAny (model P w) A (searchRest a (.ref x) hv true f es t (way t.mask hv (c + q)) i (nth t.mask (st0 t hv) (c + (q + 1)))) Q E s := by
        unfold searchRest
        rw [R.at hp]
        dsimp only [nrow]
        refine wpAny_bind (wpAny_holding (eqAt_key p.2 k A s _ _ kp.is hx.is (by have := kp.dp; omega) _ _ _ _ ?_))
        rw [← NestedKey.decide_eq]
        refine wpAny_bind (wpAny_setState_of ho hd R.fits ?_)
        dsimp only
        by_cases same : p.2 = k
        · refine wp_if_pos (by simp [same]) (wpAny_pure (yes (List.mem_map.mpr ⟨p, mem, same⟩)))
        · refine wp_if_neg (by simp [same]) ?_
          try refine wpAny_bind (wpAny_pure ?_)
          rw [sameMem]
          dsimp only
          have live : t.slot (way t.mask hv (c + q)) = .live i := slot_live R.tab.ris hi
          simp only [if_true, live, R.at hp]
          dsimp only [nrow]
          refine wpAny_bind (wpAny_isSame_ref_self (wpAny_bind (wpAny_pure ?_)))
          simp only [if_true]
          refine wp_if_neg (by simp [same]) ?_
          refine searchN R eh hx hu lt hK hB yes no f (c + (q + 1)) _ rfl (by omega) (by omega) fun i0 p0 h0 k0 => ?_
          obtain ⟨c', c1, c2, c3⟩ := still i0 p0 h0 k0
          refine ⟨c', ?_, c2, c3⟩
          rcases Nat.lt_trichotomy c' (c + q) with z | z | z
          · refine absurd ?_ (none' (c' - c) i0 (by omega) (by rw [addj, show c + (c' - c) = c' by omega]; exact c3))
            exact (hashAt i0 p0 h0).trans (by rw [k0, eh])
          · subst z
            have live0 := slot_live R.tab.ris c3
            rw [live] at live0
            cases live0
            rw [hp] at h0
            cases h0
            exact absurd k0 same
          · omega
      by_cases hl : t.led = true
      · refine wp_if_neg (by simp [hl]) ?_
        try refine wpAny_bind (wpAny_pure ?_)
        exact go
      · refine wp_if_pos (by simp [hl]) (wpAny_bind (seen_no hx (fun y hy => ?_) ?_))
        · obtain ⟨e, he, rfl⟩ := List.mem_map.mp hy
          have he : e ∈ es.toList := by
            have : e ∈ es ∧ e.1 = hv := by simpa using he
            simpa using this.1
          rw [R.rows] at he
          obtain ⟨p2, hp2, rfl⟩ := List.mem_map.mp he
          exact ⟨p2.2, p2.1, rfl, R.key p2 hp2⟩
        · refine wp_if_neg (by decide) ?_
          try refine wpAny_bind (wpAny_pure ?_)
          exact go
    · have pr' : t.probe (fun i => (es[i]?.map (·.1)).getD 0) hv (stand.getD (t.probeStart hv)) = some (.empty (way t.mask hv K) none) := by
        have e2 : way t.mask hv K = (nth t.mask (nth t.mask (st0 t hv) c) (K - c)).j := by rw [addj, show c + (K - c) = K by omega]
        rw [hs, e2]; exact pr
      rw [pr']
      dsimp only
      refine wpAny_pure (no fun hm => ?_)
      obtain ⟨p0, m0, k0⟩ := List.mem_map.mp hm
      obtain ⟨i0, hi0⟩ := List.getElem?_of_mem m0
      obtain ⟨c', c1, c2, c3⟩ := still i0 p0 hi0 k0
      refine none' (c' - c) i0 (by omega) (by rw [addj, show c + (c' - c) = c' by omega]; exact c3) ?_
      exact (hashAt i0 p0 hi0).trans (by rw [k0, eh])
theorem searchN_at (R : SetN w s.heap a L es ep t) {x : Addr} {k : NK} {hv : Int} (eh : hv = k.hash w) (hx : IsN s.heap k x) (hu : A.units + 8 < cLine) {Q : SetFound → Shared → Prop} (yes : k ∈ L.map (·.2) → Q (.there none) s)
    (no : ∀ K, k ∉ L.map (·.2) → way t.mask hv K ∉ t.place.toList → (∀ c, c < K → way t.mask hv c ∈ t.place.toList) → Q (.free (way t.mask hv K) false) s) : wpAny (model P w) A (setSearch a (.ref x) hv true) Q E s := by
  have rm := R.room
  obtain ⟨K, lt, hK, hB⟩ := R.tab.first (by rw [List.length_map]; omega) hv
  have big : K < 100000 := by
    have : 10 * SetTable.turns t.mask ≤ 1420 := by
      unfold SetTable.turns
      rcases R.tab.mok with e | e | e <;> omega
    omega
  refine searchN R eh hx hu lt hK hB yes (fun hn => no K hn hK hB) 100000 0 none rfl (Nat.zero_le _) (by omega) fun i p hp k0 => ?_
  have hi : (hashesN w L)[i]? = some hv := by rw [List.getElem?_map, hp, eh, ← k0]; rfl
  have lt2 : i < t.place.toList.length := by rw [Array.length_toList, R.psize]; exact (List.getElem?_eq_some_iff.mp hp).1
  have hj := List.getElem?_eq_getElem lt2
  obtain ⟨c, hc, e⟩ := R.tab.before hK hi hj
  exact ⟨c, Nat.zero_le _, hc, by rw [hj, e]⟩
end
end Pv
-- PvNSet3
set_option maxRecDepth 100000
set_option maxHeartbeats 3000000
namespace Pv
open PySem L2
section
variable {P : Program} {w : World} {A : Around} {E : Value → Shared → Prop} {s : Shared} {a : Addr} {L : NL} {es : Array (Int × Value)} {ep : Nat} {t : SetTable}
open PySem.W PyProof.Rows
theorem IsN.same {h h' : Heap} {k : NK} {b : Addr} {o : Obj} (x : IsN h k b) (ho : h.get? a = some o) (hd : o.data = .set es ep t) (sb : Heap.SameBut a h h') : IsN h' k b := by
  obtain ⟨as, r⟩ := x.rd
  refine ⟨⟨as, rdk_at (fun c o' vs n hc e => ?_) k _ as r⟩, x.dp, x.br⟩
  by_cases q : c = a
  · subst q
    rw [ho] at hc
    cases hc
    rw [hd] at e
    cases e
  · exact (sb.2 c q).trans hc
theorem pick_rows (L : NL) : ∀ l : List Nat, (∀ i ∈ l, i < L.length) → (es.toList = L.map (nrow w)) → ∃ L2 : NL, l.filterMap (fun i => es[i]?) = L2.map (nrow w) ∧ L2 = l.filterMap (fun i => L[i]?) ∧ hashesN w L2 = l.map fun i => (es.map (·.1)).getD i 0
  | [], _, _ => ⟨[], rfl, rfl, rfl⟩
  | i :: l, h, hr => by
    obtain ⟨L2, e1, e2, e3⟩ := pick_rows L l (fun j hj => h j (List.mem_cons_of_mem _ hj)) hr
    have hi := h i List.mem_cons_self
    have at1 : es[i]? = some (nrow w L[i]) := by
      rw [← Array.getElem?_toList, hr, List.getElem?_map, List.getElem?_eq_getElem hi]; rfl
    refine ⟨L[i] :: L2, ?_, ?_, ?_⟩
    · rw [List.filterMap_cons_some at1, e1, List.map_cons]
    · rw [List.filterMap_cons_some (List.getElem?_eq_getElem hi), e2]
    · rw [hashesN, List.map_cons, List.map_cons]
      refine List.cons_eq_cons.mpr ⟨?_, e3⟩
      have : (es.map (·.1))[i]? = some ((L[i]).2.hash w) := by rw [Array.getElem?_map, at1]; rfl
      simp [Array.getD_eq_getD_getElem?, this]
theorem pick_all (L : NL) : ∀ n, n ≤ L.length → (List.range n).filterMap (fun i => L[i]?) = L.take n
  | 0, _ => rfl
  | n + 1, h => by
    have lt : n < L.length := h
    rw [List.range_succ, List.filterMap_append, pick_all L n (Nat.le_of_lt lt), List.take_succ, List.getElem?_eq_getElem lt, List.filterMap_cons_some (List.getElem?_eq_getElem lt)]; rfl
theorem rows_order (L : NL) (order : Array Nat) (hr : es.toList = L.map (nrow w)) (hp : order.toList.Perm (List.range L.length)) :
    ∃ L2 : NL, (order.filterMap (es[·]?)).toList = L2.map (nrow w) ∧ L2.Perm L ∧ hashesN w L2 = order.toList.map fun i => (es.map (·.1)).getD i 0 := by
  obtain ⟨L2, e1, e2, e3⟩ := pick_rows (es := es) (w := w) L order.toList (fun i hi => List.mem_range.mp (hp.mem_iff.mp hi)) hr
  refine ⟨L2, by first | (rw [Array.toList_filterMap]; exact e1) | simpa using e1, ?_, e3⟩
  have z : L2.Perm ((List.range L.length).filterMap fun i => L[i]?) := by rw [e2]; exact hp.filterMap _
  rwa [pick_all L L.length (Nat.le_refl _), List.take_length] at z
theorem relayN {o : Obj} (ho : s.heap.get? a = some o) (hex : o.ExactSet) (hd : o.data = .set es ep t) (hr : es.toList = L.map (nrow w)) (hz : t.place.size = es.size) (dm : t.dummies = #[]) (fl : es.size ≤ t.mask)
    (nd : (L.map (·.2)).Nodup) (key : ∀ p ∈ L, IsN s.heap p.2 p.1) (pl : t.plain = true) (ld : w.params.followText "set-order" = true ∨ t.led = true) (few : L.length < 64) {wanted M : Nat}
    (hw : SetTable.sizeAbove wanted - 1 = M) (hM : MaskOk M) (hw2 : SetTable.sizeAbove wanted ≤ 128) (hn : L.length * 5 < M * 3) {Q : Unit → Shared → Prop}
    (hQ : ∀ h' L' es' ep' t', Heap.SameBut a s.heap h' → SetN w h' a L' es' ep' t' → L'.Perm L → Q () { s with heap := h' }) : wpAny (model P w) A (setRelay a wanted) Q E s := by
  have sz : es.size = L.length := by rw [← Array.length_toList, hr, List.length_map]
  have fits : t.fits es.size = true := by
    rw [SetTable.fits, SetTable.fill, dm, Bool.and_eq_true, beq_iff_eq, decide_eq_true_eq]
    refine ⟨hz, ?_⟩
    show t.place.size + 0 ≤ t.mask
    omega
  obtain ⟨t2, order, e, hp, T, em, el, epl, ed⟩ := relaid_ok t (hs := es.map (·.1)) (wanted := wanted) hw hM (by rw [Array.size_map, sz]; omega)
  rw [Array.size_map, sz] at hp
  obtain ⟨L2, r1, r2, r3⟩ := rows_order L order hr hp
  rw [← r3] at T
  have sz2 : (order.filterMap (es[·]?)).size = es.size := by rw [← Array.length_toList, r1, List.length_map, r2.length_eq, sz]
  have big : L.length ≤ sizeLine ∧ 128 ≤ sizeLine := by rw [sizeLine_eq]; omega
  rw [setRelay_eq]
  refine wpAny_bind (wpAny_setState_of ho hd fits ?_)
  dsimp only
  refine wp_if_neg (by omega) ?_
  try refine wpAny_bind (wpAny_pure ?_)
  rw [e]
  dsimp only
  refine wpAny_bind (wp_if_neg (by rw [sz2]; simp) ?_)
  try refine wpAny_bind (wpAny_pure ?_)
  refine wpAny_pure ?_
  dsimp only
  refine wpAny_storeSet_of ho hd ?_ (by rw [sz2, sz]; exact big.1)
  have sb : Heap.SameBut a s.heap (s.heap.update a (Obj.putSet (order.filterMap (es[·]?)) t2)) := Heap.SameBut.update ..
  refine hQ _ L2 (order.filterMap (es[·]?)) (ep + 1) t2 sb ⟨⟨_, store_at ho hd, ⟨hex.1, hex.2.1, hex.2.2⟩, rfl⟩, r1, T, (r2.map (·.2)).nodup_iff.mpr nd, fun p hm => (key p (r2.mem_iff.mp hm)).same ho hd sb, by rw [epl]; exact pl, by rw [el]; exact ld, ?_, by rw [r2.length_eq]; exact few⟩ r2
  rw [r2.length_eq, em]; exact hn
theorem addN (R : SetN w s.heap a L es ep t) {x : Addr} {k : NK} (hx : IsN s.heap k x) (hu : A.units + 8 < cLine) (hfew : L.length + 1 < 64) {Q : Bool → Shared → Prop}
    (hQ : ∀ b h' L' es' ep' t', Heap.SameBut a s.heap h' → SetN w h' a L' es' ep' t' → (k ∈ L.map (·.2) → L' = L) → (k ∉ L.map (·.2) → L'.Perm ((x, k) :: L)) → Q b { s with heap := h' }) :
    wpAny (model P w) A (setAddHashed a (.ref x) (k.hash w)) Q E s := by
  obtain ⟨o, ho, hex, hd⟩ := R.ob
  have sz := R.size
  have rm := R.room
  have psz := R.psize
  have big : L.length + 1 ≤ sizeLine := by rw [sizeLine_eq]; omega
  generalize eh : k.hash w = hv
  unfold setAddHashed
  refine wpAny_holding ?_
  rw [show (100000 : Nat) = 99999 + 1 from rfl, setAddHashedIn_succ]
  refine wpAny_bind (wpAny_setState_of ho hd R.fits ?_)
  dsimp only
  refine wp_if_neg (by simp [byScan, Value.scannable]) ?_
  try refine wpAny_bind (wpAny_pure ?_)
  refine wpAny_bind (searchN_at R eh.symm hx hu (fun hm => ?_) fun K hm hK hb => ?_)
  · dsimp only
    exact wpAny_pure (hQ false s.heap L es ep t (Heap.SameBut.refl a s.heap) R (fun _ => rfl) fun z => absurd hm z)
  · dsimp only
    refine wpAny_bind (wpAny_setState_of ho hd R.fits ?_)
    dsimp only
    obtain ⟨q1, q2, q3, q4, q5, q6, q7, q8, q9⟩ := R.tab.put hK hb
    have pl : (t.put (way t.mask hv K)).1.plain = true := by rw [q6]; exact R.plain
    generalize e0 : t.put (way t.mask hv K) = pt at q1 q3 q4 q5 q6 q7 q8 q9 pl ⊢
    obtain ⟨t1, p⟩ := pt
    dsimp only at q1 q3 q4 q5 q6 q7 q8 q9 pl ⊢
    subst q1
    first
      | (refine wpAny_bind ?_; refine wp_if_pos pl ?_; refine byv_key k _ 8 hx.is hx.dp hx.br _ _ _ ?_)
      | refine wp_if_pos pl (wpAny_bind (byv_key k _ 8 hx.is hx.dp hx.br _ _ _ ?_))
    simp only [if_true]
    generalize ep0 : SetTable.below t.place (way t.mask hv K) = p at q2 q3 ⊢
    have pm := put_perm L p (x, k)
    have rows1 : (SetTable.insertAt es p (hv, Value.ref x)).toList = (L.take p ++ (x, k) :: L.drop p).map (nrow w) := by
      rw [SetTable.toList_insertAt, R.rows, List.map_append, List.map_cons, List.map_take, List.map_drop, nrow, eh]
    have hs1 : hashesN w (L.take p ++ (x, k) :: L.drop p) = (hashesN w L).take p ++ hv :: (hashesN w L).drop p := by
      rw [hashesN, List.map_append, List.map_cons, List.map_take, List.map_drop, eh]
    rw [← hs1] at q3
    have nd1 : ((L.take p ++ (x, k) :: L.drop p).map (·.2)).Nodup := by
      rw [(pm.map (·.2)).nodup_iff, List.map_cons]
      exact List.nodup_cons.mpr ⟨hm, R.nd⟩
    have len1 : (L.take p ++ (x, k) :: L.drop p).length = L.length + 1 := pm.length_eq
    have sz1 : (SetTable.insertAt es p (hv, Value.ref x)).size = L.length + 1 := by rw [← Array.length_toList, rows1, List.length_map, len1]
    generalize SetTable.insertAt es p (hv, Value.ref x) = es1 at rows1 sz1 ⊢
    generalize L.take p ++ (x, k) :: L.drop p = L1 at pm len1 q3 nd1 rows1
    refine wpAny_bind (wpAny_storeSet_of ho hd ?_ (by rw [sz1]; exact big))
    have sb : Heap.SameBut a s.heap (s.heap.update a (Obj.putSet es1 t1)) := Heap.SameBut.update ..
    have ho1 := store_at (es' := es1) (t' := t1) ho hd
    generalize s.heap.update a (Obj.putSet es1 t1) = h1 at sb ho1 ⊢
    have key1 : ∀ p ∈ L1, IsN h1 p.2 p.1 := fun p hp => by
      rcases List.mem_cons.mp (pm.mem_iff.mp hp) with rfl | hp
      · exact hx.same ho hd sb
      · exact (R.key p hp).same ho hd sb
    have ld1 : w.params.followText "set-order" = true ∨ t1.led = true := by rw [q5]; exact R.led
    by_cases full : t1.tooFull = true
    · first
        | (refine wpAny_bind ?_; refine wp_if_pos (by simp [full]) ?_)
        | (refine wp_if_pos (by simp [full]) ?_; refine wpAny_bind ?_)
      have hfull : (L.length + 1) * 5 ≥ t1.mask * 3 := by
        have h := full
        rw [SetTable.tooFull, decide_eq_true_eq, q9, List.length_map] at h
        exact h
      rw [sz]
      have psz1 : t1.place.size = es1.size := by
        have h := q3.sz
        rw [List.length_map, len1] at h
        rw [h, sz1]
      have two : (t.mask = 7 ∧ L.length = 4) ∨ (t.mask = 31 ∧ L.length = 18) := by
        rw [q4] at hfull
        rcases R.tab.mok with e | e | e <;> rw [e] at hfull rm
        · exact .inl ⟨e, by omega⟩
        · exact .inr ⟨e, by omega⟩
        · omega
      have go : ∀ M, SetTable.sizeAbove (SetTable.grown (L.length + 1)) - 1 = M → MaskOk M → SetTable.sizeAbove (SetTable.grown (L.length + 1)) ≤ 128 → (L.length + 1) * 5 < M * 3 →
          wpAny (model P w) A (setRelay a (SetTable.grown (L.length + 1))) (fun _ s' => wpAny (model P w) A (pure true) Q E s') E { s with heap := h1 } := fun M m1 m2 m3 m4 => by
        refine relayN (s := { s with heap := h1 }) ho1 ⟨hex.1, hex.2.1, hex.2.2⟩ rfl rows1 psz1 q3.dm (by rw [sz1, q4]; rcases two with ⟨e, e2⟩ | ⟨e, e2⟩ <;> omega) nd1 key1 pl ld1 (by rw [len1]; exact hfew) m1 m2 m3 (by rw [len1]; exact m4) fun h2 L2 es2 ep2 t2 sb2 R2 pm2 => ?_
        exact wpAny_pure (hQ true h2 L2 es2 ep2 t2 (sb.trans sb2) R2 (fun z => absurd z hm) fun _ => pm2.trans pm)
      rcases two with ⟨_, e2⟩ | ⟨_, e2⟩
      · refine go 31 (by rw [e2, size_20]) (.inr (.inl rfl)) (by rw [e2, size_20]; decide) (by omega)
      · refine go 127 (by rw [e2, size_76]) (.inr (.inr rfl)) (by rw [e2, size_76]; decide) (by omega)
    · first
        | refine wp_if_neg (by simp [full]) ?_
        | (refine wpAny_bind ?_; refine wp_if_neg (by simp [full]) ?_; refine wpAny_pure ?_)
      refine wpAny_pure (hQ true h1 L1 es1 (ep + 1) t1 sb ⟨⟨_, ho1, ⟨hex.1, hex.2.1, hex.2.2⟩, rfl⟩, rows1, q3, nd1, key1, pl, ld1, ?_, by rw [len1]; exact hfew⟩ (fun z => absurd z hm) fun _ => pm)
      have h := full
      rw [SetTable.tooFull, decide_eq_true_eq, q9, List.length_map] at h
      rw [len1]; omega
end
end Pv
-- PvNSet4
set_option maxRecDepth 100000
set_option maxHeartbeats 3000000
namespace Pv
open PySem L2
/-- what the set holds of the first i -/
structure Of (ks : NL) (i : Nat) (L : NL) : Prop where
  sub : ∀ p ∈ L, p ∈ ks.take i
  all : ∀ p ∈ ks.take i, p.2 ∈ L.map (·.2)
theorem Of.zero (ks : NL) : Of ks 0 [] := ⟨fun _ h => (by cases h), fun p h => (by simp at h)⟩
theorem Of.next {ks L L' : NL} {i : Nat} {x : Addr × NK} (g : Of ks i L) (h : ks[i]? = some x) (h1 : x.2 ∈ L.map (·.2) → L' = L) (h2 : x.2 ∉ L.map (·.2) → L'.Perm (x :: L)) : Of ks (i + 1) L' := by
  have e : ks.take (i + 1) = ks.take i ++ [x] := by rw [List.take_succ, h]; rfl
  by_cases q : x.2 ∈ L.map (·.2)
  · obtain rfl := h1 q
    refine ⟨fun p hp => by rw [e]; exact List.mem_append_left _ (g.sub p hp), fun p hp => ?_⟩
    rw [e] at hp
    rcases List.mem_append.mp hp with z | z
    · exact g.all p z
    · rw [List.mem_singleton.mp z]; exact q
  · have pm := h2 q
    refine ⟨fun p hp => ?_, fun p hp => ?_⟩
    · rw [e]
      rcases List.mem_cons.mp (pm.mem_iff.mp hp) with rfl | hp
      · exact List.mem_append_right _ List.mem_cons_self
      · exact List.mem_append_left _ (g.sub p hp)
    · have m2 : p.2 ∈ (x :: L).map (·.2) := by
        rw [e] at hp
        rcases List.mem_append.mp hp with z | z
        · exact List.mem_cons_of_mem _ (g.all p z)
        · rw [List.mem_singleton.mp z]; exact List.mem_cons_self
      exact (pm.map (·.2)).mem_iff.mpr m2
section
variable {P : Program} {w : World} {A : Around} {E : Value → Shared → Prop} {s : Shared}
open PySem.W PyProof.Rows
theorem SetN.keep {h h' : Heap} {a : Addr} {L : NL} {es : Array (Int × Value)} {ep : Nat} {t : SetTable} (R : SetN w h a L es ep t) (ha : ∀ o, h.get? a = some o → h'.get? a = some o) (hk : ∀ p ∈ L, IsN h' p.2 p.1) : SetN w h' a L es ep t := by
  obtain ⟨o, ho, r⟩ := R.ob
  exact ⟨⟨o, ha o ho, r⟩, R.rows, R.tab, R.nd, hk, R.plain, R.led, R.room, R.few⟩
theorem SetN.fresh {h : Heap} {a : Addr} (ho : h.get? a = some (newSet w)) : SetN w h a [] #[] 0 (.fresh 0 0 (!w.params.followText "set-order")) :=
  ⟨⟨_, ho, ⟨rfl, rfl, rfl⟩, rfl⟩, rfl, ⟨List.Pairwise.nil, rfl, rfl, .inl rfl, fun x hx => (by cases hx), fun i h j hi => (by simp at hi)⟩, List.nodup_nil, fun p hp => (by cases hp), rfl,
    (by show _ ∨ (!w.params.followText "set-order") = true; cases w.params.followText "set-order"; exact .inr rfl; exact .inl rfl), (by show 0 * 5 < 7 * 3; decide), (by decide)⟩
/-- so few that they fit in -/
def FewK (ks : NL) : Prop := ∀ L : NL, (L.map (·.2)).Nodup → (∀ p ∈ L, p ∈ ks) → L.length < 63
theorem updateN {I : Addr} {fp wr : List Addr} {G : Array GenState → Array GenState → Prop} {n : Nat} {Vn : Nat → Value → Prop} {St : Nat → Shared → Prop} {R : Result → Shared → Prop}
    (W : WalksS P w A.in1 I fp wr G n Vn St) (S : Addr) (hSf : S ∉ fp) (ks : NL) (hn : n = ks.length) (few : FewK ks) (hval : ∀ i v, Vn i v → ∃ p, ks[i]? = some p ∧ v = .ref p.1) (h0 : Heap) (hk : ∀ p ∈ ks, IsN h0 p.2 p.1)
    (hS0 : h0.get? S = none) (hw0 : ∀ b ∈ wr, h0.get? b = none) (hu : A.units + 9 < cLine) :
    ∀ (k i : Nat) (s : Shared), n - i = k → i ≤ n → St i s → (∀ b o, h0.get? b = some o → s.heap.get? b = some o) → (∃ L es ep t, SetN w s.heap S L es ep t ∧ Of ks i L) →
      (∀ s' L es ep t, Moved (S :: wr) G s s' → SetN w s'.heap S L es ep t → Of ks n L → (∀ b o, h0.get? b = some o → s'.heap.get? b = some o) → R (.ok (.ret .none)) s') →
      codeAny (model P w) A (.builtin "set.update.loop" ⟨[.ref S, .ref I], []⟩) R s := by
  have nS : S ∉ wr := fun h => hSf (W.sub _ h)
  have up : ∀ b ∈ wr, b ∈ S :: wr := fun b hb => List.mem_cons_of_mem _ hb
  have hold : ∀ {s s' : Shared}, Moved wr G s s' → (∀ b o, h0.get? b = some o → s.heap.get? b = some o) → ∀ b o, h0.get? b = some o → s'.heap.get? b = some o := fun m kp b o e =>
    m.heap b o (fun hb => by rw [hw0 b hb] at e; cases e) (kp b o e)
  intro k
  induction k with
  | zero =>
    rintro i s ek le hst kp ⟨L, es, ep, t, hS, g⟩ hR
    obtain rfl : i = n := by omega
    refine codeAny_builtin F.entry_set_update_loop ?_
    rw [Around.under_plainId F.plain_set_update_loop _]
    refine (wpAny_bind (W.done s _ _ hst fun s' hm => ?_) : wpAny _ A.in1 (pyNext (.ref I) >>= _) _ _ s)
    have kp' := hold hm kp
    have sub : ∀ p ∈ L, p ∈ ks := fun p hp => List.mem_of_mem_take (g.sub p hp)
    show wpAny _ A.in1 (ret Value.none) _ _ s'
    exact wpAny_pure (hR s' L es ep t (hm.mono up) (hS.keep (fun o e => hm.heap S o nS e) fun p hp => (hk p (sub p hp)).tk kp') g kp')
  | succ k ih =>
    rintro i s ek le hst kp ⟨L, es, ep, t, hS, g⟩ hR
    have lt : i < n := by omega
    refine codeAny_builtin F.entry_set_update_loop ?_
    rw [Around.under_plainId F.plain_set_update_loop _]
    refine (wpAny_bind (W.item i s _ _ lt hst fun v s' hP hst' hm => ?_) : wpAny _ A.in1 (pyNext (.ref I) >>= _) _ _ s)
    obtain ⟨p, hp, rfl⟩ := hval i v hP
    have kp' := hold hm kp
    have sub : ∀ p ∈ L, p ∈ ks := fun p hp => List.mem_of_mem_take (g.sub p hp)
    have hS' : SetN w s'.heap S L es ep t := hS.keep (fun o e => hm.heap S o nS e) fun q hq => (hk q (sub q hq)).tk kp'
    have hx : IsN s'.heap p.2 p.1 := (hk p (List.mem_of_getElem? hp)).tk kp'
    show wpAny _ A.in1 (holding [Value.ref p.1] (setAdd S (.ref p.1)) >>= _) _ _ s'
    refine wpAny_bind (wpAny_holding ?_)
    unfold setAdd
    refine wpAny_holding (wpAny_bind (pyHash_key p.2 _ A.in1 s' _ hx.is (by have := hx.dp; simp only [Around.in1_units]; omega) ?_))
    refine addN (s := { s' with toks := s'.toks + p.2.draws }) hS' hx (by simp only [Around.in1_units]; omega) (by have := few L hS.nd sub; omega) fun b h' L' es' ep' t' sb hS2 c1 c2 => ?_
    have kp2 : ∀ b o, h0.get? b = some o → h'.get? b = some o := fun b o e => (sb.2 b (fun z => by rw [z, hS0] at e; cases e)).trans (kp' b o e)
    refine wpAny_pure ⟨plainId_quiet F.plain_set_update_loop _, ih (i + 1) _ (by omega) lt (W.frame _ s' _ _ hst' (Nat.le_add_right _ _) fun b hb o e => ?_) kp2 ⟨L', es', ep', t', hS2, g.next hp c1 c2⟩ fun s2 L2 es2 ep2 t2 hm2 hS3 g2 kp3 => ?_⟩
    · rw [sb.2 b (fun h : b = S => hSf (h ▸ hb))]; exact e
    · refine hR s2 L2 es2 ep2 t2 (Moved.trans W.gtrans ((hm.mono up).then_heap (Nat.le_add_right _ _) fun b o hb e => ?_) hm2) hS3 g2 kp3
      rw [sb.2 b (fun h : b = S => hb (h ▸ List.mem_cons_self))]; exact e
theorem call_setN_list {l : Addr} {items : Array Value} (ks : NL) {Q : Value → Shared → Prop} (hh : A.handled = none) (hl : s.heap.IsList l items) (hit : items.toList = ks.map fun p => Value.ref p.1) (hk : ∀ p ∈ ks, IsN s.heap p.2 p.1) (few : FewK ks) (hu : A.units + 16 < cLine)
    (h : ∀ (h' : Heap) (tk : Nat) L es ep t, SetN w h' s.heap.objs.size L es ep t → Of ks ks.length L → (∀ b o, s.heap.get? b = some o → h'.get? b = some o) → Q (.ref s.heap.objs.size) { s with heap := h', toks := tk }) :
    wpAny (model P w) A (call (.type "set") [.ref l]) Q E s := by
  have hsz : items.size = ks.length := by rw [← Array.length_toList, hit, List.length_map]
  obtain ⟨_, _, mro⟩ := F.called_set.mro
  have k1 := F.called_set.made
  have k2 := F.called_set.sub
  refine wpAny_call (codeAny_of_tree (?_ : wpAny _ _ (callAny (.type "set") _) _ _ _))
  refine wpAny_pure ⟨Code.quiet_builtin _ (by decide +kernel), codeAny_builtin F.entry_type_call ?_⟩
  rw [Around.under_plain (weight_type_call_type "set" [.ref l] []) rfl]
  have k3 := F.called_set.notType
  have k4 := F.called_set.canCreate
  have k5 := F.typeCall_set_1 (.ref l)
  repeat (any_goals (first | assumption | wp_step))
  refine codeAny_mono (code_set_led1 (.ref l) (E := E) (Q₁ := fun obj t => obj = .ref s.heap.objs.size ∧ t = { s with heap := pset w s }) ⟨rfl, rfl⟩) fun r t hr => ?_
  cases r with
  | error e => exact hr
  | ok fl =>
    cases fl <;> first | exact hr.elim | skip
    obtain ⟨rfl, rfl⟩ := hr
    have g0 : (pset w s).get? s.heap.objs.size = some (newSet w) := Heap.get?_push_size _ rfl
    have g1 : Shared.TypeIs { s with heap := pset w s } (.ref s.heap.objs.size) "set" := ⟨_, g0, rfl⟩
    have g2 := F.called_set.init.lookup
    have g3 := F.called_set.init.bind (.ref s.heap.objs.size)
    repeat (any_goals (first | assumption | wp_step))
    refine codeAny_mono (codeAny_call_builtin (R := wants (fun r t => r = .none ∧ ∃ h' tk L es ep tb, t = { s with heap := h', toks := tk } ∧ SetN w h' s.heap.objs.size L es ep tb ∧ Of ks ks.length L ∧
        (∀ b o, s.heap.get? b = some o → h'.get? b = some o)) E) F.called_set.init.plain F.entry_set_init (check_set_init_1 g1 ?_)) fun r2 t2 h2 => ?_
    · obtain ⟨⟨oc, od, oda, osl⟩, hol, hcl, nl, hdl⟩ := hl
      simp only at hcl hdl
      subst hcl hdl
      have g4 : (pset w s).get? l = some { cls := .type "list", dict := od, data := .seq items nl, slots := osl } := Heap.get?_push_of_some _ hol
      have g5 := F.sub_list_set
      have g6 := F.sub_list_frozenset
      have g7 : (Value.type "list" == Value.type "dict") = false := by decide
      have g8 : (pset w s).IsList l items := ⟨_, g4, rfl, nl, rfl⟩
      unfold Builtin.«set.__init__» noKeywords Builtin.Frozenset.updateFrom
      generalize hI : pyIter = I
      wp_walk
      subst hI
      refine wpAny_pyIter_list g8 (wpAny_bind (wpAny_runValue ?_))
      have z1 : (pset w s).objs.size = s.heap.objs.size + 1 := Heap.size_push ..
      have z2 : l < s.heap.objs.size := Heap.lt_size hol
      have hh3 : A.in1.in1.in1.handled = none := by simp [hh]
      have z3 : l ≠ (pset w s).objs.size := fun e => by
        have e : l = s.heap.objs.size + 1 := e.trans z1
        exact absurd z2 (by rw [e]; exact fun q => Nat.not_succ_le_self _ (Nat.le_of_lt q))
      have z4 : s.heap.objs.size ∉ [(pset w s).objs.size, l] := by
        rw [z1]
        simp only [List.mem_cons, List.not_mem_nil, or_false, not_or]
        exact ⟨fun q => Nat.succ_ne_self _ q.symm, fun q => Nat.lt_irrefl _ (q ▸ z2)⟩
      have val : ∀ (i : Nat) (v : Value), items[i]? = some v → ∃ p, ks[i]? = some p ∧ v = .ref p.1 := fun i v hv => by
        have q : items.toList[i]? = some v := by rwa [Array.getElem?_toList]
        rw [hit, List.getElem?_map, Option.map_eq_some_iff] at q
        obtain ⟨p, q1, q2⟩ := q
        exact ⟨p, q1, q2.symm⟩
      have gone : ∀ b, s.heap.objs.size ≤ b → s.heap.get? b = none := fun b hb => by
        cases q : s.heap.get? b with
        | none => rfl
        | some o => exact absurd (Nat.lt_of_lt_of_le (Heap.lt_size q) hb) (Nat.lt_irrefl _)
      refine updateN ((Walks.list hh3 _ l z3 items).toS) s.heap.objs.size z4 ks hsz few val s.heap hk (gone _ (Nat.le_refl _)) (fun b hb => gone b (by rw [List.mem_singleton.mp hb, z1]; exact Nat.le_succ _)) (by simp only [Around.in1_units]; omega) (items.size - 0) 0 _ (by omega) (Nat.zero_le _)
        ⟨⟨_, Heap.get?_push_size _ rfl, rfl, rfl⟩, g8.push _⟩ (fun b o e => Heap.get?_push_of_some _ (Heap.get?_push_of_some _ e)) ?_ ?_
      · exact ⟨[], #[], 0, _, SetN.fresh (Heap.get?_push_of_some _ g0), Of.zero ks⟩
      · rintro ⟨h', gn, dr, tk, os⟩ L es ep tb hm hS g kp
        obtain rfl : gn = s.gens := hm.gens
        obtain rfl : dr = s.drawn := hm.drawn
        obtain rfl : os = s.os := hm.os
        show wpAny _ _ _ _ _ _
        refine wpAny_pure ?_
        show wpAny _ _ (ret Value.none) _ _ _
        exact wpAny_pure ⟨rfl, h', tk, L, es, ep, tb, rfl, hS, hsz ▸ g, kp⟩
    · cases r2 with
      | error e => exact h2
      | ok fl =>
        cases fl <;> first | exact h2.elim | skip
        obtain ⟨rfl, h', tk, L, es, ep, tb, rfl, hS, g, kp⟩ := h2
        repeat (any_goals (first | assumption | wp_step))
        exact h _ _ _ _ _ _ hS g kp
theorem call_setN_tuple {l : Addr} {items : Array Value} (ks : NL) {Q : Value → Shared → Prop} (hh : A.handled = none) (hl : s.heap.IsTuple l items) (hit : items.toList = ks.map fun p => Value.ref p.1) (hk : ∀ p ∈ ks, IsN s.heap p.2 p.1) (few : FewK ks) (hu : A.units + 16 < cLine)
    (h : ∀ (h' : Heap) (tk : Nat) L es ep t, SetN w h' s.heap.objs.size L es ep t → Of ks ks.length L → (∀ b o, s.heap.get? b = some o → h'.get? b = some o) → Q (.ref s.heap.objs.size) { s with heap := h', toks := tk }) :
    wpAny (model P w) A (call (.type "set") [.ref l]) Q E s := by
  have hsz : items.size = ks.length := by rw [← Array.length_toList, hit, List.length_map]
  obtain ⟨_, _, mro⟩ := F.called_set.mro
  have k1 := F.called_set.made
  have k2 := F.called_set.sub
  refine wpAny_call (codeAny_of_tree (?_ : wpAny _ _ (callAny (.type "set") _) _ _ _))
  refine wpAny_pure ⟨Code.quiet_builtin _ (by decide +kernel), codeAny_builtin F.entry_type_call ?_⟩
  rw [Around.under_plain (weight_type_call_type "set" [.ref l] []) rfl]
  have k3 := F.called_set.notType
  have k4 := F.called_set.canCreate
  have k5 := F.typeCall_set_1 (.ref l)
  repeat (any_goals (first | assumption | wp_step))
  refine codeAny_mono (code_set_led1 (.ref l) (E := E) (Q₁ := fun obj t => obj = .ref s.heap.objs.size ∧ t = { s with heap := pset w s }) ⟨rfl, rfl⟩) fun r t hr => ?_
  cases r with
  | error e => exact hr
  | ok fl =>
    cases fl <;> first | exact hr.elim | skip
    obtain ⟨rfl, rfl⟩ := hr
    have g0 : (pset w s).get? s.heap.objs.size = some (newSet w) := Heap.get?_push_size _ rfl
    have g1 : Shared.TypeIs { s with heap := pset w s } (.ref s.heap.objs.size) "set" := ⟨_, g0, rfl⟩
    have g2 := F.called_set.init.lookup
    have g3 := F.called_set.init.bind (.ref s.heap.objs.size)
    repeat (any_goals (first | assumption | wp_step))
    refine codeAny_mono (codeAny_call_builtin (R := wants (fun r t => r = .none ∧ ∃ h' tk L es ep tb, t = { s with heap := h', toks := tk } ∧ SetN w h' s.heap.objs.size L es ep tb ∧ Of ks ks.length L ∧
        (∀ b o, s.heap.get? b = some o → h'.get? b = some o)) E) F.called_set.init.plain F.entry_set_init (check_set_init_1 g1 ?_)) fun r2 t2 h2 => ?_
    · obtain ⟨⟨oc, od, oda, osl⟩, hol, hcl, nl, hdl⟩ := hl
      simp only at hcl hdl
      subst hcl hdl
      have g4 : (pset w s).get? l = some { cls := .type "tuple", dict := od, data := .seq items nl, slots := osl } := Heap.get?_push_of_some _ hol
      have g5 := F.sub_tuple_set
      have g6 := F.sub_tuple_frozenset
      have g7 : (Value.type "tuple" == Value.type "dict") = false := by decide
      have g8 : (pset w s).IsTuple l items := ⟨_, g4, rfl, nl, rfl⟩
      unfold Builtin.«set.__init__» noKeywords Builtin.Frozenset.updateFrom
      generalize hI : pyIter = I
      wp_walk
      subst hI
      refine wpAny_pyIter_tuple g8 (wpAny_bind (wpAny_runValue ?_))
      have z1 : (pset w s).objs.size = s.heap.objs.size + 1 := Heap.size_push ..
      have z2 : l < s.heap.objs.size := Heap.lt_size hol
      have hh3 : A.in1.in1.in1.handled = none := by simp [hh]
      have z3 : l ≠ (pset w s).objs.size := fun e => by
        have e : l = s.heap.objs.size + 1 := e.trans z1
        exact absurd z2 (by rw [e]; exact fun q => Nat.not_succ_le_self _ (Nat.le_of_lt q))
      have z4 : s.heap.objs.size ∉ [(pset w s).objs.size, l] := by
        rw [z1]
        simp only [List.mem_cons, List.not_mem_nil, or_false, not_or]
        exact ⟨fun q => Nat.succ_ne_self _ q.symm, fun q => Nat.lt_irrefl _ (q ▸ z2)⟩
      have val : ∀ (i : Nat) (v : Value), items[i]? = some v → ∃ p, ks[i]? = some p ∧ v = .ref p.1 := fun i v hv => by
        have q : items.toList[i]? = some v := by rwa [Array.getElem?_toList]
        rw [hit, List.getElem?_map, Option.map_eq_some_iff] at q
        obtain ⟨p, q1, q2⟩ := q
        exact ⟨p, q1, q2.symm⟩
      have gone : ∀ b, s.heap.objs.size ≤ b → s.heap.get? b = none := fun b hb => by
        cases q : s.heap.get? b with
        | none => rfl
        | some o => exact absurd (Nat.lt_of_lt_of_le (Heap.lt_size q) hb) (Nat.lt_irrefl _)
      refine updateN ((Walks.tuple hh3 _ l z3 items).toS) s.heap.objs.size z4 ks hsz few val s.heap hk (gone _ (Nat.le_refl _)) (fun b hb => gone b (by rw [List.mem_singleton.mp hb, z1]; exact Nat.le_succ _)) (by simp only [Around.in1_units]; omega) (items.size - 0) 0 _ (by omega) (Nat.zero_le _)
        ⟨⟨_, Heap.get?_push_size _ rfl, rfl, rfl⟩, g8.push _⟩ (fun b o e => Heap.get?_push_of_some _ (Heap.get?_push_of_some _ e)) ?_ ?_
      · exact ⟨[], #[], 0, _, SetN.fresh (Heap.get?_push_of_some _ g0), Of.zero ks⟩
      · rintro ⟨h', gn, dr, tk, os⟩ L es ep tb hm hS g kp
        obtain rfl : gn = s.gens := hm.gens
        obtain rfl : dr = s.drawn := hm.drawn
        obtain rfl : os = s.os := hm.os
        show wpAny _ _ _ _ _ _
        refine wpAny_pure ?_
        show wpAny _ _ (ret Value.none) _ _ _
        exact wpAny_pure ⟨rfl, h', tk, L, es, ep, tb, rfl, hS, hsz ▸ g, kp⟩
    · cases r2 with
      | error e => exact h2
      | ok fl =>
        cases fl <;> first | exact h2.elim | skip
        obtain ⟨rfl, h', tk, L, es, ep, tb, rfl, hS, g, kp⟩ := h2
        repeat (any_goals (first | assumption | wp_step))
        exact h _ _ _ _ _ _ hS g kp
end
end Pv
-- PvNSet5
set_option maxRecDepth 100000
set_option maxHeartbeats 3000000
namespace Pv
open PySem L2
theorem pLt_irr (a : PV) : pLt a a = false := (PyProof.Rows.listOrd PyProof.Rows.itemOrd).irrefl _
theorem eqv_of_le {a b : PV} (h : PySem.W.alike a b = true) (h1 : pLt a b = false) (h2 : pLt b a = false) : PyData.eqv a b = true := by
  have e : PySem.W.keyToks a = PySem.W.keyToks b := (PyProof.Rows.listOrd PyProof.Rows.itemOrd).total _ _ h1 h2
  cases q : PyData.eqv a b with
  | true => rfl
  | false =>
    have z := (PySem.W.toks_eqv a b h).2 q [] [.inl 0]
    rw [e] at z
    have z1 := PySem.W.lex_pre (PySem.W.keyToks b) [] [.inl 0]
    rw [z1] at z
    have z2 : PyProof.Rows.lexLt PyProof.Rows.itemOrd (PySem.W.keyToks b) (PySem.W.keyToks b) = false := (PyProof.Rows.listOrd PyProof.Rows.itemOrd).irrefl _
    rw [z2] at z
    exact absurd z (by decide)
mutual
theorem eqv_data : ∀ (k l : NK), PyData.eqv k.data l.data = true → k = l
  | .none, l, h => by cases l <;> simp [NestedKey.data, PyData.eqv] at h ⊢
  | .num i, l, h => by cases l <;> simp [NestedKey.data, PyData.eqv] at h ⊢ <;> exact h
  | .text i, l, h => by cases l <;> simp [NestedKey.data, PyData.eqv] at h ⊢ <;> exact h
  | .tup ks, l, h => by
    cases l with
    | tup ls =>
      simp only [NestedKey.data, PyData.eqv] at h
      rw [eqv_datas ks ls h]
    | _ => simp [NestedKey.data, PyData.eqv] at h
theorem eqv_datas : ∀ (ks ls : List NK), PyData.eqvAll (NestedKey.datas ks) (NestedKey.datas ls) = true → ks = ls
  | [], l, h => by cases l <;> simp [NestedKey.datas, PyData.eqvAll] at h ⊢
  | k :: ks, l, h => by
    cases l with
    | nil => simp [NestedKey.datas, PyData.eqvAll] at h
    | cons m ls =>
      simp only [NestedKey.datas, PyData.eqvAll, Bool.and_eq_true] at h
      rw [eqv_data k m h.1, eqv_datas ks ls h.2]
end
theorem sorted_one : ∀ {l m : List PV}, l.Pairwise (fun a b => leP a b = true) → m.Pairwise (fun a b => leP a b = true) → l.Perm m → (∀ a ∈ l, ∀ b ∈ l, leP a b = true → leP b a = true → a = b) → l = m
  | [], m, _, _, p, _ => (List.Perm.eq_nil p.symm).symm
  | a :: l, [], _, _, p, _ => absurd p.length_eq (by simp)
  | a :: l, b :: m, hl, hm, p, anti => by
    have h1 := List.pairwise_cons.mp hl
    have h2 := List.pairwise_cons.mp hm
    have ab : leP a b = true := by
      rcases List.mem_cons.mp (p.mem_iff.mpr List.mem_cons_self) with e | e
      · rw [e]; exact leP_tot.refl a
      · exact h1.1 b e
    have ba : leP b a = true := by
      rcases List.mem_cons.mp (p.mem_iff.mp List.mem_cons_self) with e | e
      · rw [e]; exact leP_tot.refl b
      · exact h2.1 a e
    obtain rfl : a = b := anti a List.mem_cons_self b (p.mem_iff.mpr List.mem_cons_self) ab ba
    rw [sorted_one h1.2 h2.2 p.cons_inv fun c hc d hd => anti c (List.mem_cons_of_mem _ hc) d (List.mem_cons_of_mem _ hd)]
theorem sortP_pw (l : List PV) : (sortP l).Pairwise (fun a b => leP a b = true) := by rw [← sortP_eq]; exact List.pairwise_mergeSort leP_trans leP_total l
theorem sortP_perm_eq {ks ls : List NK} (p : ks.Perm ls) (al : PySem.W.AllAlike (ks.map NestedKey.data)) : sortP (ks.map NestedKey.data) = sortP (ls.map NestedKey.data) := by
  refine sorted_one (sortP_pw _) (sortP_pw _) (((sortP_perm _).trans (p.map _)).trans (sortP_perm _).symm) fun a ha b hb h1 h2 => ?_
  have ha := (sortP_perm _).mem_iff.mp ha
  have hb := (sortP_perm _).mem_iff.mp hb
  have e := eqv_of_le (al a ha b hb) (by rw [leP_eq] at h2; simpa using h2) (by rw [leP_eq] at h1; simpa using h1)
  obtain ⟨k, _, rfl⟩ := List.mem_map.mp ha
  obtain ⟨l, _, rfl⟩ := List.mem_map.mp hb
  rw [eqv_data k l e]
mutual
theorem toNK_data : ∀ {d : PV} {k : NK}, toNK d = some k → k.data = d ∧ bare k = true
  | .none, k, h => by cases h; exact ⟨rfl, rfl⟩
  | .int i, k, h => by cases h; exact ⟨rfl, rfl⟩
  | .tuple xs, k, h => by
    rw [toNK, Option.map_eq_some_iff] at h
    obtain ⟨ks, h1, rfl⟩ := h
    obtain ⟨h2, h3⟩ := toNKs_data h1
    exact ⟨by rw [NestedKey.data, h2], by rw [bare, h3]⟩
  | .bool _, k, h => by simp [toNK] at h
  | .str _, k, h => by simp [toNK] at h
  | .list _, k, h => by simp [toNK] at h
  | .dict _, k, h => by simp [toNK] at h
theorem toNKs_data : ∀ {ds : List PV} {ks : List NK}, toNKs ds = some ks → NestedKey.datas ks = ds ∧ bares ks = true
  | [], ks, h => by simp [toNKs] at h; subst h; exact ⟨rfl, rfl⟩
  | d :: ds, ks, h => by
    rw [toNKs, Option.bind_eq_some_iff] at h
    obtain ⟨k, h1, h⟩ := h
    rw [Option.map_eq_some_iff] at h
    obtain ⟨r, h2, rfl⟩ := h
    obtain ⟨e1, e2⟩ := toNK_data h1
    obtain ⟨e3, e4⟩ := toNKs_data h2
    exact ⟨by rw [NestedKey.datas, e1, e3], by rw [bares, e2, e4]; rfl⟩
end
theorem uniqK_mem {k : NK} : ∀ {l : List NK}, k ∈ uniqK l ↔ k ∈ l
  | [] => by simp [uniqK]
  | m :: r => by
    rw [uniqK]
    split
    · rename_i h
      rw [uniqK_mem, List.mem_cons]
      constructor
      · exact .inr
      · rintro (rfl | h')
        · exact uniqK_mem.mp h
        · exact h'
    · rw [List.mem_cons, uniqK_mem, List.mem_cons]
theorem uniqK_nd : ∀ l : List NK, (uniqK l).Nodup
  | [] => List.nodup_nil
  | m :: r => by
    rw [uniqK]
    split
    · exact uniqK_nd r
    · exact List.nodup_cons.mpr ⟨by assumption, uniqK_nd r⟩
theorem nd_le {α : Type} [DecidableEq α] : ∀ {l m : List α}, l.Nodup → (∀ x ∈ l, x ∈ m) → l.length ≤ m.length
  | [], m, _, _ => Nat.zero_le _
  | x :: l, m, h, s => by
    have h1 := List.nodup_cons.mp h
    have hx := s x List.mem_cons_self
    have := nd_le (m := m.erase x) h1.2 fun y hy => (List.mem_erase_of_ne (fun (e : y = x) => h1.1 (e ▸ hy))).mpr (s y (List.mem_cons_of_mem _ hy))
    rw [List.length_erase_of_mem hx] at this
    have : 0 < m.length := List.length_pos_of_mem hx
    simp only [List.length_cons]
    omega
section
variable {P : Program} {w : World} {A : Around} {E : Value → Shared → Prop} {s : Shared}
open PySem.W PyProof.Rows
theorem each_ref {L : NL} : ∀ {out : List Value}, EachIs (fun v (p : Addr × NK) => v = Value.ref p.1) out L → out = L.map fun p => Value.ref p.1 := by
  induction L with
  | nil => intro out e; cases e; rfl
  | cons p L ih =>
    intro out e
    cases e with
    | cons h t => rw [h, ih t]; rfl
theorem ref_each : ∀ {L : NL}, EachIs (fun v (p : Addr × NK) => v = Value.ref p.1) (L.map fun p => Value.ref p.1) L
  | [] => .nil
  | p :: L => .cons rfl ref_each
theorem SetN.sorted {a : Addr} {L : NL} {es : Array (Int × Value)} {ep : Nat} {t : SetTable} {Q : Value → Shared → Prop} (R : SetN w s.heap a L es ep t) (hh : A.handled = none) (ok : sortOk (L.map fun p => p.2.data) = true) (hu : A.units + 160 < cLine)
    (hQ : ∀ t p (L' : NL) (c : Nat), (∀ b o, s.heap.get? b = some o → t.heap.get? b = some o) → t.gens = s.gens → t.os = s.os → s.heap.objs.size ≤ p → t.heap.get? p = some (seqObj "list" (L'.map fun q => Value.ref q.1).toArray c) →
      L'.Perm L → L'.map (fun p => p.2.data) = sortP (L.map fun p => p.2.data) → Q (.ref p) t) : wpAny (model P w) A (call (.builtin "sorted") [.ref a]) Q E s := by
  obtain ⟨o, ho, hex, hd⟩ := R.ob
  obtain ⟨k1, k2, k3⟩ := sortOk_ok ok
  have sz := R.size
  have fw := R.few
  refine Calls.call_function_entry kind_sorted plain_sorted entry_sorted (args_sorted1 _) ?_
  unfold Builtin.«sorted»
  refine wpAny_bind (m := checkCount "sorted" 1 1 _) (wpAny_pure (wpAny_bind (collect_set (A := A.in1) hh ⟨o, ho, hex.1, hd⟩ R.fits (by unfold scanBound; omega) R.tab.ris R.led fun t1 vs k1' z1 gn1 os1 pm => ?_)))
  have e0 : es.toList.map (·.2) = L.map fun q => Value.ref q.1 := by rw [R.rows, List.map_map]; rfl
  rw [e0] at pm
  obtain ⟨L1, pm1, rfl⟩ : ∃ L1 : NL, L1.Perm L ∧ L1.map (fun q => Value.ref q.1) = vs := by
    have ex : ∀ (vs : List Value) (L : NL), vs.Perm (L.map fun q => Value.ref q.1) → ∃ L1 : NL, L1.Perm L ∧ L1.map (fun q => Value.ref q.1) = vs := by
      intro vs
      induction vs with
      | nil => intro L p; exact ⟨L, List.Perm.refl _, (List.Perm.eq_nil p.symm)⟩
      | cons v vs ih =>
        intro L p
        obtain ⟨q, hq, rfl⟩ := List.mem_map.mp (p.mem_iff.mp List.mem_cons_self)
        obtain ⟨l1, l2, rfl⟩ := List.append_of_mem hq
        have mid : (l1 ++ q :: l2).Perm (q :: (l1 ++ l2)) := List.perm_middle
        have p3 := (p.trans (mid.map fun q => Value.ref q.1)).cons_inv
        obtain ⟨L1, h1, h2⟩ := ih _ p3
        exact ⟨q :: L1, (h1.cons q).trans mid.symm, by rw [List.map_cons, h2]⟩
    exact ex _ _ pm
  have len : (L1.map fun q => Value.ref q.1).length < 64 := by rw [List.length_map, pm1.length_eq]; exact fw
  have small : (L1.map fun q => Value.ref q.1).length ≤ sizeLine := by rw [sizeLine_eq]; omega
  refine wpAny_bind (wpAny_newList ?_ small)
  have gL : (t1.heap.push (seqObj "list" (L1.map fun q => Value.ref q.1).toArray 0)).get? t1.heap.objs.size = some (seqObj "list" (L1.map fun q => Value.ref q.1).toArray 0) := Heap.get?_push_size _ rfl
  have dm : ∀ {d : PyData}, d ∈ L1.map (fun p => p.2.data) → d ∈ L.map (fun p => p.2.data) := fun h => (pm1.map _).mem_iff.mp h
  refine wpAny_bind (wpAny_holding (list_sort_data (R := fun v (p : Addr × NK) => v = Value.ref p.1) (enc := fun p => p.2.data) (bs := L1) gL ref_each (each_memR ref_each fun v p hp e => ?_) (fun d hd e he => k1 d (dm hd) e (dm he)) ?_ (by rw [List.length_map] at small; exact small) (fun p hp => ?_) fun out ol eo => ?_))
  · subst e
    obtain ⟨as, r⟩ := (R.key p (pm1.mem_iff.mp hp)).rd
    have r' : Reads (t1.heap.push (seqObj "list" (L1.map fun q => Value.ref q.1).toArray 0)) (.ref p.1) p.2.data as := rdk_at (fun b o _ _ e _ => Heap.get?_push_of_some _ (k1' b o e)) p.2 _ as r
    refine ⟨as, r', fun hm => ?_⟩
    have nil : ∀ (k : NK) (v : Value) (as : List Addr) (h : Heap), Reads h v k.data as → as = [] := by
      have both : (∀ (n : Nat) (k : NK) (v : Value) (as : List Addr) (h : Heap), sizeOf k ≤ n → Reads h v k.data as → as = []) := by
        intro n
        induction n with
        | zero => intro k v as h hn r; cases k <;> simp at hn
        | succ n ih =>
          intro k v as h hn r
          cases k with
          | none => rw [NestedKey.data] at r; cases r; rfl
          | num i => rw [NestedKey.data] at r; cases r; rfl
          | text i => rw [NestedKey.data] at r; cases r; rfl
          | tup ks =>
            rw [NestedKey.data] at r
            cases r with
            | tuple h1 h2 h3 h4 =>
              have all : ∀ (ks : List NK) (vs : List Value) (as : List Addr), sizeOf ks ≤ n → ReadsAll h vs (NestedKey.datas ks) as → as = [] := by
                intro ks
                induction ks with
                | nil => intro vs as _ r; rw [NestedKey.datas] at r; cases r; rfl
                | cons k ks ih2 =>
                  intro vs as hz r
                  rw [NestedKey.datas] at r
                  cases r with
                  | cons r1 r2 =>
                    simp at hz
                    rw [ih k _ _ h (by omega) r1, ih2 _ _ (by omega) r2]; rfl
              exact all ks _ _ (by simp at hn; omega) h4
      intro k v as h r
      exact both _ k v as h (Nat.le_refl _) r
    rw [nil _ _ _ _ r'] at hm
    cases hm
  · rcases k2 with z | z
    · exact .inl fun d hd => z d (dm hd)
    · exact .inr fun d hd => z d (dm hd)
  · have := k3 p.2.data (List.mem_map.mpr ⟨p, pm1.mem_iff.mp hp, rfl⟩)
    simp only [Around.in1_units]
    omega
  · have er := each_ref eo
    subst er
    obtain ⟨c, hc⟩ := sortedHeap_at (vs := L1.map fun q => Value.ref q.1) (out := ((L1.mergeSort (dataLe false fun p => p.2.data)).map fun p => Value.ref p.1).toArray) gL
    have pms : (L1.mergeSort (dataLe false fun p : Addr × NK => p.2.data)).Perm L1 := List.mergeSort_perm _ _
    refine wpAny_pure ⟨_, rfl, hQ _ t1.heap.objs.size _ c (fun b u e => ?_) gn1 os1 z1 hc (pms.trans pm1) ?_⟩
    · have q := k1' b u e
      have lt := Heap.lt_size q
      show (sortedHeap (t1.heap.push (seqObj "list" (L1.map fun q => Value.ref q.1).toArray 0)) t1.heap.objs.size (L1.map fun q => Value.ref q.1) _).get? b = some u
      rw [sortedHeap_old (Nat.ne_of_lt lt) (by rw [size_push']; exact Nat.lt_succ_of_lt lt), Heap.get?_push_of_some _ q]
    · have e4 : (L1.mergeSort (dataLe false fun p : Addr × NK => p.2.data)).map (fun p => p.2.data) = sortP (L1.map fun p => p.2.data) := by
        rw [← sortP_eq, sort_maps]
        intro a _ b _
        rfl
      rw [e4]
      have m1 : L1.map (fun p => p.2.data) = (L1.map (·.2)).map NestedKey.data := by rw [List.map_map]; rfl
      have m2 : L.map (fun p => p.2.data) = (L.map (·.2)).map NestedKey.data := by rw [List.map_map]; rfl
      rw [m1, m2]
      refine sortP_perm_eq (pm1.map _) ?_
      rw [← m1]
      exact fun d hd e he => k1 d (dm hd) e (dm he)
end
end Pv
-- PvRev
set_option maxRecDepth 100000
namespace Pv
open PySem PySem.Spec PyProof.Rows L2
section
variable {prog : Program} {w : World} {A : Around} {E : Value → Shared → Prop} {s : Shared}
theorem adj_back (n : Nat) : Builtin.Slice.sliceAdjust none none (-1) (n : Int) = ((n : Int) - 1, -1) := by
  unfold Builtin.Slice.sliceAdjust
  simp
theorem places_back (n : Nat) : Builtin.Slice.slicePlaces ((n : Int) - 1) (-1) (-1) = n := by
  unfold Builtin.Slice.slicePlaces
  simp
  omega
theorem applied_back {sl : Addr} {v1 v2 v3 : Value} {n : Nat} {Q : Int × Int × Nat → Shared → Prop} (hs : s.heap.IsSliceOf sl v1 v2 v3) (p1 : IsPart v1 none) (p2 : IsPart v2 none) (p3 : IsPart v3 (some (-1))) (h : Q ((n : Int) - 1, -1, n) s) :
    wpAny (model prog w) A (Builtin.Slice.sliceApplied (.ref sl) (pure (n : Int))) Q E s := by
  obtain ⟨ob, o1, o2, o3⟩ := id hs
  unfold Builtin.Slice.sliceApplied Builtin.Slice.sliceFields
  refine wpAny_bind (wpAny_bind (wpAny_field o1 o3 (x := v1) rfl (wpAny_bind (wpAny_field o1 o3 (x := v2) rfl (wpAny_bind (wpAny_field o1 o3 (x := v3) rfl (wpAny_pure ?_)))))))
  refine wpAny_bind (HT.slicePart_ p3 ?_)
  show wpAny _ _ (if ((-1 : Int) == 0) = true then _ else _) _ _ s
  rw [if_neg (by decide)]
  refine wpAny_bind (HT.slicePart_ p1 (wpAny_bind (HT.slicePart_ p2 (wpAny_bind (wpAny_pure ?_)))))
  show wpAny _ _ (match Builtin.Slice.sliceAdjust none none (-1) (n : Int) with | (lo, hi) => pure (lo, (-1 : Int), Builtin.Slice.slicePlaces lo hi (-1))) _ _ s
  rw [adj_back]
  show wpAny _ _ (pure ((n : Int) - 1, (-1 : Int), Builtin.Slice.slicePlaces ((n : Int) - 1) (-1) (-1))) _ _ s
  rw [places_back]
  exact wpAny_pure h
theorem pick_back (xs : Array Value) : ((List.range xs.size).filterMap fun (m : Nat) => xs[(((xs.size : Int) - 1) + (m : Int) * -1).toNat]?).toArray = xs.toList.reverse.toArray := by
  congr 1
  have e : ∀ l : List Nat, (∀ m ∈ l, m < xs.size) → (l.filterMap fun (m : Nat) => xs[(((xs.size : Int) - 1) + (m : Int) * -1).toNat]?) = l.map fun m => xs.toList.reverse.getD m .none := fun l => by
    induction l with
    | nil => intro _; rfl
    | cons m l ih =>
      intro h
      have hm := h m List.mem_cons_self
      have e1 : (((xs.size : Int) - 1) + (m : Int) * -1).toNat = xs.size - 1 - m := by omega
      have e2 : xs[(((xs.size : Int) - 1) + (m : Int) * -1).toNat]? = some (xs.toList.reverse.getD m .none) := by
        rw [e1, List.getD_eq_getElem?_getD, List.getElem?_reverse (by rw [Array.length_toList]; exact hm), Array.length_toList, Array.getElem?_toList, Array.getElem?_eq_getElem (by omega)]
        rfl
      rw [List.filterMap_cons, e2, List.map_cons, ih fun k hk => h k (List.mem_cons_of_mem _ hk)]
  rw [e _ fun m hm => List.mem_range.mp hm]
  refine List.ext_getElem? fun i => ?_
  by_cases hi : i < xs.size
  · rw [List.getElem?_map, List.getElem?_range hi]
    simp only [Option.map_some]
    rw [List.getD_eq_getElem?_getD, List.getElem?_eq_getElem (by rw [List.length_reverse, Array.length_toList]; exact hi)]
    rfl
  · rw [List.getElem?_eq_none (by simp; omega), List.getElem?_eq_none (by simp; omega)]
theorem getitem_back {t sl : Addr} {items : Array Value} {v1 v2 v3 : Value} {Q : Value → Shared → Prop} (ht : IsTup s.heap t items) (hs : s.heap.IsSliceOf sl v1 v2 v3) (p1 : IsPart v1 none) (p2 : IsPart v2 none) (p3 : IsPart v3 (some (-1)))
    (h : Q (.ref s.heap.objs.size) { s with heap := s.heap.push { cls := .type "tuple", data := .seq items.toList.reverse.toArray } }) (hz : items.size ≤ sizeLine) : wpAny (model prog w) A (getItem (.ref t) (.ref sl)) Q E s := by
  have hok : sizeOk (.seq items.toList.reverse.toArray) := by
    show items.toList.reverse.toArray.size ≤ sizeLine
    rw [List.size_toArray, List.length_reverse, Array.length_toList]
    exact hz
  obtain ⟨ob, o1, o2, o3⟩ := id hs
  have hT : s.TypeIs (.ref sl) "slice" := ⟨ob, o1, o2⟩
  unfold getItem
  try with_reducible refine wpAny_holding ?_
  first | refine wpAny_bind (wpAny_pure ?_) | skip
  refine wpAny_bind (wpAny_sequenceKey ht.typeIs (by decide) ?_)
  refine wpAny_bind (wpAny_callSpecial?_slot (name := Str.ofString "__getitem__") ht.typeIs PyProof.Rows.slot_tuple_getitem
      (wpAny_call_entry PyProof.Rows.slot_tuple_getitem ht.typeIs entry_tuple_getitem (?g) (args_tuple_getitem _ _)))
  case g =>
    show wpAny _ _ (Builtin.Tuple.tupleItemsOf (.ref t) >>= _) _ _ s
    refine wpAny_bind (tupleItemsOf_ ht ?_)
    refine wpAny_bind (wpAny_typeOf hT ?_)
    rw [if_pos (by decide)]
    refine wpAny_bind (applied_back hs p1 p2 p3 ?_)
    have hno : ¬ ((((items.size : Int) - 1) == 0 && (-1 : Int) == 1 && items.size == items.size) = true) := by simp
    show wpAny _ _ (if (((items.size : Int) - 1) == 0 && (-1 : Int) == 1 && items.size == items.size) = true then _ else _) _ _ s
    rw [if_neg hno, pick_back]
    first
      | exact wpAny_bind (m := Builtin.Tuple.tupleExact _) (wpAny_newObj_type (wpAny_pure ⟨_, rfl, wpAny_pure h⟩) hok)
      | exact wpAny_bind (m := Builtin.Tuple.tupleExact _) (wpAny_newObj_type (wpAny_bind (wpAny_pure (wpAny_pure ⟨_, rfl, wpAny_pure h⟩))) hok)
      | exact wpAny_bind (wpAny_bind (m := Builtin.Tuple.tupleExact _) (wpAny_newObj_type (wpAny_pure (wpAny_pure ⟨_, rfl, wpAny_pure h⟩)) hok))
      | exact wpAny_bind (wpAny_bind (m := Builtin.Tuple.tupleExact _) (wpAny_newObj_type (wpAny_pure ⟨_, rfl, wpAny_pure h⟩) hok))
end
section
variable {X : Cx}
/-- the list or tuple back to front -/
def tRevB (K : PySem.W.Frag) (te : TE) : TE := fun σ H Q => te σ H fun x H1 =>
  (∃ a xs, x = .ref a ∧ SqL K H1 a xs ∧ ∀ p, H1 p = none → Q (.ref p) (upd H1 p (.lst xs.reverse))) ∨
  (∃ a xs, x = .ref a ∧ SqT K H1 a xs ∧ ∀ p, H1 p = none → Q (.ref p) (upd H1 p (.tup xs.reverse)))
theorem pe_revB {e : Expr} {te : TE} {k : Nat} {p1 p2 p3 pos : Pos} (he : PE X e te) : PE X (.Subscript e (.Slice none none (some (.UnaryOp .USub (.Constant (.int 1) k p1) p2)) p3) pos) (tRevB X.K te) := by
  refine ⟨fun pins s σ H Q I h => Subscript_ (thn (he.run pins s σ H _ I h) fun v s1 ⟨x, H1, I1, rx, qx⟩ => ?_)⟩
  have minus : PO X (some (.UnaryOp .USub (.Constant (.int 1) k p1) p2)) (tPart (tUn (rU fun i => .int (-i)) (tC (.int 1)))) := po_some (pe_un un_neg pe_int)
  refine wpAny_Slice (thn (po_none.run pins s1 σ H1 (fun o H2 => o = none ∧ H2 = H1) I1 ⟨rfl, rfl⟩) fun ua s2 ⟨l, H2, I2, pa, ea, g2⟩ => ?_)
  subst ea g2
  refine thn (po_none.run pins s2 σ H2 (fun o H3 => o = none ∧ H3 = H2) I2 ⟨rfl, rfl⟩) fun ub s3 ⟨u, H3, I3, pb, eb, g3⟩ => ?_
  subst eb g3
  refine thn (minus.run pins s3 σ H3 (fun o H4 => o = some (-1) ∧ H4 = H3) I3 ⟨1, rfl, -1, rfl, rfl, rfl⟩) fun uc s4 ⟨o, H4, I4, pc, eo, g4⟩ => ?_
  subst eo g4
  have I5 : Inv X pins σ H4 { s4 with heap := s4.heap.push { cls := .type "slice", data := .fields #[ua, ub, uc] } } := I4.kept (t' := s4.toks) fun b ob q => Heap.get?_push_of_some _ q
  rcases qx with ⟨a, xs, rfl, hx, q⟩ | ⟨a, xs, rfl, hx, q⟩
  · cases rx
    obtain ⟨its, r, ht, hz⟩ := I5.list hx
    have hl := r.length
    show wpAny (model X.prog X.w) X.A (subscriptTail e (.Slice none none (some (.UnaryOp .USub (.Constant (.int 1) k p1) p2)) p3) (.ref a) (.ref s4.heap.objs.size)) (EP X pins σ Q) X.xe { s4 with heap := s4.heap.push { cls := .type "slice", data := .fields #[ua, ub, uc] } }
    refine tail_any (ops := [.ref a, .ref s4.heap.objs.size]) ht.isList.typeIs (PySem.slot_list_getitem.lookup) (wpAny_getItem_list_slice ht.isList (Heap.IsSliceOf.new _ ua ub uc) pa pb pc (by decide) ?_ (by rw [List.size_toArray]; omega)) (by with_unfolding_all rfl)
    rw [PySem.W.krv_pick]
    exact ⟨.ref _, _, I5.laid (t' := s4.toks) (o := .lst xs.reverse) (fun b ob q => Heap.get?_push_of_some _ q) (Nat.le_refl _) ⟨by rw [List.length_reverse]; exact hz, _, 0, r.reverse, Heap.get?_push_size _ rfl⟩, rfl, q _ (I5.hok.fresh (Nat.le_refl _))⟩
  · cases rx
    obtain ⟨its, r, ht, hz⟩ := I5.tuple hx
    have hl : its.toArray.size = xs.length := by rw [List.size_toArray]; exact r.length.symm
    show wpAny (model X.prog X.w) X.A (subscriptTail e (.Slice none none (some (.UnaryOp .USub (.Constant (.int 1) k p1) p2)) p3) (.ref a) (.ref s4.heap.objs.size)) (EP X pins σ Q) X.xe { s4 with heap := s4.heap.push { cls := .type "slice", data := .fields #[ua, ub, uc] } }
    refine tail_any (ops := [.ref a, .ref s4.heap.objs.size]) ht.typeIs (PyProof.Rows.slot_tuple_getitem.lookup) (getitem_back ht (Heap.IsSliceOf.new _ ua ub uc) pa pb pc ?_ (by rw [hl]; exact hz)) (by with_unfolding_all rfl)
    exact ⟨.ref _, _, I5.laid (t' := s4.toks) (o := .tup xs.reverse) (fun b ob q => Heap.get?_push_of_some _ q) (Nat.le_refl _) ⟨by rw [List.length_reverse]; exact hz, _, r.reverse, IsTup.new _ _⟩, rfl, q _ (I5.hok.fresh (Nat.le_refl _))⟩
end
end Pv
-- PvOps2
set_option maxRecDepth 100000
namespace Pv
open PySem L2

section
variable {X : Cx} {G : Gx} (hK : X.K = G.K)
include hK

theorem op_inA (hu : X.A.units + 160 < cLine) : OpR X (compareOp .In) (r2 G (cmpO inf)) := by
  intro pins s σ H x y v u Q I rx ry h
  obtain ⟨Fz, d, e, ob, sub, hx, hy, ho, q⟩ := h
  obtain ⟨k, hk, rfl⟩ := cmpO_eq ho
  unfold inf at hk
  split at hk
  · obtain ⟨hl, rfl⟩ := ite_some hk
    obtain ⟨h1, h2⟩ := b2 hl
    have n1 : isD d = false := by simpa using h1
    have h3 := of_decide_eq_true h2
    obtain ⟨as, p1⟩ := Dp.reads I d x v (hK ▸ hx.dp sub n1) rx
    obtain ⟨bs, p2⟩ := Dp.reads I _ y u (hK ▸ hy.dp sub rfl) ry
    have hlay := hy.lay rfl
    rw [PyData.canLay0] at hlay
    exact SeqAt.in_list_reads p2 p1 hlay (hx.lay n1) (by omega) ⟨.bl _, H, I, rfl, q.sc sub (.bl _)⟩
  · obtain ⟨hl, rfl⟩ := ite_some hk
    obtain ⟨h1, h2⟩ := b2 hl
    have n1 : isD d = false := by simpa using h1
    have h3 := of_decide_eq_true h2
    obtain ⟨as, p1⟩ := Dp.reads I d x v (hK ▸ hx.dp sub n1) rx
    obtain ⟨bs, p2⟩ := Dp.reads I _ y u (hK ▸ hy.dp sub rfl) ry
    have hlay := hy.lay rfl
    rw [PyData.canLay0] at hlay
    exact SeqAt.in_tuple_reads p2 p1 hlay (hx.lay n1) (by omega) ⟨.bl _, H, I, rfl, q.sc sub (.bl _)⟩
  · split at hk
    · cases hk
      obtain ⟨rfl, _⟩ := hx.str; obtain ⟨rfl, _⟩ := hy.str
      exact op_in_str pins s σ H _ _ v u Q I rx ry ⟨_, _, rfl, rfl, q.sc sub (.bl _)⟩
    · cases hk
  · cases hk
theorem op_notinA (hu : X.A.units + 160 < cLine) : OpR X (compareOp .NotIn) (r2 G (cmpO fun a b => (inf a b).map (!·))) := by
  intro pins s σ H x y v u Q I rx ry h
  obtain ⟨Fz, d, e, ob, sub, hx, hy, ho, q⟩ := h
  obtain ⟨k, hk, rfl⟩ := cmpO_eq ho
  rw [Option.map_eq_some_iff] at hk
  obtain ⟨k, hk, rfl⟩ := hk
  unfold inf at hk
  split at hk
  · obtain ⟨hl, rfl⟩ := ite_some hk
    obtain ⟨h1, h2⟩ := b2 hl
    have n1 : isD d = false := by simpa using h1
    have h3 := of_decide_eq_true h2
    obtain ⟨as, p1⟩ := Dp.reads I d x v (hK ▸ hx.dp sub n1) rx
    obtain ⟨bs, p2⟩ := Dp.reads I _ y u (hK ▸ hy.dp sub rfl) ry
    have hlay := hy.lay rfl
    rw [PyData.canLay0] at hlay
    exact SeqAt.notIn_list_reads p2 p1 hlay (hx.lay n1) (by omega) ⟨.bl _, H, I, rfl, q.sc sub (.bl _)⟩
  · obtain ⟨hl, rfl⟩ := ite_some hk
    obtain ⟨h1, h2⟩ := b2 hl
    have n1 : isD d = false := by simpa using h1
    have h3 := of_decide_eq_true h2
    obtain ⟨as, p1⟩ := Dp.reads I d x v (hK ▸ hx.dp sub n1) rx
    obtain ⟨bs, p2⟩ := Dp.reads I _ y u (hK ▸ hy.dp sub rfl) ry
    have hlay := hy.lay rfl
    rw [PyData.canLay0] at hlay
    exact SeqAt.notIn_tuple_reads p2 p1 hlay (hx.lay n1) (by omega) ⟨.bl _, H, I, rfl, q.sc sub (.bl _)⟩
  · split at hk
    · cases hk
      obtain ⟨rfl, _⟩ := hx.str; obtain ⟨rfl, _⟩ := hy.str
      exact op_notin_str pins s σ H _ _ v u Q I rx ry ⟨_, _, rfl, rfl, q.sc sub (.bl _)⟩
    · cases hk
  · cases hk

theorem atI_rf {Fz : Hp} {vs : List V} {xs : List PV} {i : Int} {d : PV} (r : RFs G.K Fz vs xs) (h : atI xs i = some d) : ∃ v, atI vs i = some v ∧ RF G.K Fz v d := by
  unfold atI at h ⊢
  rw [r.length]
  cases e : ixN xs.length i with
  | none => rw [e] at h; cases h
  | some j =>
    rw [e] at h
    exact r.get h
theorem strOk_one {z : Str} (h : PyData.strOk z = true) {c : Nat} (hc : c ∈ z.cps.toList) : PyData.strOk ⟨#[c]⟩ = true := by
  unfold PyData.strOk at h ⊢
  rw [← Array.all_toList, List.all_eq_true] at h
  have := h c hc
  simpa using this
theorem ix_A : IxR X (r2 G idxf) := by
  intro e1 e2 pins s σ H x y v u Q I rx ry h hsb
  obtain ⟨Fz, d, e, ob, sub, hx, hy, ho, q⟩ := h
  unfold idxf at ho
  split at ho
  · rw [Option.map_eq_some_iff] at ho
    obtain ⟨d, hd, rfl⟩ := ho
    obtain ⟨a, vs, rfl, ha, ra⟩ := hx.list sub
    cases hy.int
    obtain ⟨w, hw, rw'⟩ := atI_rf hK ra hd
    exact ix_list e1 e2 pins s σ H _ _ v u Q I rx ry ⟨_, _, _, _, rfl, rfl, SqL.of ha, hw, q.sc sub rw'⟩ hsb
  · rw [Option.map_eq_some_iff] at ho
    obtain ⟨d, hd, rfl⟩ := ho
    obtain ⟨a, vs, rfl, ha, ra, _⟩ := hx.tuple sub
    cases hy.int
    obtain ⟨w, hw, rw'⟩ := atI_rf hK ra hd
    exact ix_tup e1 e2 pins s σ H _ _ v u Q I rx ry ⟨_, _, _, _, rfl, rfl, hK ▸ ha, hw, q.sc sub rw'⟩ hsb
  · obtain ⟨hl, ho⟩ := ite_sm ho
    rw [Option.map_eq_some_iff] at ho
    obtain ⟨c, hc, rfl⟩ := ho
    obtain ⟨rfl, so⟩ := hx.str
    cases hy.int
    obtain ⟨j, _, hj, _⟩ := atI_get hc
    exact ix_str e1 e2 pins s σ H _ _ v u Q I rx ry ⟨_, _, _, rfl, rfl, hl, hc, q.sc sub (.str (strOk_one hK so (List.mem_of_getElem? hj)))⟩ hsb
  · cases ho
def rS (G : Gx) : V → Option Int → Option Int → Hp → VK → Prop := fun x lo hi H Q => ∃ Fz d ob, Same Fz H ∧ VW G.K Fz H x d ∧ slicef d lo hi = some ob ∧ Res G Fz H ob Q
omit hK in
theorem SqL.mono {K : PySem.W.Frag} {H H' : Hp} (h : Same H H') {a : Addr} {xs : List V} (q : SqL K H a xs) : SqL K H' a xs := by
  rcases q with (q | ⟨o, q⟩) | q
  · exact .inl (.inl (h _ _ q))
  · exact .inl (.inr ⟨o, h _ _ q⟩)
  · exact .inr q
theorem sl_A : SlR X (rS G) := by
  intro pins s σ H x v vl vu lo hi sl Q I rx hs pl pu h
  obtain ⟨Fz, d, ob, sub, hx, ho, q⟩ := h
  unfold slicef at ho
  split at ho
  · cases ho
    obtain ⟨a, vs, rfl, ha, ra⟩ := hx.list sub
    exact sl_list pins s σ H _ v vl vu lo hi sl Q I rx hs pl pu ⟨_, _, rfl, SqL.of ha, q.lst sub (ra.cut lo hi)⟩
  · cases ho
    obtain ⟨a, vs, rfl, ha, ra, ga⟩ := hx.tuple sub
    refine sl_tupA pins s σ H _ v vl vu lo hi sl Q I rx hs pl pu ⟨_, _, rfl, hK ▸ ha, fun e => ?_, fun _ => q.tup sub (ra.cut lo hi)⟩
    have e2 := ra.cut lo hi
    have e3 : cutV vs lo hi = vs := by
      unfold cutV
      rw [e.1, e.2, List.drop_zero, Nat.sub_zero, List.take_length]
    rw [e3] at e2
    exact q.sc sub (.tup ga e2)
  · cases ho
    cases hx with
    | fz r => cases r
    | ro ha ra =>
      exact sl_list pins s σ H _ v vl vu lo hi sl Q I rx hs pl pu ⟨_, _, rfl, hK ▸ SqL.mono sub ha, q.lst sub (ra.cut lo hi)⟩
  · cases ho
theorem pe_revA {e : Expr} {te : TE} {k : Nat} {p1 p2 p3 pos : Pos} (he : PE X e te)
    (mono : ∀ σ H Q Q', (∀ x H1, Q x H1 → Q' x H1) → te σ H Q → te σ H Q') :
    PE X (.Subscript e (.Slice none none (some (.UnaryOp .USub (.Constant (.int 1) k p1) p2)) p3) pos) (fun σ H Q => te σ H fun x H1 => r1 G revf x H1 Q) := by
  refine ⟨fun pins s σ H Q I h => (pe_revB he).run pins s σ H Q I (mono σ H _ _ (fun x H1 hr => ?_) h)⟩
  obtain ⟨Fz, d, ob, sub, hx, ho, q⟩ := hr
  unfold revf at ho
  split at ho
  · cases ho
    obtain ⟨a, vs, rfl, ha, ra⟩ := hx.list sub
    exact .inl ⟨_, _, rfl, SqL.of ha, q.lst sub ra.rev⟩
  · cases ho
    obtain ⟨a, vs, rfl, ha, ra, _⟩ := hx.tuple sub
    exact .inr ⟨_, _, rfl, hK ▸ ha, q.tup sub ra.rev⟩
  · cases ho

theorem call_lenA : CallR X (.builtin "len") (r1L G lenf) := by
  intro pins s σ H xs us Q I rx h
  obtain ⟨x, rfl, Fz, d, ob, sub, hx, ho, q⟩ := h
  unfold lenf at ho
  split at ho
  · cases vI_eq ho
    obtain ⟨a, vs, rfl, ha, ra⟩ := hx.list sub
    exact call_len_seq pins s σ H _ us Q I rx ⟨_, _, rfl, .inl (SqL.of ha), by rw [ra.length]; exact q.sc sub (.int _)⟩
  · cases vI_eq ho
    obtain ⟨a, vs, rfl, ha, ra, _⟩ := hx.tuple sub
    exact call_len_seq pins s σ H _ us Q I rx ⟨_, _, rfl, .inr (hK ▸ ha), by rw [ra.length]; exact q.sc sub (.int _)⟩
  · obtain ⟨hl, ho⟩ := ite_sm ho
    cases vI_eq ho
    obtain ⟨rfl, so⟩ := hx.str
    exact call_len_str pins s σ H _ us Q I rx ⟨_, rfl, hl, q.sc sub (.int _)⟩
  · cases ho
theorem call_absA : CallR X (.builtin "abs") (r1L G absf) := by
  intro pins s σ H xs us Q I rx h
  obtain ⟨x, rfl, Fz, d, ob, sub, hx, ho, q⟩ := h
  unfold absf at ho
  split at ho
  · cases vI_eq ho
    cases hx.int
    exact call_abs pins s σ H _ us Q I rx ⟨_, rfl, q.sc sub (.int _)⟩
  · cases ho
theorem call_intA : CallR X (.type "int") (r1L G intf) := by
  intro pins s σ H xs us Q I rx h
  obtain ⟨x, rfl, Fz, d, ob, sub, hx, ho, q⟩ := h
  unfold intf at ho
  split at ho
  · cases vI_eq ho
    cases hx.int
    exact call_int1 pins s σ H _ us Q I rx (.inl ⟨_, rfl, q.sc sub (.int _)⟩)
  · cases vI_eq ho
    cases hx.bl
    exact call_int1 pins s σ H _ us Q I rx (.inr ⟨_, rfl, q.sc sub (.int _)⟩)
  · cases ho
theorem call_strA : CallR X (.type "str") (r1L G strf) := by
  intro pins s σ H xs us Q I rx h
  obtain ⟨x, rfl, Fz, d, ob, sub, hx, ho, q⟩ := h
  unfold strf at ho
  split at ho
  · split at ho
    · rename_i hc
      rw [Bool.and_eq_true] at hc
      obtain ⟨h1, h2⟩ := hc
      cases ho
      cases hx.int
      exact call_str_int pins s σ H _ us Q I rx ⟨_, rfl, of_decide_eq_true h1, q.sc sub (.str h2)⟩
    · cases ho
  · cases ho
theorem call_boolA : CallR X (.type "bool") (r1L G boolf) := by
  intro pins s σ H xs us Q I rx h
  obtain ⟨x, rfl, Fz, d, ob, sub, hx, ho, q⟩ := h
  unfold boolf at ho
  split at ho
  · cases vB_eq ho
    cases hx.int
    exact call_bool1 pins s σ H _ us Q I rx (.inl ⟨_, rfl, q.sc sub (.bl _)⟩)
  · cases vB_eq ho
    cases hx.bl
    exact call_bool1 pins s σ H _ us Q I rx (.inr ⟨_, rfl, q.sc sub (.bl _)⟩)
  · cases ho
theorem call_tupleA : CallR X (.type "tuple") (r1L G tuplef) := by
  intro pins s σ H xs us Q I rx h
  obtain ⟨x, rfl, Fz, d, ob, sub, hx, ho, q⟩ := h
  unfold tuplef at ho
  split at ho
  · cases ho
    obtain ⟨a, vs, rfl, ha, ra⟩ := hx.list sub
    exact call_tuple_of pins s σ H _ us Q I rx ⟨_, _, rfl, .inl ⟨SqL.of ha, q.tup sub ra⟩⟩
  · cases ho
    obtain ⟨a, vs, rfl, ha, ra, ga⟩ := hx.tuple sub
    exact call_tuple_of pins s σ H _ us Q I rx ⟨_, _, rfl, .inr ⟨hK ▸ ha, q.sc sub (.tup ga ra)⟩⟩
  · cases ho
theorem call_listA : CallR X (.type "list") (r1L G listf) := by
  intro pins s σ H xs us Q I rx h
  obtain ⟨x, rfl, Fz, d, ob, sub, hx, ho, q⟩ := h
  unfold listf at ho
  split at ho
  · cases ho
    obtain ⟨a, vs, rfl, ha, ra⟩ := hx.list sub
    exact call_list_of pins s σ H _ us Q I rx ⟨_, _, rfl, .inl (SqL.of ha), q.lst sub ra⟩
  · cases ho
    obtain ⟨a, vs, rfl, ha, ra, ga⟩ := hx.tuple sub
    exact call_list_of pins s σ H _ us Q I rx ⟨_, _, rfl, .inr (hK ▸ ha), q.lst sub ra⟩
  · cases ho
theorem call_allA (hc : X.calm = true) : CallR X (.builtin "all") (r1L G allf) := by
  intro pins s σ H xs us Q I rx h
  obtain ⟨x, rfl, Fz, d, ob, sub, hx, ho, q⟩ := h
  unfold allf at ho
  split at ho
  · rw [Option.bind_eq_some_iff] at ho
    obtain ⟨bs, hb, ho⟩ := ho
    cases vB_eq ho
    obtain ⟨a, vs, rfl, ha, ra⟩ := hx.list sub
    rw [bBools_some hb] at ra
    rw [ra.bls] at ha
    exact cr_all hc pins s σ H _ us Q I rx ⟨_, bs, rfl, SqL.of ha, q.sc sub (.bl _)⟩
  · cases ho
theorem call_anyA (hc : X.calm = true) : CallR X (.builtin "any") (r1L G anyf) := by
  intro pins s σ H xs us Q I rx h
  obtain ⟨x, rfl, Fz, d, ob, sub, hx, ho, q⟩ := h
  unfold anyf at ho
  split at ho
  · rw [Option.bind_eq_some_iff] at ho
    obtain ⟨bs, hb, ho⟩ := ho
    cases vB_eq ho
    obtain ⟨a, vs, rfl, ha, ra⟩ := hx.list sub
    rw [bBools_some hb] at ra
    rw [ra.bls] at ha
    exact cr_any hc pins s σ H _ us Q I rx ⟨_, bs, rfl, SqL.of ha, q.sc sub (.bl _)⟩
  · cases ho
theorem call_sumA (hc : X.calm = true) : CallR X (.builtin "sum") (r1L G sumf) := by
  intro pins s σ H xs us Q I rx h
  obtain ⟨x, rfl, Fz, d, ob, sub, hx, ho, q⟩ := h
  unfold sumf at ho
  split at ho
  · rw [Option.bind_eq_some_iff] at ho
    obtain ⟨bs, hb, ho⟩ := ho
    cases vI_eq ho
    obtain ⟨a, vs, rfl, ha, ra⟩ := hx.list sub
    rw [bInts_some hb] at ra
    rw [ra.ints] at ha
    exact cr_sum hc pins s σ H _ us Q I rx ⟨_, bs, rfl, SqL.of ha, q.sc sub (.int _)⟩
  · cases ho
omit hK in
theorem lastMax_le : ∀ (ns : List Int) (m : Int), m ≤ lastMax m ns
  | [], m => Int.le_refl _
  | i :: r, m => by
    unfold lastMax
    have := lastMax_le r (if i > m then i else m)
    split at this <;> rename_i h <;> first | (rw [if_pos h]; omega) | (rw [if_neg h]; omega)
omit hK in
theorem lastMax_uniq : ∀ (ns : List Int) (m k : Int), k ∈ m :: ns → (∀ y, y ∈ m :: ns → y ≤ k) → lastMax m ns = k
  | [], m, k, h, _ => by simp at h; rw [h]; rfl
  | i :: r, m, k, h, hle => by
    unfold lastMax
    have h1 := hle m (by simp)
    have h2 := hle i (by simp)
    have h3 : ∀ y, y ∈ r → y ≤ k := fun y hy => hle y (by simp [hy])
    by_cases c : i > m
    · rw [if_pos c]
      refine lastMax_uniq r i k ?_ fun y hy => ?_
      · simp only [List.mem_cons] at h ⊢
        rcases h with h | h | h
        · left; omega
        · exact .inl h
        · exact .inr h
      · simp only [List.mem_cons] at hy
        rcases hy with h | h
        · omega
        · exact h3 y h
    · rw [if_neg c]
      refine lastMax_uniq r m k ?_ fun y hy => ?_
      · simp only [List.mem_cons] at h ⊢
        rcases h with h | h | h
        · exact .inl h
        · left; omega
        · exact .inr h
      · simp only [List.mem_cons] at hy
        rcases hy with h | h
        · omega
        · exact h3 y h
omit hK in
theorem lastMin_uniq : ∀ (ns : List Int) (m k : Int), k ∈ m :: ns → (∀ y, y ∈ m :: ns → k ≤ y) → lastMin m ns = k
  | [], m, k, h, _ => by simp at h; rw [h]; rfl
  | i :: r, m, k, h, hle => by
    unfold lastMin
    have h1 := hle m (by simp)
    have h2 := hle i (by simp)
    have h3 : ∀ y, y ∈ r → k ≤ y := fun y hy => hle y (by simp [hy])
    by_cases c : i < m
    · rw [if_pos c]
      refine lastMin_uniq r i k ?_ fun y hy => ?_
      · simp only [List.mem_cons] at h ⊢
        rcases h with h | h | h
        · left; omega
        · exact .inl h
        · exact .inr h
      · simp only [List.mem_cons] at hy
        rcases hy with h | h
        · omega
        · exact h3 y h
    · rw [if_neg c]
      refine lastMin_uniq r m k ?_ fun y hy => ?_
      · simp only [List.mem_cons] at h ⊢
        rcases h with h | h | h
        · exact .inl h
        · left; omega
        · exact .inr h
      · simp only [List.mem_cons] at hy
        rcases hy with h | h
        · omega
        · exact h3 y h
omit hK in
theorem minD_last : ∀ (ns : List Int) (n : Int), PySem.W.minD (.int n) (ns.map PyData.int) = .int (lastMin n ns)
  | [], _ => rfl
  | i :: r, n => by
    have e : PySem.W.minD (.int n) ((i :: r).map PyData.int) = PySem.W.minD (.int (if i < n then i else n)) (r.map PyData.int) := by
      unfold PySem.W.minD
      rw [List.map_cons, List.foldl_cons, PySem.W.dataLt_int]
      by_cases h : i < n
      · rw [if_pos (decide_eq_true h), if_pos h]
      · rw [if_neg (by simpa using h), if_neg h]
    rw [e, minD_last r]; rfl
omit hK in
theorem maxD_last : ∀ (ns : List Int) (n : Int), PySem.W.maxD (.int n) (ns.map PyData.int) = .int (lastMax n ns)
  | [], _ => rfl
  | i :: r, n => by
    have e : PySem.W.maxD (.int n) ((i :: r).map PyData.int) = PySem.W.maxD (.int (if i > n then i else n)) (r.map PyData.int) := by
      unfold PySem.W.maxD
      rw [List.map_cons, List.foldl_cons, PySem.W.dataLt_int]
      by_cases h : n < i
      · rw [if_pos (decide_eq_true h), if_pos h]
      · rw [if_neg (by simpa using h), if_neg h]
    rw [e, maxD_last r]; rfl
omit hK in
theorem ints_alike (ns : List Int) : PySem.W.AlikeAll (ns.map PyData.int) := by
  refine ⟨fun x hx y hy => ?_, fun x hx => ?_⟩
  · obtain ⟨i, _, rfl⟩ := List.mem_map.mp hx
    obtain ⟨j, _, rfl⟩ := List.mem_map.mp hy
    rfl
  · obtain ⟨i, _, rfl⟩ := List.mem_map.mp hx
    simp
omit hK in
theorem ints_depth (ns : List Int) : PyData.depthAll (ns.map PyData.int) = 0 := PySem.W.depth_ints ns
theorem call_max1A (hu : X.A.units + 160 < cLine) (hc : X.calm = true) : CallR X (.builtin "max") (r1L G max1f) := by
  intro pins s σ H xs us Q I rx h
  obtain ⟨x, rfl, Fz, d, ob, sub, hx, ho, q⟩ := h
  unfold max1f at ho
  split at ho
  · split at ho
    · rename_i n ns hb
      cases vI_eq ho
      obtain ⟨a, vs, rfl, ha, ra⟩ := hx.list sub
      rw [bInts_some hb] at ra
      rw [ra.ints] at ha
      exact cr_max hc pins s σ H _ us Q I rx ⟨_, n :: ns, rfl, SqL.of ha, by simp, fun m hm hle => by rw [← lastMax_uniq ns n m hm hle]; exact q.sc sub (.int _)⟩
    · cases ho
  · split at ho
    · rename_i n ns hb
      cases vI_eq ho
      obtain ⟨a, vs, rfl, ha, ra, _⟩ := hx.tuple sub
      rw [bInts_some hb] at ra
      have ev := ra.ints
      subst ev
      obtain ⟨its, rv, pl, hz⟩ := I.tuple (hK ▸ ha)
      rw [Vals.ref1 rx]
      obtain ⟨as, hr⟩ := Dp.readsAll I ((n :: ns).map PyData.int) ((n :: ns).map V.int) its (hK ▸ (ra.mono sub).dp) rv
      refine PySem.W.max_tuple_data (x := .int n) (xs := ns.map PyData.int) (I.ok.hd hc) pl (by simpa using hr) (ints_alike (n :: ns)) (by have := ints_depth (n :: ns); rw [List.map_cons] at this; rw [this]; omega) fun i v h' tk bs hv hr' k => ?_
      rw [maxD_last] at hr'
      cases hr'
      exact ⟨.int (lastMax n ns), H, I.kept k, ⟨_, rfl⟩, q.sc sub (.int _)⟩
    · cases ho
  · cases ho
theorem call_min1A (hu : X.A.units + 160 < cLine) (hc : X.calm = true) : CallR X (.builtin "min") (r1L G min1f) := by
  intro pins s σ H xs us Q I rx h
  obtain ⟨x, rfl, Fz, d, ob, sub, hx, ho, q⟩ := h
  unfold min1f at ho
  split at ho
  · split at ho
    · rename_i n ns hb
      cases vI_eq ho
      obtain ⟨a, vs, rfl, ha, ra⟩ := hx.list sub
      rw [bInts_some hb] at ra
      rw [ra.ints] at ha
      exact cr_min hc pins s σ H _ us Q I rx ⟨_, n :: ns, rfl, SqL.of ha, by simp, fun m hm hle => by rw [← lastMin_uniq ns n m hm hle]; exact q.sc sub (.int _)⟩
    · cases ho
  · split at ho
    · rename_i n ns hb
      cases vI_eq ho
      obtain ⟨a, vs, rfl, ha, ra, _⟩ := hx.tuple sub
      rw [bInts_some hb] at ra
      have ev := ra.ints
      subst ev
      obtain ⟨its, rv, pl, hz⟩ := I.tuple (hK ▸ ha)
      rw [Vals.ref1 rx]
      obtain ⟨as, hr⟩ := Dp.readsAll I ((n :: ns).map PyData.int) ((n :: ns).map V.int) its (hK ▸ (ra.mono sub).dp) rv
      refine PySem.W.min_tuple_data (x := .int n) (xs := ns.map PyData.int) (I.ok.hd hc) pl (by simpa using hr) (ints_alike (n :: ns)) (by have := ints_depth (n :: ns); rw [List.map_cons] at this; rw [this]; omega) fun i v h' tk bs hv hr' k => ?_
      rw [minD_last] at hr'
      cases hr'
      exact ⟨.int (lastMin n ns), H, I.kept k, ⟨_, rfl⟩, q.sc sub (.int _)⟩
    · cases ho
  · cases ho
theorem call_max2A (hc : X.calm = true) : CallR X (.builtin "max") (r2L G max2f) := by
  intro pins s σ H xs us Q I rx h
  obtain ⟨x, y, rfl, Fz, d, e, ob, sub, hx, hy, ho, q⟩ := h
  unfold max2f at ho
  split at ho
  · cases vI_eq ho
    cases hx.int; cases hy.int
    exact call_max2 hc pins s σ H _ us Q I rx ⟨_, _, rfl, q.sc sub (.int _)⟩
  · cases ho
theorem call_min2A (hc : X.calm = true) : CallR X (.builtin "min") (r2L G min2f) := by
  intro pins s σ H xs us Q I rx h
  obtain ⟨x, y, rfl, Fz, d, e, ob, sub, hx, hy, ho, q⟩ := h
  unfold min2f at ho
  split at ho
  · cases vI_eq ho
    cases hx.int; cases hy.int
    exact call_min2 hc pins s σ H _ us Q I rx ⟨_, _, rfl, q.sc sub (.int _)⟩
  · cases ho

/-- the type of a view -/
def tyOf : PV → String
  | .none => "NoneType" | .bool _ => "bool" | .int _ => "int" | .str _ => "str" | .list _ => "list" | .tuple _ => "tuple" | .dict _ => "dict"
theorem VW.ty {Fz H : Hp} {x : V} {d : PV} (h : VW G.K Fz H x d) (sub : Same Fz H) (nd : isD d = false) : TyX X.K H x (.type (tyOf d)) := by
  rw [hK]
  cases d with
  | none => cases h.non; exact .base .non
  | bool b => cases h.bl; exact .base (.bl _)
  | int b => cases h.int; exact .base (.int _)
  | str b => obtain ⟨rfl, _⟩ := h.str; exact .base (.str _)
  | list xs => obtain ⟨a, vs, rfl, ha, _⟩ := h.list sub; exact .base (.lst ha)
  | tuple xs =>
    obtain ⟨a, vs, rfl, ha, _⟩ := h.tuple sub
    rcases ha with (ha | ⟨o, ha⟩) | ⟨o, its, n, hk, hc, _⟩
    · exact .base (.tup ha)
    · exact .fTuple ha
    · exact .kTuple hk hc
  | dict _ => cases nd
/-- isinstance(x, T), T a built-in type -/
theorem call_isA {n : String} {p : PV → Bool} (hp : ∀ d, isD d = false → kitB (tyOf d) n = some (p d)) :
    CallR X (.builtin "isinstance") (fun xs H Q => ∃ x, xs = [x, .ty n] ∧ r1 G (kindf p) x H Q) := by
  intro pins s σ H xs us Q I rx h
  obtain ⟨x, rfl, Fz, d, ob, sub, hx, ho, q⟩ := h
  unfold kindf at ho
  by_cases nd : isD d = true
  · rw [if_pos nd] at ho; cases ho
  · rw [if_neg nd] at ho
    cases vB_eq ho
    have nd : isD d = false := by simpa using nd
    exact call_isi pins s σ H _ us Q I rx ⟨x, _, _, _, _, rfl, .ty n, VW.ty hK hx sub nd, kit_ty (hp d nd), q.sc sub (.bl _)⟩
end
end Pv
-- PvCtx
set_option maxRecDepth 100000
namespace Pv
open PySem L2

structure StOk (G : Gx) (env : En) (σ : St) (Fz H : Hp) : Prop where
  len : env.length = σ.length
  sub : Same Fz H
  rep : ∀ (i : Nat) (ob : Ob), env[i]? = some (some ob) → ∃ v, σ[i]? = some (some v) ∧ RO G Fz H ob v
  sep : ∀ (i j : Nat) (a : Addr) (oi oj : Ob), i ≠ j → env[i]? = some (some oi) → env[j]? = some (some oj) → oi.mut = true → oj.mut = true → σ[i]? = some (some (.ref a)) → σ[j]? = some (some (.ref a)) → False
/-- the lists of one's own -/
def Own (env : En) (σ : St) (a : Addr) : Prop := ∃ (i : Nat) (o : Ob), env[i]? = some (some o) ∧ o.mut = true ∧ σ[i]? = some (some (.ref a))
/-- what is kept between two states -/
structure FrO (O O' : Addr → Prop) (Fz H Fz' H' : Hp) : Prop where
  hh : ∀ a o, H a = some o → ¬ O a → H' a = some o
  dm : ∀ a, H a ≠ none → H' a ≠ none
  ff : Same Fz Fz'
  nw : ∀ a, H a ≠ none → ¬ O a → Fz a = none → Fz' a = none
  ow : ∀ a, O' a → O a ∨ H a = none
theorem FrO.refl {O : Addr → Prop} {Fz H : Hp} : FrO O O Fz H Fz H := ⟨fun _ _ h _ => h, fun _ h => h, Same.refl _, fun _ _ _ h => h, fun _ h => .inl h⟩
theorem FrO.trans {O O1 O2 : Addr → Prop} {Fz H Fz1 H1 Fz2 H2 : Hp} (a : FrO O O1 Fz H Fz1 H1) (b : FrO O1 O2 Fz1 H1 Fz2 H2) : FrO O O2 Fz H Fz2 H2 where
  hh := fun c o h n => b.hh c o (a.hh c o h n) fun q => (a.ow c q).elim n fun z => by rw [h] at z; cases z
  dm := fun c h => b.dm c (a.dm c h)
  ff := a.ff.trans b.ff
  nw := fun c h n z => b.nw c (a.dm c h) (fun q => (a.ow c q).elim n h) (a.nw c h n z)
  ow := fun c q => (b.ow c q).elim (a.ow c) fun z => by
    by_cases h : H c = none
    · exact .inr h
    · exact absurd z (a.dm c h)
theorem FrO.of_ext {O : Addr → Prop} {Fz H Fz' H' : Hp} (e : Ext Fz H Fz' H') : FrO O O Fz H Fz' H' :=
  ⟨fun a o h _ => e.hh a o h, fun a h => by
    cases q : H a with
    | none => exact absurd q h
    | some o => rw [e.hh a o q]; simp, e.ff, fun a h _ z => e.nw a h z, fun _ h => .inl h⟩
theorem FrO.same {O O' : Addr → Prop} {Fz H : Hp} (h : ∀ a, O' a → O a) : FrO O O' Fz H Fz H := ⟨fun _ _ h _ => h, fun _ h => h, Same.refl _, fun _ _ _ h => h, fun a q => .inl (h a q)⟩

/-- a value that has come by itself: nobody else holds it -/
def Fsh (ob : Ob) (v : V) (env : En) (σ : St) (H : Hp) : Prop := ob.mut = true → ∃ a, v = .ref a ∧ H a = none ∧ ¬ Own env σ a

section
variable {G : Gx}
theorem RO.step {O O' : Addr → Prop} {Fz H Fz' H' : Hp} (f : FrO O O' Fz H Fz' H') {ob : Ob} {v : V} (r : RO G Fz H ob v) (n : ob.mut = true → ∃ a, v = .ref a ∧ ¬ O a) : RO G Fz' H' ob v := by
  cases r with
  | v r => exact .v (r.mono f.ff)
  | ro a b => exact .ro (SqL.mono f.ff a) (b.mono f.ff)
  | ml a b c =>
    obtain ⟨x, e, nx⟩ := n rfl
    cases e
    exact .ml (f.hh _ _ a nx) (b.mono f.ff) (f.nw _ (ne_of_some a) nx c)
  | fn a => exact .fn a
theorem StOk.ext {env : En} {σ : St} {Fz H Fz' H' : Hp} (s : StOk G env σ Fz H) (e : Ext Fz H Fz' H') : StOk G env σ Fz' H' := by
  refine ⟨s.len, e.sub, fun i ob h => ?_, s.sep⟩
  obtain ⟨v, h1, h2⟩ := s.rep i ob h
  refine ⟨v, h1, ?_⟩
  cases h2 with
  | v r => exact .v (r.mono e.ff)
  | ro a b => exact .ro (SqL.mono e.ff a) (b.mono e.ff)
  | ml a b c => exact .ml (e.hh _ _ a) (b.mono e.ff) (e.nw _ (ne_of_some a) c)
  | fn a => exact .fn a

/-- how an exception lies -/
def ExR (G : Gx) (cn : Nat → Str) (c : Nat) (as : List PV) (cls : Value) (d : Option Addr) (H : Hp) : Prop :=
  ∃ C, cls = .ref C ∧ G.mg (cn c) = some (.ref C) ∧ as = [] ∧ d = none

/-- what an evaluation from (env, σ, Fz, H) says -/
def PostE {α : Type} (G : Gx) (cn : Nat → Str) (W : WX) (env : En) (σ : St) (Fz H : Hp) (r : Rs α) (K : α → En → Hp → Hp → Prop) : Prop := match r with
  | .ok a env' => ∀ Fz' H', StOk G env' σ Fz' H' → FrO (Own env σ) (Own env' σ) Fz H Fz' H' → K a env' Fz' H'
  | .ex c as env' => ∀ cls d Fz' H', StOk G env' σ Fz' H' → FrO (Own env σ) (Own env' σ) Fz H Fz' H' → ExR G cn c as cls d H' → W cls d σ H'
  | .no => False

section
variable {cn : Nat → Str} {W : WX} {env : En} {σ : St} {Fz H : Hp} {α β : Type}
theorem PostE.split {r : Rs α} {k : α → En → Rs β} {K : β → En → Hp → Hp → Prop} (p : PostE G cn W env σ Fz H (r.bind k) K) :
    PostE G cn W env σ Fz H r (fun a env1 Fz1 H1 => PostE G cn W env1 σ Fz1 H1 (k a env1) K) := by
  cases r with
  | ok a env1 =>
    intro Fz1 H1 s1 f1
    have p : PostE G cn W env σ Fz H (k a env1) K := p
    show PostE G cn W env1 σ Fz1 H1 (k a env1) K
    cases q : k a env1 with
    | ok b env2 =>
      rw [q] at p
      exact fun Fz2 H2 s2 f2 => p Fz2 H2 s2 (f1.trans f2)
    | ex c as env2 =>
      rw [q] at p
      exact fun cls d Fz2 H2 s2 f2 e => p cls d Fz2 H2 s2 (f1.trans f2) e
    | no => rw [q] at p; exact p
  | ex c as env1 => exact p
  | no => exact p
theorem PostE.mono {r : Rs α} {K K' : α → En → Hp → Hp → Prop} (p : PostE G cn W env σ Fz H r K)
    (h : ∀ a env' Fz' H', StOk G env' σ Fz' H' → FrO (Own env σ) (Own env' σ) Fz H Fz' H' → K a env' Fz' H' → K' a env' Fz' H') : PostE G cn W env σ Fz H r K' := by
  cases r with
  | ok a env1 => exact fun Fz1 H1 s1 f1 => h _ _ _ _ s1 f1 (p Fz1 H1 s1 f1)
  | ex c as env1 => exact p
  | no => exact p
theorem PostE.ok {a : α} {K : α → En → Hp → Hp → Prop} (s : StOk G env σ Fz H) (p : PostE G cn W env σ Fz H (.ok a env) K) : K a env Fz H := p Fz H s FrO.refl
end
end

section
variable (G : Gx) (cf : Nat → List Ob → CR) (lk : List Nat) (cn : Nat → Str) (W : WX)
def KV' (Q : VK) (env0 : En) (σ : St) (H : Hp) : Ob → En → Hp → Hp → Prop := fun ob env' Fz' H' => ∀ v, RO G Fz' H' ob v → Fsh ob v env' σ H → Q v H'
def tE (ir : IE) : TE := fun σ H Q => ∃ env Fz, StOk G env σ Fz H ∧ PostE G cn W env σ Fz H (evE cf lk ir env) (KV' G Q env σ H)
def tT (ir : IE) : TT := fun σ H Q => ∃ env Fz, StOk G env σ Fz H ∧ PostE G cn W env σ Fz H (evT cf lk ir env) fun b env' Fz' H' => Q b H'
/-- an argument: a name or what has come -/
def evA1 (e : IE) (env : En) : Rs Ag := match e.isX with
  | some i => (match env[i]? with
    | some (some _) => .ok (.inl i) env
    | _ => .no)
  | none => (evE cf lk e env).bind fun o env => .ok (.inr o) env
def AgR (ag : Ag) (x : V) (env : En) (σ : St) (Fz H H0 : Hp) : Prop := match ag with
  | .inl i => σ[i]? = some (some x)
  | .inr o => RO G Fz H o x ∧ Fsh o x env σ H0
def tArg (ir : IE) : TE := fun σ H Q => ∃ env Fz, StOk G env σ Fz H ∧ PostE G cn W env σ Fz H (evA1 cf lk ir env) fun ag env' Fz' H' => ∀ x, AgR G ag x env' σ Fz' H' H → Q x H'
end
theorem evA_cons (cf : Nat → List Ob → CR) (lk : List Nat) (io : Bool) (e : IE) (es : IEs) (env : En) :
    evA cf lk (.cons io e es) env = (evA1 cf lk e env).bind fun ag env => (evA cf lk es env).bind fun as env => .ok ((io, ag) :: as) env := by
  rw [evA, evA1]
  cases h : e.isX with
  | none =>
    simp only
    cases evE cf lk e env <;> rfl
  | some i =>
    simp only
    cases h2 : env[i]? with
    | none => rfl
    | some o => cases o <;> rfl
theorem AgR.step {G : Gx} {ag : Ag} {x : V} {env env' : En} {σ : St} {Fz H Fz' H' H0 : Hp} (r : AgR G ag x env σ Fz H H0) (f : FrO (Own env σ) (Own env' σ) Fz H Fz' H') : AgR G ag x env' σ Fz' H' H0 := by
  cases ag with
  | inl i => exact r
  | inr o =>
    obtain ⟨r, fr⟩ := r
    refine ⟨r.step f fun m => ?_, fun m => ?_⟩
    · obtain ⟨a, e, _, n⟩ := fr m
      exact ⟨a, e, n⟩
    · obtain ⟨a, e, h0, n⟩ := fr m
      refine ⟨a, e, h0, fun q => (f.ow a q).elim n fun z => ?_⟩
      subst e
      cases r with
      | ml ha _ _ => rw [ha] at z; cases z
      | v _ => cases m
      | ro _ _ => cases m
      | fn _ => cases m
/-- what is looked at is there -/
theorem AgR.res {G : Gx} {env : En} {σ : St} {Fz H H0 : Hp} (s : StOk G env σ Fz H) {ag : Ag} {x : V} {o : Ob} {os : List Ob} {ags : List Ag} (r : AgR G ag x env σ Fz H H0)
    (h : resolve env (ag :: ags) = some (o :: os)) : RO G Fz H o x ∧ resolve env ags = some os := by
  cases ag with
  | inl i =>
    rw [resolve] at h
    split at h
    · rename_i o' os' h1 h2
      cases h
      obtain ⟨v, e1, e2⟩ := s.rep i o h1
      have r : σ[i]? = some (some x) := r
      rw [r] at e1
      cases e1
      exact ⟨e2, h2⟩
    · cases h
  | inr o' =>
    rw [resolve, Option.map_eq_some_iff] at h
    obtain ⟨os', h1, h2⟩ := h
    cases h2
    exact ⟨r.1, h1⟩
theorem resolve_cons {env : En} {ag : Ag} {ags : List Ag} {l : List Ob} (h : resolve env (ag :: ags) = some l) : ∃ o os, l = o :: os := by
  cases ag with
  | inl i =>
    rw [resolve] at h
    split at h
    · cases h; exact ⟨_, _, rfl⟩
    · cases h
  | inr o =>
    rw [resolve, Option.map_eq_some_iff] at h
    obtain ⟨os', h1, h2⟩ := h
    exact ⟨_, _, h2.symm⟩
theorem views_cons {o : Ob} {os : List Ob} {ds : List PV} (h : views (o :: os) = some ds) : ∃ d es, o.view = some d ∧ views os = some es ∧ ds = d :: es := by
  rw [views] at h
  split at h
  · cases h; exact ⟨_, _, by assumption, by assumption, rfl⟩
  · cases h
end Pv
-- PvExpr
set_option maxRecDepth 100000
namespace Pv
open PySem L2

theorem PE.imp {X : Cx} {e : Expr} {t t' : TE} (h : PE X e t) (i : ∀ σ H Q, t' σ H Q → t σ H Q) : PE X e t' := ⟨fun pins s σ H Q I q => h.run pins s σ H Q I (i σ H Q q)⟩
theorem PT.imp {X : Cx} {e : Expr} {t t' : TT} (h : PT X e t) (i : ∀ σ H Q, t' σ H Q → t σ H Q) : PT X e t' := ⟨fun pins s σ H Q I q => h.run pins s σ H Q I (i σ H Q q)⟩
theorem PW.imp {X : Cx} {e : Expr} {t t' : TT} (h : PW X e t) (i : ∀ σ H Q, t' σ H Q → t σ H Q) : PW X e t' := ⟨fun wh pins s σ H Q I q => h.run wh pins s σ H Q I (i σ H Q q)⟩
theorem PA.imp {X : Cx} {e : List Expr} {t t' : TA} (h : PA X e t) (i : ∀ σ H Q, t' σ H Q → t σ H Q) : PA X e t' := ⟨fun pos pins s σ H Q I q => h.run pos pins s σ H Q I (i σ H Q q)⟩

section
variable {G : Gx} {cn : Nat → Str} {W : WX} {σ : St} {α β : Type}
theorem PostE.split0 {env : En} {Fz H : Hp} {r : Rs α} {k : α → En → Rs β} {K : β → En → Hp → Hp → Prop} (p : PostE G cn W env σ Fz H (r.bind k) K) :
    PostE G cn W env σ Fz H r (fun a env1 _ _ => PostE G cn W env σ Fz H (k a env1) K) := by
  cases r with
  | ok a env1 => exact fun _ _ _ _ => p
  | ex c as env1 => exact p
  | no => exact p
theorem PostE.shift {env env1 : En} {Fz H Fz1 H1 : Hp} (f : FrO (Own env σ) (Own env1 σ) Fz H Fz1 H1) {r : Rs α} {K : α → En → Hp → Hp → Prop} (p : PostE G cn W env σ Fz H r K) : PostE G cn W env1 σ Fz1 H1 r K := by
  cases r with
  | ok a env2 => exact fun Fz2 H2 s2 f2 => p Fz2 H2 s2 (f.trans f2)
  | ex c as env2 => exact fun cls d Fz2 H2 s2 f2 => p cls d Fz2 H2 s2 (f.trans f2)
  | no => exact p

/-- the arguments' values, in a row -/
inductive AgRs (G : Gx) (env : En) (σ : St) (Fz H H0 : Hp) : List Ag → List V → Prop
  | nil : AgRs G env σ Fz H H0 [] []
  | cons {ag : Ag} {x : V} {ags : List Ag} {xs : List V} : AgR G ag x env σ Fz H H0 → AgRs G env σ Fz H H0 ags xs → AgRs G env σ Fz H H0 (ag :: ags) (x :: xs)
theorem AgRs.res {env : En} {Fz H H0 : Hp} (s : StOk G env σ Fz H) : ∀ {ags : List Ag} {xs : List V} {os : List Ob}, AgRs G env σ Fz H H0 ags xs → resolve env ags = some os → Paired (fun (x : V) (o : Ob) => RO G Fz H o x) xs os
  | _, _, _, .nil, h => by rw [resolve] at h; cases h; exact .nil
  | _, _, _, .cons r t, h => by
    obtain ⟨o, os, rfl⟩ := resolve_cons h
    obtain ⟨h1, h2⟩ := r.res s h
    exact .cons h1 (AgRs.res s t h2)
theorem AgRs.step {env env' : En} {Fz H Fz' H' H0 : Hp} (f : FrO (Own env σ) (Own env' σ) Fz H Fz' H') : ∀ {ags : List Ag} {xs : List V}, AgRs G env σ Fz H H0 ags xs → AgRs G env' σ Fz' H' H0 ags xs
  | _, _, .nil => .nil
  | _, _, .cons r t => .cons (r.step f) (AgRs.step f t)
theorem Fsh.older {env0 env1 : En} {Fz H Fz1 H1 : Hp} (f : FrO (Own env0 σ) (Own env1 σ) Fz H Fz1 H1) {ob : Ob} {v : V} {env : En} (x : Fsh ob v env σ H1) : Fsh ob v env σ H := fun m => by
  obtain ⟨a, e, h, n⟩ := x m
  refine ⟨a, e, ?_, n⟩
  cases q : H a with
  | none => rfl
  | some o => exact absurd h (f.dm a (by rw [q]; simp))
theorem AgR.older {env0 env1 : En} {Fz H Fz1 H1 : Hp} (f : FrO (Own env0 σ) (Own env1 σ) Fz H Fz1 H1) {ag : Ag} {x : V} {env : En} {Fz2 H2 : Hp} (r : AgR G ag x env σ Fz2 H2 H1) : AgR G ag x env σ Fz2 H2 H := by
  cases ag with
  | inl i => exact r
  | inr o => exact ⟨r.1, r.2.older f⟩
theorem AgRs.older {env0 env1 : En} {Fz H Fz1 H1 : Hp} (f : FrO (Own env0 σ) (Own env1 σ) Fz H Fz1 H1) {env : En} {Fz2 H2 : Hp} : ∀ {ags : List Ag} {xs : List V}, AgRs G env σ Fz2 H2 H1 ags xs → AgRs G env σ Fz2 H2 H ags xs
  | _, _, .nil => .nil
  | _, _, .cons r t => .cons (r.older f) (AgRs.older f t)

/-- an operation's end -/
theorem opEnd {env : En} {Fz H : Hp} {env0 : En} {Fz0 H0 : Hp} (s : StOk G env σ Fz H) (f : FrO (Own env0 σ) (Own env σ) Fz0 H0 Fz H) {ob : Ob} {Q : VK}
    (p : PostE G cn W env0 σ Fz0 H0 (.ok ob env) (KV' G Q env0 σ H0)) : Res G Fz H ob Q := fun v Fz' H' e r fr => by
  refine p Fz' H' (s.ext e) (f.trans (.of_ext e)) v r fun m => ?_
  obtain ⟨a, h1, h2⟩ := fr m
  refine ⟨a, h1, ?_, ?_⟩
  · cases q : H0 a with
    | none => rfl
    | some o => exact absurd h2 (f.dm a (by rw [q]; simp))
  · rintro ⟨i, o, e1, e2, e3⟩
    obtain ⟨w, e4, e5⟩ := s.rep i o e1
    rw [e3] at e4
    cases e4
    cases e5 with
    | ml ha _ _ => rw [ha] at h2; cases h2
    | v _ => cases e2
    | ro _ _ => cases e2
    | fn _ => cases e2
end

section
variable {X : Cx} {G : Gx} {cf : Nat → List Ob → CR} {lk : List Nat} {cn : Nat → Str} {W : WX} {e : Expr}

theorem tArg_mono {ir : IE} : ∀ σ H Q Q', (∀ x H1, Q x H1 → Q' x H1) → tArg G cf lk cn W ir σ H Q → tArg G cf lk cn W ir σ H Q' := fun σ H Q Q' i ⟨env, Fz, s, p⟩ =>
  ⟨env, Fz, s, p.mono fun _ _ _ _ _ _ h x r => i _ _ (h x r)⟩

/-- what is no name is an argument as it comes -/
theorem arg_of (h : PE X e (tE G cf lk cn W ir)) (hx : ir.isX = none) : PE X e (tArg G cf lk cn W ir) := by
  refine PE.imp h fun σ H Q ⟨env, Fz, s, p⟩ => ⟨env, Fz, s, ?_⟩
  rw [evA1, hx] at p
  have p := p.split0
  exact p.mono fun ob env1 Fz1 H1 s1 f1 q v r fr => q Fz1 H1 s1 f1 v ⟨r, fr⟩
/-- a name as an argument: it is looked at -/
theorem arg_x {i : Nat} (h : PE X e (tVar i)) : PE X e (tArg G cf lk cn W (.x i)) := by
  refine PE.imp h fun σ H Q ⟨env, Fz, s, p⟩ => ?_
  rw [evA1] at p
  simp only [IE.isX] at p
  split at p
  · rename_i o ho
    obtain ⟨v, h1, _⟩ := s.rep i o ho
    exact ⟨v, h1, p.ok s v h1⟩
  · exact p.elim
/-- a name as a value: a list of one's own is given away -/
theorem freezeSt {env : En} {σ : St} {Fz H : Hp} (s : StOk G env σ Fz H) {i : Nat} {xs : List PV} (hi : env[i]? = some (some (.ml xs))) :
    ∃ a vs, σ[i]? = some (some (.ref a)) ∧ H a = some (.lst vs) ∧ RFs G.K Fz vs xs ∧ StOk G (env.set i (some (.v (.list xs)))) σ (upd Fz a (.lst vs)) H ∧
      FrO (Own env σ) (Own (env.set i (some (.v (.list xs)))) σ) Fz H (upd Fz a (.lst vs)) H ∧ RF G.K (upd Fz a (.lst vs)) (.ref a) (.list xs) := by
  obtain ⟨v, h1, h2⟩ := s.rep i _ hi
  cases h2 with
  | @ml a vs _ ha hr hf =>
    have hilt : i < env.length := (List.getElem?_eq_some_iff.mp hi).1
    have ff : Same Fz (upd Fz a (.lst vs)) := Same.upd hf
    have rr : RF G.K (upd Fz a (.lst vs)) (.ref a) (.list xs) := .lst upd_same (hr.mono ff)
    have sub : Same (upd Fz a (.lst vs)) H := fun b u h => by
      by_cases e : b = a
      · subst e; rw [upd_same] at h; cases h; exact ha
      · rw [upd_ne e] at h; exact s.sub b u h
    have own : ∀ b, Own (env.set i (some (.v (.list xs)))) σ b → Own env σ b ∧ b ≠ a := fun b ⟨j, o, e1, e2, e3⟩ => by
      by_cases hj : i = j
      · subst hj
        rw [List.getElem?_set_self hilt] at e1
        cases e1
        cases e2
      · rw [List.getElem?_set_ne hj] at e1
        refine ⟨⟨j, o, e1, e2, e3⟩, fun e => ?_⟩
        subst e
        exact s.sep i j b _ _ hj hi e1 rfl e2 h1 e3
    refine ⟨a, vs, h1, ha, hr, ⟨by rw [List.length_set]; exact s.len, sub, fun j ob hj => ?_, fun j l b oj ol hne ej el mj ml_ sj sl => ?_⟩, ⟨fun _ _ h _ => h, fun _ h => h, ff, fun b hb nb hz => ?_, fun b hb => .inl (own b hb).1⟩, rr⟩
    · by_cases hji : i = j
      · subst hji
        rw [List.getElem?_set_self hilt] at hj
        cases hj
        exact ⟨_, h1, .v rr⟩
      · rw [List.getElem?_set_ne hji] at hj
        obtain ⟨w, w1, w2⟩ := s.rep j ob hj
        refine ⟨w, w1, ?_⟩
        cases w2 with
        | v r => exact .v (r.mono ff)
        | ro p q => exact .ro (SqL.mono ff p) (q.mono ff)
        | @ml b ws _ p q z =>
          refine .ml p (q.mono ff) ?_
          have : b ≠ a := fun e => by subst e; exact s.sep i j b _ _ hji hi hj rfl rfl h1 w1
          rw [upd_ne this]; exact z
        | fn p => exact .fn p
    · have g : ∀ (k : Nat) (ok : Ob), (env.set i (some (.v (.list xs))))[k]? = some (some ok) → ok.mut = true → env[k]? = some (some ok) := fun k ok hk hm => by
        by_cases hki : i = k
        · subst hki
          rw [List.getElem?_set_self hilt] at hk
          cases hk
          cases hm
        · rw [List.getElem?_set_ne hki] at hk; exact hk
      exact s.sep j l b oj ol hne (g j oj ej mj) (g l ol el ml_) mj ml_ sj sl
    · have : b ≠ a := fun e => nb ⟨i, _, hi, rfl, e ▸ h1⟩
      rw [upd_ne this]; exact hz
theorem nmut_fsh {ob : Ob} {v : V} {env : En} {σ : St} {H : Hp} (h : ob.mut = false) : Fsh ob v env σ H := fun m => by rw [h] at m; cases m
theorem tE_x {i : Nat} (h : PE X e (tVar i)) : PE X e (tE G cf lk cn W (.x i)) := by
  refine PE.imp h fun σ H Q ⟨env, Fz, s, p⟩ => ?_
  rw [evE, readX] at p
  split at p
  · rename_i o ho
    cases o with
    | v d =>
      obtain ⟨v, h1, h2⟩ := s.rep i _ ho
      exact ⟨v, h1, p.ok s v h2 (nmut_fsh rfl)⟩
    | fn f =>
      obtain ⟨v, h1, h2⟩ := s.rep i _ ho
      exact ⟨v, h1, p.ok s v h2 (nmut_fsh rfl)⟩
    | ml xs =>
      obtain ⟨a, vs, h1, ha, hr, s', f', rr⟩ := freezeSt s ho
      exact ⟨_, h1, p _ _ s' f' _ (.v rr) (nmut_fsh rfl)⟩
  · exact p.elim
theorem tE_c {d : PV} {v : V} (h : PE X e (tC v)) (hr : ∀ Fz, RF G.K Fz v d) : PE X e (tE G cf lk cn W (.c d)) := by
  refine PE.imp h fun σ H Q ⟨env, Fz, s, p⟩ => ?_
  rw [evE] at p
  exact p.ok s v (.v (hr Fz)) (nmut_fsh rfl)
theorem tE_f {f : Nat} {a : Addr} (h : PE X e (tC (.ref a))) (hm : G.mg (G.nm f) = some (.ref a)) : PE X e (tE G cf lk cn W (.f f)) := by
  refine PE.imp h fun σ H Q ⟨env, Fz, s, p⟩ => ?_
  rw [evE] at p
  exact p.ok s _ (.fn hm) (nmut_fsh rfl)

/-- one argument -/
theorem op1_tE {o : Op} {ia : IE} {io : Bool} {σ : St} {H : Hp} {Q : VK} (h : tE G cf lk cn W (.op o (.cons io ia .nil)) σ H Q) :
    tArg G cf lk cn W ia σ H fun x H1 => r1 G (opf1 o) x H1 Q := by
  obtain ⟨env, Fz, s, p⟩ := h
  rw [evE, evA_cons] at p
  have p := p.split0.split0
  refine ⟨env, Fz, s, p.mono fun ag env1 Fz1 H1 s1 f1 q x r => ?_⟩
  rw [evA] at q
  have q := q Fz1 H1 s1 f1
  simp only [List.map_cons, List.map_nil] at q
  cases e1 : resolve env1 [ag] with
  | none => rw [e1] at q; exact q.elim
  | some os =>
    rw [e1] at q
    obtain ⟨o1, os', rfl⟩ := resolve_cons e1
    obtain ⟨ro1, e2⟩ := r.res s1 e1
    rw [resolve] at e2; cases e2
    cases e3 : views [o1] with
    | none => simp only [Option.bind_some, e3, Option.bind_none] at q; exact q.elim
    | some ds =>
      obtain ⟨d, es, e4, e5, rfl⟩ := views_cons e3
      rw [views] at e5; cases e5
      simp only [Option.bind_some, e3] at q
      cases e6 : opf o [d] with
      | none => rw [e6] at q; exact q.elim
      | some ob =>
        rw [e6] at q
        exact ⟨Fz1, d, ob, s1.sub, ro1.view e4, e6, opEnd s1 f1 q⟩
/-- two arguments -/
theorem op2_tE {o : Op} {ia ib : IE} {i1 i2 : Bool} {σ : St} {H : Hp} {Q : VK} (h : tE G cf lk cn W (.op o (.cons i1 ia (.cons i2 ib .nil))) σ H Q) :
    tArg G cf lk cn W ia σ H fun x H1 => tArg G cf lk cn W ib σ H1 fun y H2 => r2 G (opf2 o) x y H2 Q := by
  obtain ⟨env, Fz, s, p⟩ := h
  rw [evE, evA_cons] at p
  have p := p.split0.split0
  refine ⟨env, Fz, s, p.mono fun ag env1 Fz1 H1 s1 f1 q x r => ?_⟩
  rw [evA_cons] at q
  have q := (q.split0.split0).shift f1
  refine ⟨env1, Fz1, s1, q.mono fun bg env2 Fz2 H2 s2 f2 q y r' => ?_⟩
  have f := f1.trans f2
  rw [evA] at q
  have q := q Fz2 H2 s2 f Fz2 H2 s2 f
  simp only [List.map_cons, List.map_nil] at q
  have r := r.step f2
  cases e1 : resolve env2 [ag, bg] with
  | none => rw [e1] at q; exact q.elim
  | some os =>
    rw [e1] at q
    obtain ⟨o1, os', rfl⟩ := resolve_cons e1
    obtain ⟨ro1, e2⟩ := r.res s2 e1
    obtain ⟨o2, os'', rfl⟩ := resolve_cons e2
    obtain ⟨ro2, e2⟩ := r'.res s2 e2
    rw [resolve] at e2; cases e2
    cases e3 : views [o1, o2] with
    | none => simp only [Option.bind_some, e3, Option.bind_none] at q; exact q.elim
    | some ds =>
      obtain ⟨d, es, e4, e5, rfl⟩ := views_cons e3
      obtain ⟨d2, es2, e6, e7, rfl⟩ := views_cons e5
      rw [views] at e7; cases e7
      simp only [Option.bind_some, e3] at q
      cases e8 : opf o [d, d2] with
      | none => rw [e8] at q; exact q.elim
      | some ob =>
        rw [e8] at q
        exact ⟨Fz2, d, d2, ob, s2.sub, ro1.view e4, ro2.view e6, e8, opEnd s2 f q⟩
end
end Pv
-- PvCall
set_option maxRecDepth 100000
namespace Pv
open PySem L2

/-- a changed argument's place -/
def OwnA (os : List Ob) (xs : List V) (a : Addr) : Prop := ∃ (j : Nat) (o : Ob), os[j]? = some o ∧ o.mut = true ∧ xs[j]? = some (.ref a)
def Tmp (ags : List Ag) (xs : List V) (a : Addr) : Prop := ∃ (j : Nat) (o : Ob), ags[j]? = some (.inr o) ∧ o.mut = true ∧ xs[j]? = some (.ref a)
/-- new lists in a row are apart -/
def Dst : List Ag → List V → Prop
  | ag :: ags, x :: xs => (∀ o a, ag = .inr o → o.mut = true → x = .ref a → ¬ Tmp ags xs a) ∧ Dst ags xs
  | _, _ => True
/-- the changed arguments behind a call -/
def Outs (G : Gx) (Fz H : Hp) : List Ob → List V → List Ob → Prop
  | [], [], outs => outs = []
  | o :: os, v :: vs, outs => if o.mut = true then ∃ out outs', outs = out :: outs' ∧ RO G Fz H out v ∧ Outs G Fz H os vs outs' else Outs G Fz H os vs outs
  | _, _, _ => False
theorem Outs_cons {G : Gx} {Fz H : Hp} {o : Ob} {os : List Ob} {v : V} {vs : List V} {outs : List Ob} :
    Outs G Fz H (o :: os) (v :: vs) outs = if o.mut = true then ∃ out outs', outs = out :: outs' ∧ RO G Fz H out v ∧ Outs G Fz H os vs outs' else Outs G Fz H os vs outs := rfl
def CallPost (G : Gx) (cn : Nat → Str) (Fz H : Hp) (obs : List Ob) (vs : List V) (r : CR) (Q : VK) (E : XK) : Prop := match r with
  | .ret ob outs => ∀ v Fz' H', Same Fz' H' → RO G Fz' H' ob v → Outs G Fz' H' obs vs outs → FrO (OwnA obs vs) (OwnA obs vs) Fz H Fz' H' → (ob.mut = true → ∃ a, v = .ref a ∧ H a = none) → Q v H'
  | .exc c as => ∀ cls d Fz' H', Same Fz' H' → FrO (OwnA obs vs) (OwnA obs vs) Fz H Fz' H' → ExR G cn c as cls d H' → E cls d H'
  | .no => False
/-- a def's promise -/
def spF (G : Gx) (cf : Nat → List Ob → CR) (cn : Nat → Str) (np : Nat) (f : Nat) : Sp := fun vs H Q E => vs.length = np ∧ ∃ Fz obs, Same Fz H ∧ Paired (fun (x : V) (o : Ob) => RO G Fz H o x) vs obs ∧
  (∀ (i j : Nat) (a : Addr) (oi oj : Ob), i ≠ j → obs[i]? = some oi → obs[j]? = some oj → oi.mut = true → oj.mut = true → vs[i]? = some (.ref a) → vs[j]? = some (.ref a) → False) ∧ CallPost G cn Fz H obs vs (cf f obs) Q E

section
variable (G : Gx) (cf : Nat → List Ob → CR) (lk : List Nat) (cn : Nat → Str) (W : WX)
/-- an argument of a call -/
def evC1 (io : Bool) (e : IE) (env : En) : Rs Ag := if io then evA1 cf lk e env else (evE cf lk e env).bind fun o env => .ok (.inr o.frozen) env
def tArgC (io : Bool) (ir : IE) : TE := fun σ H Q => ∃ env Fz, StOk G env σ Fz H ∧ PostE G cn W env σ Fz H (evC1 cf lk io ir env) fun ag env' Fz' H' => ∀ x, AgR G ag x env' σ Fz' H' H → Q x H'
def tArgs (irs : IEs) : TA := fun σ H Q => ∃ env Fz, StOk G env σ Fz H ∧ PostE G cn W env σ Fz H (evC cf lk irs env) fun as env' Fz' H' => ∀ xs, AgRs G env' σ Fz' H' H (as.map (·.2)) xs → Dst (as.map (·.2)) xs → Q xs H'
end
section
variable {X : Cx} {G : Gx} {cf : Nat → List Ob → CR} {lk : List Nat} {cn : Nat → Str} {W : WX} {e : Expr} {es : List Expr}
theorem args_nil : PA X [] (tArgs G cf lk cn W .nil) := by
  refine PA.imp pa_nil fun σ H Q ⟨env, Fz, s, p⟩ => ?_
  rw [evC] at p
  exact p.ok s [] .nil trivial
theorem AgRs.tmp {env : En} {σ : St} {Fz H H0 : Hp} {a : Addr} : ∀ {ags : List Ag} {xs : List V}, AgRs G env σ Fz H H0 ags xs → Tmp ags xs a → H0 a = none ∧ ¬ Own env σ a ∧ H a ≠ none
  | _, _, .nil, ⟨j, o, h, _⟩ => by simp at h
  | _, _, .cons r t, ⟨0, o, h1, h2, h3⟩ => by
    simp only [List.getElem?_cons_zero, Option.some.injEq] at h1 h3
    subst h1 h3
    obtain ⟨b, e, q1, q2⟩ := r.2 h2
    cases e
    refine ⟨q1, q2, ?_⟩
    cases r.1 with
    | ml ha _ _ => rw [ha]; simp
    | v _ => cases h2
    | ro _ _ => cases h2
    | fn _ => cases h2
  | _, _, .cons r t, ⟨j + 1, o, h1, h2, h3⟩ => AgRs.tmp t ⟨j, o, by simpa using h1, h2, by simpa using h3⟩
theorem evC_cons (cf : Nat → List Ob → CR) (lk : List Nat) (io : Bool) (e : IE) (es : IEs) (env : En) :
    evC cf lk (.cons io e es) env = (evC1 cf lk io e env).bind fun ag env => (evC cf lk es env).bind fun as env => .ok ((io, ag) :: as) env := by
  rw [evC, evC1]
  cases io with
  | false => rfl
  | true =>
    simp only [if_true]
    rw [evA1]
    all_goals cases e.isX <;> rfl
theorem args_cons {io : Bool} {ia : IE} {irs : IEs} (ha : PE X e (tArgC G cf lk cn W io ia)) (hr : PA X es (tArgs G cf lk cn W irs)) (hs : starEach (e :: es) X.env = (false, eval e X.env) :: starEach es X.env) :
    PA X (e :: es) (tArgs G cf lk cn W (.cons io ia irs)) := by
  refine PA.imp (pa_cons ha hr hs) fun σ H Q ⟨env, Fz, s, p⟩ => ?_
  rw [evC_cons] at p
  have p := p.split0
  refine ⟨env, Fz, s, p.mono fun ag env1 Fz1 H1 s1 f1 q x r => ?_⟩
  have q := q.split0.shift f1
  refine ⟨env1, Fz1, s1, q.mono fun as env2 Fz2 H2 s2 f2 q xs rs ds => ?_⟩
  refine q Fz2 H2 s2 (f1.trans f2) (x :: xs) (.cons (r.step f2) (rs.older f1)) ⟨fun o a e1 e2 e3 t => ?_, ds⟩
  have e1 : ag = .inr o := e1
  subst e1 e3
  have z := (rs.tmp t).1
  cases r.1 with
  | ml ha _ _ => rw [ha] at z; cases z
  | v _ => cases e2
  | ro _ _ => cases e2
  | fn _ => cases e2

theorem hands_at : ∀ {as : List (Bool × Ag)} {os : List Ob}, handsOk as os = true → ∀ (j : Nat) (o : Ob), os[j]? = some o → o.mut = true → ∃ ag, as[j]? = some (true, ag)
  | [], [], _, j, o, h, _ => by simp at h
  | (io, ag) :: r, o' :: os, h, 0, o, h1, h2 => by
    simp only [List.getElem?_cons_zero, Option.some.injEq] at h1
    subst h1
    rw [handsOk, Bool.and_eq_true] at h
    cases io with
    | true => exact ⟨ag, rfl⟩
    | false => have := h.1; simp [h2] at this
  | (io, ag) :: r, o' :: os, h, j + 1, o, h1, h2 => by
    rw [handsOk, Bool.and_eq_true] at h
    simpa using hands_at h.2 j o (by simpa using h1) h2
  | [], _ :: _, h, _, _, _, _ => by simp [handsOk] at h
  | _ :: _, [], h, _, _, _, _ => by simp [handsOk] at h
theorem io_mem : ∀ {as : List (Bool × Ag)} {j i : Nat}, as[j]? = some (true, .inl i) → i ∈ ioNames as
  | [], j, i, h => by simp at h
  | (true, .inl k) :: r, 0, i, h => by simp at h; subst h; simp [ioNames]
  | (true, .inl k) :: r, j + 1, i, h => by rw [ioNames]; exact List.mem_cons_of_mem _ (io_mem (j := j) (by simpa using h))
  | (false, _) :: r, 0, i, h => by simp at h
  | (false, _) :: r, j + 1, i, h => by rw [ioNames]; exact io_mem (j := j) (by simpa using h); all_goals (intros; simp_all)
  | (true, .inr _) :: r, 0, i, h => by simp at h
  | (true, .inr _) :: r, j + 1, i, h => by rw [ioNames]; exact io_mem (j := j) (by simpa using h); all_goals (intros; simp_all)
theorem io_inj : ∀ {as : List (Bool × Ag)} {j k i : Nat}, (ioNames as).Nodup → j ≠ k → as[j]? = some (true, .inl i) → as[k]? = some (true, .inl i) → False
  | [], j, k, i, _, _, h, _ => by simp at h
  | (true, .inl z) :: r, j, k, i, hn, hne, h1, h2 => by
    rw [ioNames, List.nodup_cons] at hn
    cases j with
    | zero =>
      cases k with
      | zero => exact hne rfl
      | succ k => simp at h1 h2; subst h1; exact hn.1 (io_mem h2)
    | succ j =>
      cases k with
      | zero => simp at h1 h2; subst h2; exact hn.1 (io_mem h1)
      | succ k => exact io_inj (j := j) (k := k) hn.2 (by omega) (by simpa using h1) (by simpa using h2)
  | (false, z) :: r, j, k, i, hn, hne, h1, h2 => by
    have hn : (ioNames r).Nodup := by rw [ioNames] at hn; exact hn; all_goals (intros; simp_all)
    cases j with
    | zero => simp at h1
    | succ j =>
      cases k with
      | zero => simp at h2
      | succ k => exact io_inj (j := j) (k := k) hn (by omega) (by simpa using h1) (by simpa using h2)
  | (true, .inr z) :: r, j, k, i, hn, hne, h1, h2 => by
    have hn : (ioNames r).Nodup := by rw [ioNames] at hn; exact hn; all_goals (intros; simp_all)
    cases j with
    | zero => simp at h1
    | succ j =>
      cases k with
      | zero => simp at h2
      | succ k => exact io_inj (j := j) (k := k) hn (by omega) (by simpa using h1) (by simpa using h2)
theorem Dst.at : ∀ {ags : List Ag} {xs : List V}, Dst ags xs → ∀ {j k : Nat} {a : Addr} {oj ok : Ob}, j < k → ags[j]? = some (.inr oj) → oj.mut = true → xs[j]? = some (.ref a) → ags[k]? = some (.inr ok) → ok.mut = true → xs[k]? = some (.ref a) → False
  | [], _, _, j, k, a, oj, ok, _, h, _, _, _, _, _ => by simp at h
  | _ :: _, [], _, j, k, a, oj, ok, _, _, _, h, _, _, _ => by simp at h
  | ag :: ags, x :: xs, d, 0, k + 1, a, oj, ok, hlt, h1, m1, e1, h2, m2, e2 => d.1 oj a (by simpa using h1) m1 (by simpa using e1) ⟨k, ok, by simpa using h2, m2, by simpa using e2⟩
  | ag :: ags, x :: xs, d, 0, 0, a, oj, ok, hlt, h1, m1, e1, h2, m2, e2 => by omega
  | ag :: ags, x :: xs, d, j + 1, 0, a, oj, ok, hlt, h1, m1, e1, h2, m2, e2 => by omega
  | ag :: ags, x :: xs, d, j + 1, k + 1, a, oj, ok, hlt, h1, m1, e1, h2, m2, e2 => Dst.at d.2 (j := j) (k := k) (by omega) (by simpa using h1) m1 (by simpa using e1) (by simpa using h2) m2 (by simpa using e2)
theorem resolve_at {env : En} : ∀ {ags : List Ag} {os : List Ob}, resolve env ags = some os → ∀ (j : Nat) (ag : Ag) (o : Ob), ags[j]? = some ag → os[j]? = some o → match ag with
    | .inl i => env[i]? = some (some o)
    | .inr o' => o' = o
  | [], os, h, j, ag, o, h1, _ => by simp at h1
  | ag0 :: ags, os, h, j, ag, o, h1, h2 => by
    obtain ⟨o0, os0, rfl⟩ := resolve_cons h
    cases ag0 with
    | inl i =>
      rw [resolve] at h
      split at h
      · rename_i a b c d
        cases h
        cases j with
        | zero => simp at h1 h2; subst h1 h2; exact c
        | succ j => exact resolve_at d j ag o (by simpa using h1) (by simpa using h2)
      · cases h
    | inr o' =>
      rw [resolve, Option.map_eq_some_iff] at h
      obtain ⟨os', q1, q2⟩ := h
      cases q2
      cases j with
      | zero => simp at h1 h2; subst h1 h2; rfl
      | succ j => exact resolve_at q1 j ag o (by simpa using h1) (by simpa using h2)
theorem AgRs.at {env : En} {σ : St} {Fz H H0 : Hp} : ∀ {ags : List Ag} {xs : List V}, AgRs G env σ Fz H H0 ags xs → ∀ (j : Nat) (ag : Ag), ags[j]? = some ag → ∃ x, xs[j]? = some x ∧ AgR G ag x env σ Fz H H0
  | _, _, .nil, j, ag, h => by simp at h
  | _, _, .cons r t, 0, ag, h => by simp at h; subst h; exact ⟨_, rfl, r⟩
  | _, _, .cons r t, j + 1, ag, h => by simpa using AgRs.at t j ag (by simpa using h)
/-- where a changed argument comes from: a name's list, or a new one -/
theorem ownA_cases {env : En} {σ : St} {Fz H H0 : Hp} {as : List (Bool × Ag)} {os : List Ob} {xs : List V} (rs : AgRs G env σ Fz H H0 (as.map (·.2)) xs) (hr : resolve env (as.map (·.2)) = some os) (hh : handsOk as os = true)
    {j : Nat} {o : Ob} {a : Addr} (h1 : os[j]? = some o) (h2 : o.mut = true) (h3 : xs[j]? = some (.ref a)) :
    (∃ i, as[j]? = some (true, .inl i) ∧ env[i]? = some (some o) ∧ σ[i]? = some (some (.ref a))) ∨ ((as.map (·.2))[j]? = some (.inr o) ∧ H0 a = none ∧ ¬ Own env σ a) := by
  obtain ⟨ag, e⟩ := hands_at hh j o h1 h2
  have e' : (as.map (·.2))[j]? = some ag := by rw [List.getElem?_map, e]; rfl
  have q := resolve_at hr j ag o e' h1
  obtain ⟨x, e3, r⟩ := rs.at j ag e'
  rw [h3] at e3
  cases e3
  cases ag with
  | inl i => exact .inl ⟨i, e, q, r⟩
  | inr o' =>
    have q : o' = o := q
    subst q
    obtain ⟨b, eb, q1, q2⟩ := r.2 h2
    cases eb
    exact .inr ⟨e', q1, q2⟩
theorem hands_apart {env : En} {σ : St} {Fz H H0 : Hp} {as : List (Bool × Ag)} {os : List Ob} {xs : List V} (s : StOk G env σ Fz H) (rs : AgRs G env σ Fz H H0 (as.map (·.2)) xs) (ds : Dst (as.map (·.2)) xs)
    (hr : resolve env (as.map (·.2)) = some os) (hh : handsOk as os = true) (hn : (ioNames as).Nodup) :
    ∀ (i j : Nat) (a : Addr) (oi oj : Ob), i ≠ j → os[i]? = some oi → os[j]? = some oj → oi.mut = true → oj.mut = true → xs[i]? = some (.ref a) → xs[j]? = some (.ref a) → False := by
  intro i j a oi oj hne h1 h2 m1 m2 e1 e2
  rcases ownA_cases rs hr hh h1 m1 e1 with ⟨k1, p1, p2, p3⟩ | ⟨p1, p2, p3⟩
  · rcases ownA_cases rs hr hh h2 m2 e2 with ⟨k2, q1, q2, q3⟩ | ⟨q1, q2, q3⟩
    · by_cases hk : k1 = k2
      · subst hk; exact io_inj hn hne p1 q1
      · exact s.sep k1 k2 a _ _ hk p2 q2 m1 m2 p3 q3
    · exact q3 ⟨k1, oi, p2, m1, p3⟩
  · rcases ownA_cases rs hr hh h2 m2 e2 with ⟨k2, q1, q2, q3⟩ | ⟨q1, q2, q3⟩
    · exact p3 ⟨k2, oj, q2, m2, q3⟩
    · rcases Nat.lt_or_gt_of_ne hne with z | z
      · exact ds.at z p1 m1 e1 q1 m2 e2
      · exact ds.at z q1 m2 e2 p1 m1 e1
end
end Pv
-- PvCall2
set_option maxRecDepth 100000
namespace Pv
open PySem L2
section
variable {G : Gx}
theorem ioNames_false {ag : Ag} {r : List (Bool × Ag)} : ioNames ((false, ag) :: r) = ioNames r := by rw [ioNames]; all_goals (intros; simp_all)
theorem ioNames_tmp {o : Ob} {r : List (Bool × Ag)} : ioNames ((true, .inr o) :: r) = ioNames r := by rw [ioNames]; all_goals (intros; simp_all)
theorem putBack_ok {Fz' H' : Hp} : ∀ (as : List (Bool × Ag)) (os : List Ob) (xs : List V) (outs : List Ob) (env env' : En), handsOk as os = true → Outs G Fz' H' os xs outs → (ioNames as).Nodup → (∀ i ∈ ioNames as, i < env.length) →
    putBack env as outs = some env' → env'.length = env.length ∧ (∀ i, i ∉ ioNames as → env'[i]? = env[i]?) ∧ ∀ (j i : Nat) (x : V), as[j]? = some (true, .inl i) → xs[j]? = some x → ∃ out, env'[i]? = some (some out) ∧ RO G Fz' H' out x
  | [], [], xs, outs, env, env', hh, ho, hn, hl, h => by
    cases outs with
    | nil => rw [putBack] at h; cases h; exact ⟨rfl, fun _ _ => rfl, fun j i x h => by simp at h⟩
    | cons o r => simp [putBack] at h
  | (false, ag) :: r, o :: os, x :: xs, outs, env, env', hh, ho, hn, hl, h => by
    rw [handsOk, Bool.and_eq_true] at hh
    have hm : o.mut = false := by simpa using hh.1
    rw [Outs_cons, if_neg (by simp [hm])] at ho
    rw [ioNames_false] at hn hl
    rw [putBack] at h
    obtain ⟨q1, q2, q3⟩ := putBack_ok r os xs outs env env' hh.2 ho hn hl h
    refine ⟨q1, by rw [ioNames_false]; exact q2, fun j i y e1 e2 => ?_⟩
    cases j with
    | zero => simp at e1
    | succ j => exact q3 j i y (by simpa using e1) (by simpa using e2)
  | (true, .inr o') :: r, o :: os, x :: xs, outs, env, env', hh, ho, hn, hl, h => by
    rw [handsOk, Bool.and_eq_true] at hh
    have hm : o.mut = true := by simpa using hh.1
    rw [Outs_cons, if_pos hm] at ho
    rw [ioNames_tmp] at hn hl
    obtain ⟨out, outs, rfl, ho⟩ := ho
    · rw [putBack] at h
      obtain ⟨q1, q2, q3⟩ := putBack_ok r os xs outs env env' hh.2 ho.2 hn hl h
      refine ⟨q1, by rw [ioNames_tmp]; exact q2, fun j i y e1 e2 => ?_⟩
      cases j with
      | zero => simp at e1
      | succ j => exact q3 j i y (by simpa using e1) (by simpa using e2)
  | (true, .inl k) :: r, o :: os, x :: xs, outs, env, env', hh, ho, hn, hl, h => by
    rw [handsOk, Bool.and_eq_true] at hh
    have hm : o.mut = true := by simpa using hh.1
    rw [Outs_cons, if_pos hm] at ho
    rw [ioNames, List.nodup_cons] at hn
    obtain ⟨out, outs, rfl, ho⟩ := ho
    · rw [putBack] at h
      have hk : k < env.length := hl k (by simp [ioNames])
      obtain ⟨q1, q2, q3⟩ := putBack_ok r os xs outs (env.set k (some out)) env' hh.2 ho.2 hn.2 (fun i hi => by rw [List.length_set]; exact hl i (by rw [ioNames]; exact List.mem_cons_of_mem _ hi)) h
      refine ⟨by rw [q1, List.length_set], fun i hi => ?_, fun j i y e1 e2 => ?_⟩
      · rw [ioNames] at hi
        simp only [List.mem_cons, not_or] at hi
        rw [q2 i hi.2, List.getElem?_set_ne (fun e => hi.1 e.symm)]
      · cases j with
        | zero =>
          simp at e1 e2
          subst e1 e2
          exact ⟨out, by rw [q2 k hn.1, List.getElem?_set_self hk], ho.1⟩
        | succ j => exact q3 j i y (by simpa using e1) (by simpa using e2)
  | (_, _) :: _, [], _, _, _, _, hh, _, _, _, _ => by simp [handsOk] at hh
  | [], _ :: _, _, _, _, _, hh, _, _, _, _ => by simp [handsOk] at hh
  | (_, _) :: _, o :: os, [], _, _, _, _, ho, _, _, _ => by simp [Outs] at ho
theorem wipeL_length : ∀ (l : List Nat) (env : En), (wipeL env l).length = env.length
  | [], _ => rfl
  | i :: l, env => by
    show (wipeL (env.set i none) l).length = _
    rw [wipeL_length l, List.length_set]
theorem wipeL_some : ∀ (l : List Nat) (env : En) {i : Nat} {o : Ob}, (wipeL env l)[i]? = some (some o) → env[i]? = some (some o) ∧ i ∉ l
  | [], _, _, _, h => ⟨h, by simp⟩
  | k :: l, env, i, o, h => by
    have h : (wipeL (env.set k none) l)[i]? = some (some o) := h
    obtain ⟨h1, h2⟩ := wipeL_some l _ h
    by_cases e : k = i
    · subst e
      by_cases hk : k < env.length
      · rw [List.getElem?_set_self hk] at h1; cases h1
      · rw [List.getElem?_eq_none (by rw [List.length_set]; omega)] at h1; cases h1
    · rw [List.getElem?_set_ne e] at h1
      exact ⟨h1, by simp only [List.mem_cons, not_or]; exact ⟨fun z => e z.symm, h2⟩⟩
theorem wipeL_own {l : List Nat} {env : En} {σ : St} {a : Addr} (h : Own (wipeL env l) σ a) : Own env σ a := by
  obtain ⟨i, o, h1, h2, h3⟩ := h
  exact ⟨i, o, (wipeL_some l env h1).1, h2, h3⟩
theorem StOk.wipe {env : En} {σ : St} {Fz H : Hp} (s : StOk G env σ Fz H) (l : List Nat) : StOk G (wipeL env l) σ Fz H :=
  ⟨by rw [wipeL_length]; exact s.len, s.sub, fun i o h => s.rep i o (wipeL_some l env h).1, fun i j a oi oj hne h1 h2 m1 m2 e1 e2 => s.sep i j a oi oj hne (wipeL_some l env h1).1 (wipeL_some l env h2).1 m1 m2 e1 e2⟩

/-- behind a call, back in the caller -/
theorem call_back {cn : Nat → Str} {W : WX} {env0 env : En} {σ : St} {Fz0 H0 Fz H : Hp} {as : List (Bool × Ag)} {os : List Ob} {xs : List V} {r : CR} {Q : VK}
    (s : StOk G env σ Fz H) (f : FrO (Own env0 σ) (Own env σ) Fz0 H0 Fz H) (rs : AgRs G env σ Fz H H0 (as.map (·.2)) xs) (ds : Dst (as.map (·.2)) xs)
    (hr : resolve env (as.map (·.2)) = some os) (hh : handsOk as os = true) (hn : (ioNames as).Nodup)
    (p : PostE G cn W env0 σ Fz0 H0 (endCall as env r) (KV' G Q env0 σ H0)) : CallPost G cn Fz H os xs r Q (fun cls d H' => W cls d σ H') := by
  have back : ∀ a, H0 a ≠ none → ¬ Own env0 σ a → ¬ OwnA os xs a := fun a h0 nO ⟨j, o, h1, h2, h3⟩ => by
    rcases ownA_cases rs hr hh h1 h2 h3 with ⟨i, q1, q2, q3⟩ | ⟨q1, q2, q3⟩
    · exact (f.ow a ⟨i, o, q2, h2, q3⟩).elim nO h0
    · exact h0 q2
  have notA : ∀ (i : Nat) (o : Ob) (a : Addr), env[i]? = some (some o) → o.mut = true → σ[i]? = some (some (.ref a)) → i ∉ ioNames as → ¬ OwnA os xs a := fun i o a h1 h2 h3 hi ⟨j, o', p1, p2, p3⟩ => by
    rcases ownA_cases rs hr hh p1 p2 p3 with ⟨k, q1, q2, q3⟩ | ⟨q1, q2, q3⟩
    · have hk : i ≠ k := fun e => hi (e ▸ io_mem q1)
      exact s.sep i k a o o' hk h1 q2 h2 p2 h3 q3
    · exact q3 ⟨i, o, h1, h2, h3⟩
  have fr : ∀ {Fz' H' : Hp} {O : Addr → Prop}, FrO (OwnA os xs) (OwnA os xs) Fz H Fz' H' → (∀ a, O a → Own env σ a) → FrO (Own env0 σ) O Fz0 H0 Fz' H' := fun {Fz' H' O} g hO =>
    ⟨fun a o h n => g.hh a o (f.hh a o h n) (back a (by rw [h]; simp) n), fun a h => g.dm a (f.dm a h), f.ff.trans g.ff,
      fun a h n z => g.nw a (f.dm a h) (back a h n) (f.nw a h n z), fun a h => f.ow a (hO a h)⟩
  have keep : ∀ {Fz' H' : Hp} (i : Nat) (o : Ob), FrO (OwnA os xs) (OwnA os xs) Fz H Fz' H' → env[i]? = some (some o) → i ∉ ioNames as → ∃ v, σ[i]? = some (some v) ∧ RO G Fz' H' o v := fun {Fz' H'} i o g h1 hi => by
    obtain ⟨v, e1, e2⟩ := s.rep i o h1
    refine ⟨v, e1, e2.step g fun m => ?_⟩
    cases e2 with
    | @ml a vs ys ha hb hc => exact ⟨a, rfl, notA i _ a h1 m e1 hi⟩
    | v _ => cases m
    | ro _ _ => cases m
    | fn _ => cases m
  cases r with
  | no => exact p
  | exc c ys =>
    intro cls d Fz' H' sub g ex
    have p : PostE G cn W env0 σ Fz0 H0 (.ex c ys (wipeL env (ioNames as))) (KV' G Q env0 σ H0) := p
    refine p cls d Fz' H' ⟨by rw [wipeL_length]; exact s.len, sub, fun i o h => ?_, ?_⟩ (fr g fun a h => wipeL_own h) ex
    · obtain ⟨h1, h2⟩ := wipeL_some _ _ h
      exact keep i o g h1 h2
    · intro i j a oi oj hne h1 h2 m1 m2 e1 e2
      exact s.sep i j a oi oj hne (wipeL_some _ _ h1).1 (wipeL_some _ _ h2).1 m1 m2 e1 e2
  | ret ob outs =>
    intro v Fz' H' sub ro outsOk g fsh
    rw [endCall] at p
    split at p
    · rename_i env' he
      have hl : ∀ i ∈ ioNames as, ∃ j : Nat, as[j]? = some (true, Sum.inl i) := by
        clear p he outsOk keep fr notA back hn hh hr ds rs
        induction as with
        | nil => intro i hi; simp [ioNames] at hi
        | cons x r ih =>
          obtain ⟨b, ag⟩ := x
          intro i hi
          cases b with
          | false => rw [ioNames_false] at hi; obtain ⟨j, hj⟩ := ih i hi; exact ⟨j + 1, by simpa using hj⟩
          | true =>
            cases ag with
            | inr o => rw [ioNames_tmp] at hi; obtain ⟨j, hj⟩ := ih i hi; exact ⟨j + 1, by simpa using hj⟩
            | inl k =>
              rw [ioNames, List.mem_cons] at hi
              rcases hi with e | hi
              · subst e; exact ⟨0, rfl⟩
              · obtain ⟨j, hj⟩ := ih i hi; exact ⟨j + 1, by simpa using hj⟩
      -- a changed name's slot
      have slot : ∀ i ∈ ioNames as, ∃ (j : Nat) (o : Ob) (x : V), as[j]? = some (true, .inl i) ∧ os[j]? = some o ∧ o.mut = true ∧ xs[j]? = some x ∧ env[i]? = some (some o) ∧ σ[i]? = some (some x) := fun i hi => by
        obtain ⟨j, hj⟩ := hl i hi
        have hj' : (as.map (·.2))[j]? = some (.inl i) := by rw [List.getElem?_map, hj]; rfl
        obtain ⟨x, e3, r⟩ := rs.at j _ hj'
        have hjl : j < os.length := by
          have e1 := (rs.res s hr).length
          have e2 : j < xs.length := (List.getElem?_eq_some_iff.mp e3).1
          omega
        obtain ⟨o, ho⟩ : ∃ o, os[j]? = some o := ⟨os[j], List.getElem?_eq_getElem hjl⟩
        have q := resolve_at hr j _ o hj' ho
        refine ⟨j, o, x, hj, ho, ?_, e3, q, r⟩
        clear fr notA back keep p he outsOk hl
        have : ∀ (as : List (Bool × Ag)) (os : List Ob) (j : Nat), handsOk as os = true → as[j]? = some (true, .inl i) → os[j]? = some o → o.mut = true := by
          intro as
          induction as with
          | nil => intro os j _ h _; simp at h
          | cons x r ih =>
            intro os j hh h1 h2
            obtain ⟨b, ag⟩ := x
            cases os with
            | nil => simp at h2
            | cons o' os' =>
              rw [handsOk, Bool.and_eq_true] at hh
              cases j with
              | zero =>
                simp at h1 h2
                obtain ⟨rfl, rfl⟩ := h1
                subst h2
                simpa using hh.1
              | succ j => exact ih os' j hh.2 (by simpa using h1) (by simpa using h2)
        exact this as os j hh hj ho
      obtain ⟨q1, q2, q3⟩ := putBack_ok as os xs outs env env' hh outsOk hn (fun i hi => by
        obtain ⟨j, o, x, _, _, _, _, e, _⟩ := slot i hi
        exact (List.getElem?_eq_some_iff.mp e).1) he
      have old : ∀ (i : Nat) (o : Ob), env'[i]? = some (some o) → o.mut = true → ∃ o', env[i]? = some (some o') ∧ o'.mut = true := fun i o h m => by
        by_cases hi : i ∈ ioNames as
        · obtain ⟨j, o', x, _, _, m', _, e, _⟩ := slot i hi
          exact ⟨o', e, m'⟩
        · rw [q2 i hi] at h
          exact ⟨o, h, m⟩
      have own : ∀ a, Own env' σ a → Own env σ a := fun a ⟨i, o, h1, h2, h3⟩ => by
        obtain ⟨o', e, m⟩ := old i o h1 h2
        exact ⟨i, o', e, m, h3⟩
      have s' : StOk G env' σ Fz' H' := by
        refine ⟨by rw [q1]; exact s.len, sub, fun i o h => ?_, fun i j a oi oj hne h1 h2 m1 m2 e1 e2 => ?_⟩
        · by_cases hi : i ∈ ioNames as
          · obtain ⟨j, o', x, z1, z2, z3, z4, z5, z6⟩ := slot i hi
            obtain ⟨out, w1, w2⟩ := q3 j i x z1 z4
            rw [h] at w1
            cases w1
            exact ⟨x, z6, w2⟩
          · rw [q2 i hi] at h
            exact keep i o g h hi
        · obtain ⟨o1, z1, z2⟩ := old i oi h1 m1
          obtain ⟨o2, z3, z4⟩ := old j oj h2 m2
          exact s.sep i j a o1 o2 hne z1 z3 z2 z4 e1 e2
      refine p Fz' H' s' (fr g own) v ro fun m => ?_
      obtain ⟨a, e, ha⟩ := fsh m
      refine ⟨a, e, ?_, fun z => ?_⟩
      · cases w : H0 a with
        | none => rfl
        | some o => exact absurd ha (f.dm a (by rw [w]; simp))
      · obtain ⟨i, o, h1, h2, h3⟩ := own a z
        obtain ⟨w, e4, e5⟩ := s.rep i o h1
        rw [h3] at e4
        cases e4
        cases e5 with
        | ml hb _ _ => rw [hb] at ha; cases ha
        | v _ => cases h2
        | ro _ _ => cases h2
        | fn _ => cases h2
    · exact p.elim
end

section
variable {X : Cx} {G : Gx} {cf : Nat → List Ob → CR} {lk : List Nat} {cn : Nat → Str} {W : WX}
theorem paired_flip {os : List Ob} {xs : List V} {Fz H : Hp} (h : Paired (fun (x : V) (o : Ob) => RO G Fz H o x) xs os) : xs.length = os.length := h.length
/-- the call's reading -/
theorem call_tE {f np : Nat} {es : IEs} {σ : St} {H : Hp} {Q : VK} (hnp : ∀ obs, cf f obs ≠ .no → obs.length = np) (h : tE G cf lk cn W (.call f es) σ H Q) :
    tArgs G cf lk cn W es σ H fun vs H1 => spF G cf cn np f vs H1 Q (WE W σ) := by
  obtain ⟨env, Fz, s, p⟩ := h
  rw [evE] at p
  have p := p.split0
  refine ⟨env, Fz, s, p.mono fun as env1 Fz1 H1 s1 f1 q xs rs ds => ?_⟩
  rw [doCall] at q
  split at q
  · rename_i os hr
    split at q
    · rename_i hc
      rw [Bool.and_eq_true] at hc
      obtain ⟨hh, hn⟩ := hc
      have hn := of_decide_eq_true hn
      have c := call_back s1 f1 rs ds hr hh hn q
      have ro := rs.res s1 hr
      refine ⟨?_, Fz1, os, s1.sub, ro, hands_apart s1 rs ds hr hh hn, c⟩
      have : os.length = np := hnp os fun e => by rw [e] at c; exact c.elim
      rw [ro.length, this]
    · exact q.elim
  · exact q.elim
end
end Pv
-- PvExpr2
set_option maxRecDepth 100000
namespace Pv
open PySem L2
section
variable {G : Gx} {cn : Nat → Str} {W : WX} {σ : St}
/-- a new list is given away -/
theorem freezeTmp {env0 env : En} {Fz0 H0 Fz H : Hp} (s : StOk G env σ Fz H) (f : FrO (Own env0 σ) (Own env σ) Fz0 H0 Fz H) {xs : List PV} {v : V} (r : RO G Fz H (.ml xs) v) (fs : Fsh (.ml xs) v env σ H0) :
    ∃ Fz', StOk G env σ Fz' H ∧ FrO (Own env0 σ) (Own env σ) Fz0 H0 Fz' H ∧ RF G.K Fz' v (.list xs) := by
  obtain ⟨a, e, h0, no⟩ := fs rfl
  subst e
  cases r with
  | @ml _ vs _ ha hr hf =>
    have ff : Same Fz (upd Fz a (.lst vs)) := Same.upd hf
    refine ⟨upd Fz a (.lst vs), ⟨s.len, fun b u h => ?_, fun i o h => ?_, s.sep⟩, ⟨f.hh, f.dm, f.ff.trans ff, fun b hb nb hz => ?_, f.ow⟩, .lst upd_same (hr.mono ff)⟩
    · by_cases e : b = a
      · subst e; rw [upd_same] at h; cases h; exact ha
      · rw [upd_ne e] at h; exact s.sub b u h
    · obtain ⟨w, w1, w2⟩ := s.rep i o h
      refine ⟨w, w1, ?_⟩
      cases w2 with
      | v r => exact .v (r.mono ff)
      | ro p q => exact .ro (SqL.mono ff p) (q.mono ff)
      | @ml b ws _ p q z =>
        refine .ml p (q.mono ff) ?_
        have : b ≠ a := fun e => by subst e; exact no ⟨i, _, h, rfl, w1⟩
        rw [upd_ne this]; exact z
      | fn p => exact .fn p
    · have : b ≠ a := fun e => by subst e; exact hb h0
      rw [upd_ne this]; exact f.nw b hb nb hz
end
section
variable (G : Gx) (cf : Nat → List Ob → CR) (lk : List Nat) (cn : Nat → Str) (W : WX)
/-- a value that never changes from now on -/
def evZ (ir : IE) (env : En) : Rs PV := (evE cf lk ir env).bind fzR
def tFz (ir : IE) : TE := fun σ H Q => ∃ env Fz, StOk G env σ Fz H ∧ PostE G cn W env σ Fz H (evZ cf lk ir env) fun d env' Fz' H' => ∀ x, RF G.K Fz' x d → Q x H'
def tFs (irs : IEs) : TA := fun σ H Q => ∃ env Fz, StOk G env σ Fz H ∧ PostE G cn W env σ Fz H (evF cf lk irs env) fun ds env' Fz' H' => ∀ xs, RFs G.K Fz' xs ds → Q xs H'
end
theorem Rs.assoc {α β γ : Type} (r : Rs α) (f : α → En → Rs β) (g : β → En → Rs γ) : (r.bind f).bind g = r.bind fun a e => (f a e).bind g := by
  cases r <;> rfl
theorem evF_cons (cf : Nat → List Ob → CR) (lk : List Nat) (io : Bool) (e : IE) (es : IEs) (env : En) :
    evF cf lk (.cons io e es) env = (evZ cf lk e env).bind fun d env => (evF cf lk es env).bind fun ds env => .ok (d :: ds) env := by
  rw [evF, evZ, Rs.assoc]
section
variable {X : Cx} {G : Gx} {cf : Nat → List Ob → CR} {lk : List Nat} {cn : Nat → Str} {W : WX} {e : Expr} {es : List Expr}
theorem fz_ro {o : Ob} {env0 env : En} {σ : St} {Fz0 H0 Fz H : Hp} {v : V} {K : PV → En → Hp → Hp → Prop} (s : StOk G env σ Fz H) (f : FrO (Own env0 σ) (Own env σ) Fz0 H0 Fz H) (r : RO G Fz H o v) (fs : Fsh o v env σ H0)
    (p : PostE G cn W env0 σ Fz0 H0 (fzR o env) K) : ∃ d Fz', fzR o env = .ok d env ∧ StOk G env σ Fz' H ∧ FrO (Own env0 σ) (Own env σ) Fz0 H0 Fz' H ∧ RF G.K Fz' v d := by
  cases r with
  | @v _ d r =>
    have nd : fzR (.v d) env = .ok d env := by
      cases r <;> rfl
    exact ⟨d, Fz, nd, s, f, r⟩
  | ro a b => exact p.elim
  | @ml a vs xs p1 p2 p3 =>
    obtain ⟨Fz', q1, q2, q3⟩ := freezeTmp s f (.ml p1 p2 p3) fs
    exact ⟨_, Fz', rfl, q1, q2, q3⟩
  | fn _ => exact p.elim
theorem fz_of {ir : IE} (h : PE X e (tE G cf lk cn W ir)) : PE X e (tFz G cf lk cn W ir) := by
  refine PE.imp h fun σ H Q ⟨env, Fz, s, p⟩ => ?_
  rw [evZ] at p
  have p := p.split0
  refine ⟨env, Fz, s, p.mono fun o env1 Fz1 H1 s1 f1 q v r fs => ?_⟩
  obtain ⟨d, Fz', e1, s2, f2, rf⟩ := fz_ro s1 f1 r fs q
  rw [e1] at q
  exact q Fz' H1 s2 f2 v rf
theorem fs_nil : PA X [] (tFs G cf lk cn W .nil) := by
  refine PA.imp pa_nil fun σ H Q ⟨env, Fz, s, p⟩ => ?_
  rw [evF] at p
  exact p.ok s [] .nil
theorem fs_cons {io : Bool} {ia : IE} {irs : IEs} (ha : PE X e (tFz G cf lk cn W ia)) (hr : PA X es (tFs G cf lk cn W irs)) (hs : starEach (e :: es) X.env = (false, eval e X.env) :: starEach es X.env) :
    PA X (e :: es) (tFs G cf lk cn W (.cons io ia irs)) := by
  refine PA.imp (pa_cons ha hr hs) fun σ H Q ⟨env, Fz, s, p⟩ => ?_
  rw [evF_cons] at p
  refine ⟨env, Fz, s, p.split0.mono fun d env1 Fz1 H1 s1 f1 q x r => ?_⟩
  refine ⟨env1, Fz1, s1, (q.split0.shift f1).mono fun ds env2 Fz2 H2 s2 f2 q xs rs => ?_⟩
  exact q Fz2 H2 s2 (f1.trans f2) (x :: xs) (.cons (r.mono f2.ff) rs)
theorem tE_tup {k : Nat} {pos : Pos} {irs : IEs} (h : PA X es (tFs G cf lk cn W irs)) : PE X (.Tuple es k pos) (tE G cf lk cn W (.tup irs)) := by
  refine PE.imp (pe_tup h) fun σ H Q ⟨env, Fz, s, p⟩ => ?_
  rw [evE] at p
  refine ⟨env, Fz, s, p.split0.mono fun ds env1 Fz1 H1 s1 f1 q xs rs => ?_⟩
  split at q
  · rename_i hl
    have rs' := opEnd s1 f1 q
    exact ⟨by rw [rs.length]; exact hl, rs'.tup s1.sub rs⟩
  · exact q.elim
theorem tE_lst {pos : Pos} {irs : IEs} (h : PA X es (tFs G cf lk cn W irs)) : PE X (.List es pos) (tE G cf lk cn W (.lst irs)) := by
  refine PE.imp (pe_lst h) fun σ H Q ⟨env, Fz, s, p⟩ => ?_
  rw [evE] at p
  refine ⟨env, Fz, s, p.split0.mono fun ds env1 Fz1 H1 s1 f1 q xs rs => ?_⟩
  split at q
  · rename_i hl
    have rs' := opEnd s1 f1 q
    exact ⟨by rw [rs.length]; exact hl, rs'.lst s1.sub rs⟩
  · exact q.elim

theorem strLen_ne {y : Str} : ((y.length : Int) != 0) = (y.length != 0) := by
  by_cases h : y.length = 0
  · simp [h]
  · have : ((y.length : Int) != 0) = true := by simpa using h
    rw [this]; simp [h]
theorem VW.tru {Fz H : Hp} {x : V} {d : PV} {k : Bool} (h : VW G.K Fz H x d) (sub : Same Fz H)  (ht : truth d = some k) : TruV G.K x H k := by
  cases d with
  | none => cases h.non; cases ht; exact rfl
  | bool b => cases h.bl; cases ht; exact rfl
  | int i => cases h.int; cases ht; exact rfl
  | str y =>
    obtain ⟨rfl, _⟩ := h.str
    rw [truth] at ht
    obtain ⟨hl, rfl⟩ := ite_some ht
    exact ⟨hl, strLen_ne.symm⟩
  | list xs =>
    obtain ⟨a, vs, rfl, ha, ra⟩ := h.list sub
    cases ht
    refine .inl ⟨vs, SqL.of ha, ?_⟩
    cases ra <;> rfl
  | tuple xs =>
    obtain ⟨a, vs, rfl, ha, ra, _⟩ := h.tuple sub
    cases ht
    refine .inr (.inl ⟨vs, ha, ?_⟩)
    cases ra <;> rfl
  | dict _ => cases ht

theorem truR_ro {o : Ob} {env : En} {Fz H : Hp} {x : V} {σ : St} (s : StOk G env σ Fz H) (r : RO G Fz H o x) (p : truR o env ≠ .no) :
    ∃ k, truR o env = .ok k env ∧ TruV G.K x H k := by
  unfold truR at p ⊢
  cases e : o.view with
  | none => rw [e] at p; exact absurd rfl p
  | some d =>
    rw [e] at p
    cases e2 : truth d with
    | none => simp only [Option.bind_some, e2, optR_none] at p; exact absurd rfl p
    | some k => exact ⟨k, by simp only [Option.bind_some, e2, optR_some], (r.view e).tru s.sub e2⟩
theorem PostE.nno {α β : Type} {env0 : En} {σ : St} {Fz0 H0 : Hp} {K : β → En → Hp → Hp → Prop} {r : Rs α} {k : α → En → Rs β} (p : PostE G cn W env0 σ Fz0 H0 (r.bind k) K) : r ≠ .no := fun e => by rw [e] at p; exact p
theorem PostE.nno1 {β : Type} {env0 : En} {σ : St} {Fz0 H0 : Hp} {K : β → En → Hp → Hp → Prop} {r : Rs β} (p : PostE G cn W env0 σ Fz0 H0 r K) : r ≠ .no := fun e => by rw [e] at p; exact p
theorem tE_and {a b : Expr} {rest : List Expr} {pos : Pos} {ia ib : IE} (hK : X.K = G.K) (ha : PE X a (tE G cf lk cn W ia)) (hb : PE X (.BoolOp .And (b :: rest) pos) (tE G cf lk cn W ib)) :
    PE X (.BoolOp .And (a :: b :: rest) pos) (tE G cf lk cn W (.and ia ib)) := by
  refine PE.imp (pe_andT ha hb) fun σ H Q ⟨env, Fz, s, p⟩ => ?_
  rw [evE] at p
  refine ⟨env, Fz, s, p.split0.mono fun o env1 Fz1 H1 s1 f1 q x r fs => ?_⟩
  obtain ⟨k, e, ht⟩ := truR_ro s1 r (PostE.nno q)
  rw [e] at q
  refine ⟨k, hK ▸ ht, ?_⟩
  cases k with
  | true =>
    rw [if_pos rfl]
    refine ⟨env1, Fz1, s1, ?_⟩
    have q : PostE G cn W env σ Fz H (evE cf lk ib env1) (KV' G Q env σ H) := q
    exact (q.shift f1).mono fun ob env2 Fz2 H2 s2 f2 q v r2 fs2 => q v r2 (fs2.older f1)
  | false =>
    rw [if_neg (by simp)]
    exact q Fz1 H1 s1 f1 x r fs
theorem tE_or {a b : Expr} {rest : List Expr} {pos : Pos} {ia ib : IE} (hK : X.K = G.K) (ha : PE X a (tE G cf lk cn W ia)) (hb : PE X (.BoolOp .Or (b :: rest) pos) (tE G cf lk cn W ib)) :
    PE X (.BoolOp .Or (a :: b :: rest) pos) (tE G cf lk cn W (.or ia ib)) := by
  refine PE.imp (pe_orT ha hb) fun σ H Q ⟨env, Fz, s, p⟩ => ?_
  rw [evE] at p
  refine ⟨env, Fz, s, p.split0.mono fun o env1 Fz1 H1 s1 f1 q x r fs => ?_⟩
  obtain ⟨k, e, ht⟩ := truR_ro s1 r (PostE.nno q)
  rw [e] at q
  refine ⟨k, hK ▸ ht, ?_⟩
  cases k with
  | true =>
    rw [if_pos rfl]
    exact q Fz1 H1 s1 f1 x r fs
  | false =>
    rw [if_neg (by simp)]
    refine ⟨env1, Fz1, s1, ?_⟩
    have q : PostE G cn W env σ Fz H (evE cf lk ib env1) (KV' G Q env σ H) := q
    exact (q.shift f1).mono fun ob env2 Fz2 H2 s2 f2 q v r2 fs2 => q v r2 (fs2.older f1)
theorem tE_not {a : Expr} {pos : Pos} {ia : IE} (hK : X.K = G.K) (ha : PE X a (tE G cf lk cn W ia)) : PE X (.UnaryOp .Not a pos) (tE G cf lk cn W (.not ia)) := by
  refine PE.imp (pe_notT ha) fun σ H Q ⟨env, Fz, s, p⟩ => ?_
  rw [evE] at p
  refine ⟨env, Fz, s, p.split0.mono fun o env1 Fz1 H1 s1 f1 q x r fs => ?_⟩
  obtain ⟨k, e, ht⟩ := truR_ro s1 r (PostE.nno q)
  rw [e] at q
  exact ⟨k, hK ▸ ht, q Fz1 H1 s1 f1 (.bl (!k)) (.v (.bl _)) (nmut_fsh rfl)⟩
theorem evT_eq (cf : Nat → List Ob → CR) (lk : List Nat) (e : IE) (env : En) : evT cf lk e env = (evE cf lk e env).bind truR := rfl
theorem truR_bind {o : Ob} {env : En} {α : Type} {k : Bool → En → Rs α} : (truR o env).bind k = match o.view.bind truth with
    | some b => k b env
    | none => .no := by
  unfold truR
  cases o.view.bind truth <;> rfl
theorem evT_and {ia ib : IE} {env : En} : evT cf lk (.and ia ib) env = (evT cf lk ia env).bind fun k env => if k then evT cf lk ib env else .ok false env := by
  rw [evT_eq, evE, evT_eq, Rs.assoc, Rs.assoc]
  cases h : evE cf lk ia env with
  | ok o e =>
    simp only [Rs.bind_ok, truR_bind, Rs.assoc]
    cases h2 : o.view.bind truth with
    | none => rfl
    | some k =>
      cases k
      · show truR o e = _; unfold truR; rw [h2]; rfl
      · rfl
  | ex _ _ _ => rfl
  | no => rfl
theorem evT_or {ia ib : IE} {env : En} : evT cf lk (.or ia ib) env = (evT cf lk ia env).bind fun k env => if k then .ok true env else evT cf lk ib env := by
  rw [evT_eq, evE, evT_eq, Rs.assoc, Rs.assoc]
  cases h : evE cf lk ia env with
  | ok o e =>
    simp only [Rs.bind_ok, truR_bind, Rs.assoc]
    cases h2 : o.view.bind truth with
    | none => rfl
    | some k =>
      cases k
      · rfl
      · show truR o e = _; unfold truR; rw [h2]; rfl
  | ex _ _ _ => rfl
  | no => rfl
theorem evT_not {ia : IE} {env : En} : evT cf lk (.not ia) env = (evT cf lk ia env).bind fun k env => .ok (!k) env := by
  rw [evT_eq, evE, evT_eq, Rs.assoc, Rs.assoc]
  cases h : evE cf lk ia env with
  | ok o e =>
    simp only [Rs.bind_ok, truR_bind, Rs.assoc]
    cases h2 : o.view.bind truth with
    | none => rfl
    | some k => rfl
  | ex _ _ _ => rfl
  | no => rfl
theorem evE_ite {ic ia ib : IE} {env : En} : evE cf lk (.ite ic ia ib) env = (evT cf lk ic env).bind fun k env => if k then evE cf lk ia env else evE cf lk ib env := by
  rw [evE, evT_eq, Rs.assoc]
/-- a value as a test -/
theorem tT_of {ir : IE} (hK : X.K = G.K) (h : PE X e (tE G cf lk cn W ir)) (he : ∀ whole, isTrue e X.env whole = (do let v ← whole; standAt e.pos; holding [v] (truthy v))) : PT X e (tT G cf lk cn W ir) := by
  refine PT.imp (pt_truth h he) fun σ H Q ⟨env, Fz, s, p⟩ => ?_
  rw [evT_eq] at p
  refine ⟨env, Fz, s, p.split0.mono fun o env1 Fz1 H1 s1 f1 q x r fs => ?_⟩
  obtain ⟨k, e, ht⟩ := truR_ro s1 r (PostE.nno1 q)
  rw [e] at q
  exact ⟨k, hK ▸ ht, q Fz1 H1 s1 f1⟩
theorem tT_and {a b : Expr} {rest : List Expr} {pos : Pos} {ia ib : IE} (ha : PT X a (tT G cf lk cn W ia)) (hb : PW X (.BoolOp .And (b :: rest) pos) (tT G cf lk cn W ib)) :
    PW X (.BoolOp .And (a :: b :: rest) pos) (tT G cf lk cn W (.and ia ib)) := by
  refine PW.imp (pw_and ha hb) fun σ H Q ⟨env, Fz, s, p⟩ => ?_
  rw [evT_and] at p
  refine ⟨env, Fz, s, p.split0.mono fun k env1 Fz1 H1 s1 f1 q => ?_⟩
  cases k with
  | true => exact ⟨env1, Fz1, s1, (PostE.shift f1 q).mono fun _ _ _ _ _ _ h => h⟩
  | false => exact q Fz1 H1 s1 f1
theorem tT_or {a b : Expr} {rest : List Expr} {pos : Pos} {ia ib : IE} (ha : PT X a (tT G cf lk cn W ia)) (hb : PW X (.BoolOp .Or (b :: rest) pos) (tT G cf lk cn W ib)) :
    PW X (.BoolOp .Or (a :: b :: rest) pos) (tT G cf lk cn W (.or ia ib)) := by
  refine PW.imp (pw_or ha hb) fun σ H Q ⟨env, Fz, s, p⟩ => ?_
  rw [evT_or] at p
  refine ⟨env, Fz, s, p.split0.mono fun k env1 Fz1 H1 s1 f1 q => ?_⟩
  cases k with
  | false => exact ⟨env1, Fz1, s1, (PostE.shift f1 q).mono fun _ _ _ _ _ _ h => h⟩
  | true => exact q Fz1 H1 s1 f1
theorem tT_not {a : Expr} {pos : Pos} {ia : IE} (ha : PT X a (tT G cf lk cn W ia)) : PT X (.UnaryOp .Not a pos) (tT G cf lk cn W (.not ia)) := by
  refine PT.imp (pt_not ha) fun σ H Q ⟨env, Fz, s, p⟩ => ?_
  rw [evT_not] at p
  exact ⟨env, Fz, s, p.split0.mono fun k env1 Fz1 H1 s1 f1 q => q Fz1 H1 s1 f1⟩
theorem tE_ite {c a b : Expr} {pos : Pos} {ic ia ib : IE} (hc : PT X c (tT G cf lk cn W ic)) (ha : PE X a (tE G cf lk cn W ia)) (hb : PE X b (tE G cf lk cn W ib)) :
    PE X (.IfExp c a b pos) (tE G cf lk cn W (.ite ic ia ib)) := by
  refine PE.imp (pe_ifExp hc ha hb) fun σ H Q ⟨env, Fz, s, p⟩ => ?_
  rw [evE_ite] at p
  refine ⟨env, Fz, s, p.split0.mono fun k env1 Fz1 H1 s1 f1 q => ?_⟩
  cases k with
  | true => exact ⟨env1, Fz1, s1, (PostE.shift f1 q).mono fun ob env2 Fz2 H2 s2 f2 q v r2 fs2 => q v r2 (fs2.older f1)⟩
  | false => exact ⟨env1, Fz1, s1, (PostE.shift f1 q).mono fun ob env2 Fz2 H2 s2 f2 q v r2 fs2 => q v r2 (fs2.older f1)⟩
/-- a choice as a test -/
theorem pt_ifExp {c a b : Expr} {pos : Pos} {tc ta tb : TT} (hc : PT X c tc) (ha : PT X a ta) (hb : PT X b tb) :
    PT X (.IfExp c a b pos) (fun σ H Q => tc σ H fun k H1 => if k = true then ta σ H1 Q else tb σ H1 Q) := by
  refine ⟨fun pins s σ H Q I h => ?_⟩
  have e : isTrue (.IfExp c a b pos) X.env (eval (.IfExp c a b pos) X.env) = (do if ← isTrue c X.env (eval c X.env) then isTrue a X.env (eval a X.env) else isTrue b X.env (eval b X.env)) := by
    rw [PySem.isTrue]
  rw [e]
  refine wpAny_bind (thn (hc.run pins s σ H _ I h) fun k s1 hk => ?_)
  obtain ⟨H1, I1, q1⟩ := hk
  cases k with
  | true => exact ha.run pins s1 σ H1 Q I1 q1
  | false => exact hb.run pins s1 σ H1 Q I1 q1
theorem tT_ite {c a b : Expr} {pos : Pos} {ic ia ib : IE} (hc : PT X c (tT G cf lk cn W ic)) (ha : PT X a (tT G cf lk cn W ia)) (hb : PT X b (tT G cf lk cn W ib)) :
    PT X (.IfExp c a b pos) (tT G cf lk cn W (.ite ic ia ib)) := by
  refine PT.imp (pt_ifExp hc ha hb) fun σ H Q ⟨env, Fz, s, p⟩ => ?_
  rw [evT_eq, evE_ite, Rs.assoc] at p
  refine ⟨env, Fz, s, p.split0.mono fun k env1 Fz1 H1 s1 f1 q => ?_⟩
  cases k with
  | true => exact ⟨env1, Fz1, s1, (PostE.shift f1 q).mono fun _ _ _ _ _ _ h => h⟩
  | false => exact ⟨env1, Fz1, s1, (PostE.shift f1 q).mono fun _ _ _ _ _ _ h => h⟩
end
end Pv
-- PvExpr3
set_option maxRecDepth 100000
namespace Pv
open PySem L2

def cop : CmpOp → Op
  | .Eq => .eq | .NotEq => .ne | .Lt => .lt | .LtE => .le | .Gt => .gt | .GtE => .ge | .Is => .isN | .IsNot => .notN | .In => .isin | .NotIn => .notin
def bop : Operator → Option Op
  | .Add => some .add | .Sub => some .sub | .Mult => some .mul | .FloorDiv => some .fdiv | .Mod => some .mod | .Pow => some .pow | .LShift => some .shl | _ => none
def notStar : Expr → Bool
  | .Starred _ _ => false
  | _ => true
def notSet : Expr → Bool
  | .Set _ _ _ => false
  | _ => true
def notSlice : Expr → Bool
  | .Slice _ _ _ _ => false
  | _ => true
theorem star_cons {e : Expr} {es : List Expr} {env : Env} (h : notStar e = true) : starEach (e :: es) env = (false, eval e env) :: starEach es env := by
  cases e <;> first | rfl | (cases h)
theorem notSet_marks {e : Expr} {op : CmpOp} (h : notSet e = true) : behindInMarks op e = false := by
  cases e <;> first | rfl | (cases h)
theorem notSlice_ix {e : Expr} (h : notSlice e = true) : PlainIx e := fun o i => by
  cases e <;> first | rfl | (cases h)

section
variable {X : Cx} {G : Gx} {cf : Nat → List Ob → CR} {lk : List Nat} {cn : Nat → Str} {W : WX} {e a b : Expr} {es : List Expr}
theorem op_cmpA (hK : X.K = G.K) (hu : X.A.units + 160 < cLine) (c : CmpOp) : OpR X (compareOp c) (r2 G (cmpO (cmpf (cop c)))) := by
  cases c with
  | Eq => exact op_eqA hK (by omega)
  | NotEq => exact op_neA hK (by omega)
  | Lt => exact op_ltA hK
  | LtE => exact op_leA hK
  | Gt => exact op_gtA hK
  | GtE => exact op_geA hK
  | Is => exact op_isNA hK
  | IsNot => exact op_notNA hK
  | In => exact op_inA hK hu
  | NotIn => exact op_notinA hK hu
theorem opf2_cop (c : CmpOp) : opf2 (cop c) = cmpO (cmpf (cop c)) := by
  cases c <;> rfl
theorem op_binA (hK : X.K = G.K) {o : Operator} {p : Op} (h : bop o = some p) : OpR X (binaryOp o) (r2 G (opf2 p)) := by
  cases o <;> first | (cases h; done) | (cases h; first | exact op_addA hK | exact op_subA hK | exact op_mulA hK | exact op_fdivA hK | exact op_modA hK | exact op_powA hK | exact op_shlA hK)

theorem tE_bin (hK : X.K = G.K) {o : Operator} {p : Op} (h : bop o = some p) {pos : Pos} {i1 i2 : Bool} {ia ib : IE} (ha : PE X a (tArg G cf lk cn W ia)) (hb : PE X b (tArg G cf lk cn W ib)) :
    PE X (.BinOp a o b pos) (tE G cf lk cn W (.op p (.cons i1 ia (.cons i2 ib .nil)))) := PE.imp (pe_op (op_binA hK h) ha hb) fun _ _ _ q => op2_tE q
theorem tE_cmp (hK : X.K = G.K) (hu : X.A.units + 160 < cLine) (c : CmpOp) {pos : Pos} {i1 i2 : Bool} {ia ib : IE} (ha : PE X a (tArg G cf lk cn W ia)) (hb : PE X b (tArg G cf lk cn W ib)) (hs : notSet b = true) :
    PE X (.Compare a [c] [b] pos) (tE G cf lk cn W (.op (cop c) (.cons i1 ia (.cons i2 ib .nil)))) := by
  refine PE.imp (pe_cmpR (op_cmpA hK hu c) ha hb (notSet_marks hs)) fun σ H Q q => ?_
  have q := op2_tE q
  rw [opf2_cop] at q
  exact q
theorem tT_bool {ir : IE} {σ : St} {H : Hp} {Q : Bool → Hp → Prop} (hb : ∀ env ob env', evE cf lk ir env = .ok ob env' → ∃ k, ob = .v (.bool k)) (h : tT G cf lk cn W ir σ H Q) :
    tE G cf lk cn W ir σ H (fun z H' => ∃ k, z = V.bl k ∧ Q k H') := by
  obtain ⟨env, Fz, s, p⟩ := h
  refine ⟨env, Fz, s, ?_⟩
  rw [evT_eq] at p
  cases h : evE cf lk ir env with
  | ok o env1 =>
    obtain ⟨k, rfl⟩ := hb _ _ _ h
    rw [h] at p
    have p : PostE G cn W env σ Fz H (.ok k env1) (fun b env' Fz' H' => Q b H') := p
    intro Fz1 H1 s1 f1 v r fs
    cases r with
    | v r => cases r; exact ⟨k, rfl, p Fz1 H1 s1 f1⟩
  | ex c xs env1 => rw [h] at p; exact p
  | no => rw [h] at p; exact p
theorem opf_cop_bool {c : CmpOp} {ds : List PV} {ob : Ob} (h : opf (cop c) ds = some ob) : ∃ k, ob = .v (.bool k) := by
  match ds, h with
  | [], h => cases h
  | [d], h => cases c <;> cases h
  | [d, e], h =>
    have h : opf2 (cop c) d e = some ob := h
    rw [opf2_cop] at h
    obtain ⟨k, _, e⟩ := cmpO_eq h
    exact ⟨k, e⟩
  | [d, e, f], h => cases c <;> cases h
  | _ :: _ :: _ :: _ :: _, h => cases h
theorem op_bool {c : CmpOp} {es : IEs} : ∀ env ob env', evE cf lk (.op (cop c) es) env = .ok ob env' → ∃ k, ob = .v (.bool k) := fun env ob env' h => by
  rw [evE] at h
  cases h1 : evA cf lk es env with
  | ok ags env1 =>
    rw [h1] at h
    simp only [Rs.bind_ok] at h
    cases h2 : ((resolve env1 (ags.map (·.2))).bind views).bind (opf (cop c)) with
    | none => rw [h2] at h; cases h
    | some ob' =>
      rw [h2] at h
      cases h
      cases h3 : (resolve env' (ags.map (·.2))).bind views with
      | none => rw [h3] at h2; cases h2
      | some ds => rw [h3] at h2; exact opf_cop_bool h2
  | ex _ _ _ => rw [h1] at h; cases h
  | no => rw [h1] at h; cases h
theorem tT_cmp (hK : X.K = G.K) (hu : X.A.units + 160 < cLine) (c : CmpOp) {pos : Pos} {i1 i2 : Bool} {ia ib : IE} (ha : PE X a (tArg G cf lk cn W ia)) (hb : PE X b (tArg G cf lk cn W ib)) (hs : notSet b = true) :
    PT X (.Compare a [c] [b] pos) (tT G cf lk cn W (.op (cop c) (.cons i1 ia (.cons i2 ib .nil)))) := by
  refine PT.imp (pt_cmpR (op_cmpA hK hu c) ha hb (notSet_marks hs)) fun σ H Q h => ?_
  have q := op2_tE (tT_bool op_bool h)
  rw [opf2_cop] at q
  exact q

theorem chain_bool {o1 o2 : Op} {ia ib ic : IE} : ∀ env ob env', evE cf lk (.chain o1 o2 ia ib ic) env = .ok ob env' → ∃ k, ob = .v (.bool k) := fun env ob env' h => by
  rw [evE] at h
  cases h1 : evE cf lk ia env with
  | ok oa env1 =>
    rw [h1] at h
    simp only [Rs.bind_ok] at h
    cases h2 : evE cf lk ib env1 with
    | ok ob2 env2 =>
      rw [h2] at h
      simp only [Rs.bind_ok] at h
      split at h
      · split at h
        · cases h3 : evE cf lk ic env2 with
          | ok oc env3 =>
            rw [h3] at h
            simp only [Rs.bind_ok] at h
            unfold optR at h
            split at h
            · rename_i heq
              cases h
              rw [Option.map_eq_some_iff] at heq
              obtain ⟨k, _, e⟩ := heq
              exact ⟨k, e.symm⟩
            · cases h
          | ex _ _ _ => rw [h3] at h; cases h
          | no => rw [h3] at h; cases h
        · cases h; exact ⟨_, rfl⟩
        · cases h
      · cases h
    | ex _ _ _ => rw [h2] at h; cases h
    | no => rw [h2] at h; cases h
  | ex _ _ _ => rw [h1] at h; cases h
  | no => rw [h1] at h; cases h
theorem RO.keep {O' : Addr → Prop} {Fz H Fz' H' H0 : Hp} {env : En} {σ : St} {ob : Ob} {v : V} (r : RO G Fz H ob v) (fs : Fsh ob v env σ H0) (f : FrO (Own env σ) O' Fz H Fz' H') : RO G Fz' H' ob v :=
  r.step f fun m => by
    obtain ⟨a, e, _, n⟩ := fs m
    exact ⟨a, e, n⟩
theorem chain_tE {o1 o2 : Op} {ia ib ic : IE} {σ : St} {H : Hp} {Q : VK} (h : tE G cf lk cn W (.chain o1 o2 ia ib ic) σ H Q) :
    tChain (r2 G (cmpO (cmpf o1))) (r2 G (cmpO (cmpf o2))) (tE G cf lk cn W ia) (tE G cf lk cn W ib) (tE G cf lk cn W ic) σ H Q := by
  obtain ⟨env, Fz, s, p⟩ := h
  rw [evE] at p
  refine ⟨env, Fz, s, p.split0.mono fun oa env1 Fz1 H1 s1 f1 q x r fs => ?_⟩
  refine ⟨env1, Fz1, s1, (q.split0.shift f1).mono fun ob env2 Fz2 H2 s2 f2 q y r' fs' => ?_⟩
  have f := f1.trans f2
  have r := r.keep fs f2
  cases e1 : oa.view with
  | none => rw [e1] at q; exact q.elim
  | some da =>
    cases e2 : ob.view with
    | none => rw [e1, e2] at q; exact q.elim
    | some db =>
      rw [e1, e2] at q
      simp only at q
      cases e3 : cmpf o1 da db with
      | none => rw [e3] at q; exact q.elim
      | some k =>
        rw [e3] at q
        refine ⟨Fz2, da, db, .v (.bool k), s2.sub, r.view e1, r'.view e2, by rw [cmpO, e3]; rfl, fun v Fz3 H3 ext ro3 _ => ?_⟩
        cases ro3 with
        | v rb =>
          cases rb
          refine ⟨k, rfl, ?_⟩
          cases k with
          | false =>
            rw [if_neg (by simp)]
            exact q Fz3 H3 (s2.ext ext) (f.trans (.of_ext ext)) (.bl false) (.v (.bl _)) (nmut_fsh rfl)
          | true =>
            rw [if_pos rfl]
            simp only at q
            have s3 := s2.ext ext
            have f3 := f.trans (.of_ext ext)
            refine ⟨env2, Fz3, s3, (q.split0.shift f3).mono fun oc env4 Fz4 H4 s4 f4 q z r4 fs4 => ?_⟩
            have ff := f3.trans f4
            have r'' : RO G Fz4 H4 ob y := (r'.keep fs' ((FrO.of_ext (O := Own env2 σ) ext).trans f4))
            cases e4 : oc.view with
            | none => rw [e4] at q; exact q.elim
            | some dc =>
              rw [e4] at q
              simp only [Option.bind_some] at q
              cases e5 : cmpf o2 db dc with
              | none => rw [e5] at q; exact q.elim
              | some k2 =>
                rw [e5] at q
                exact ⟨Fz4, db, dc, .v (.bool k2), s4.sub, r''.view e2, r4.view e4, by rw [cmpO, e5]; rfl, opEnd s4 ff q⟩
theorem tE_chain (hK : X.K = G.K) (hu : X.A.units + 160 < cLine) (c1 c2 : CmpOp) {pos : Pos} {ia ib ic : IE} {c : Expr} (ha : PE X a (tE G cf lk cn W ia)) (hb : PE X b (tE G cf lk cn W ib)) (hc : PE X c (tE G cf lk cn W ic)) (hs : notSet c = true) :
    PE X (.Compare a [c1, c2] [b, c] pos) (tE G cf lk cn W (.chain (cop c1) (cop c2) ia ib ic)) :=
  PE.imp (pe_chain (op_cmpA hK hu c1) (op_cmpA hK hu c2) ha hb hc (notSet_marks hs)) fun _ _ _ q => chain_tE q
theorem tT_chain (hK : X.K = G.K) (hu : X.A.units + 160 < cLine) (c1 c2 : CmpOp) {pos : Pos} {ia ib ic : IE} {c : Expr} (ha : PE X a (tE G cf lk cn W ia)) (hb : PE X b (tE G cf lk cn W ib)) (hc : PE X c (tE G cf lk cn W ic)) (hs : notSet c = true) :
    PT X (.Compare a [c1, c2] [b, c] pos) (tT G cf lk cn W (.chain (cop c1) (cop c2) ia ib ic)) :=
  PT.imp (pt_chain (op_cmpA hK hu c1) (op_cmpA hK hu c2) ha hb hc (notSet_marks hs)) fun _ _ _ q => chain_tE (tT_bool chain_bool q)

theorem tE_neg (hK : X.K = G.K) {pos : Pos} {i1 : Bool} {ia : IE} (ha : PE X a (tArg G cf lk cn W ia)) : PE X (.UnaryOp .USub a pos) (tE G cf lk cn W (.op .neg (.cons i1 ia .nil))) :=
  PE.imp (pe_un (un_negA hK) ha) fun _ _ _ q => op1_tE q
theorem tE_idx (hK : X.K = G.K) {pos : Pos} {i1 i2 : Bool} {ia ib : IE} (ha : PE X a (tArg G cf lk cn W ia)) (hb : PE X b (tArg G cf lk cn W ib)) (hs : notSlice b = true) :
    PE X (.Subscript a b pos) (tE G cf lk cn W (.op .idx (.cons i1 ia (.cons i2 ib .nil)))) := PE.imp (pe_ix (ix_A hK) ha hb (notSlice_ix hs)) fun _ _ _ q => op2_tE q
theorem tE_rev (hK : X.K = G.K) {k : Nat} {p1 p2 p3 pos : Pos} {i1 : Bool} {ia : IE} (ha : PE X a (tArg G cf lk cn W ia)) :
    PE X (.Subscript a (.Slice none none (some (.UnaryOp .USub (.Constant (.int 1) k p1) p2)) p3) pos) (tE G cf lk cn W (.op .rev (.cons i1 ia .nil))) :=
  PE.imp (pe_revA hK ha tArg_mono) fun _ _ _ q => op1_tE q
theorem VW.intB {Fz H : Hp} {x : V} {d : PV} {i : Int} (h : VW G.K Fz H x d) (e : bInt d = some i) : x = .int i := by
  cases d <;> first | (cases e; done) | (cases e; exact h.int)
theorem tE_slice0 (hK : X.K = G.K) {p2 pos : Pos} {i1 : Bool} {ia : IE} (ha : PE X a (tArg G cf lk cn W ia)) :
    PE X (.Subscript a (.Slice none none none p2) pos) (tE G cf lk cn W (.op (.slice false false) (.cons i1 ia .nil))) := by
  refine PE.imp (pe_slice (sl_A hK) ha po_none po_none) fun σ H Q q => ?_
  exact tArg_mono _ _ _ _ (fun x H1 h => h) (op1_tE q)
theorem tE_sliceL (hK : X.K = G.K) {p2 pos : Pos} {i1 i2 : Bool} {ia ib : IE} (ha : PE X a (tArg G cf lk cn W ia)) (hb : PE X b (tArg G cf lk cn W ib)) :
    PE X (.Subscript a (.Slice (some b) none none p2) pos) (tE G cf lk cn W (.op (.slice true false) (.cons i1 ia (.cons i2 ib .nil)))) := by
  refine PE.imp (pe_slice (sl_A hK) ha (po_some hb) po_none) fun σ H Q q => ?_
  refine tArg_mono _ _ _ _ (fun x H1 h => tArg_mono _ _ _ _ (fun y H2 h => ?_) h) (op2_tE q)
  obtain ⟨Fz, d, e, ob, sub, vx, vy, ho, r⟩ := h
  have ho : (bInt e).bind (fun i => slicef d (some i) none) = some ob := ho
  rw [Option.bind_eq_some_iff] at ho
  obtain ⟨i, e1, e2⟩ := ho
  exact ⟨i, vy.intB e1, Fz, d, ob, sub, vx, e2, r⟩
theorem tE_sliceU (hK : X.K = G.K) {p2 pos : Pos} {i1 i2 : Bool} {ia ib : IE} (ha : PE X a (tArg G cf lk cn W ia)) (hb : PE X b (tArg G cf lk cn W ib)) :
    PE X (.Subscript a (.Slice none (some b) none p2) pos) (tE G cf lk cn W (.op (.slice false true) (.cons i1 ia (.cons i2 ib .nil)))) := by
  refine PE.imp (pe_slice (sl_A hK) ha po_none (po_some hb)) fun σ H Q q => ?_
  refine tArg_mono _ _ _ _ (fun x H1 h => tArg_mono _ _ _ _ (fun y H2 h => ?_) h) (op2_tE q)
  obtain ⟨Fz, d, e, ob, sub, vx, vy, ho, r⟩ := h
  have ho : (bInt e).bind (fun i => slicef d none (some i)) = some ob := ho
  rw [Option.bind_eq_some_iff] at ho
  obtain ⟨i, e1, e2⟩ := ho
  exact ⟨i, vy.intB e1, Fz, d, ob, sub, vx, e2, r⟩
/-- three arguments -/
theorem op3_tE {o : Op} {ia ib ic : IE} {i1 i2 i3 : Bool} {σ : St} {H : Hp} {Q : VK} (h : tE G cf lk cn W (.op o (.cons i1 ia (.cons i2 ib (.cons i3 ic .nil)))) σ H Q) :
    tArg G cf lk cn W ia σ H fun x H1 => tArg G cf lk cn W ib σ H1 fun y H2 => tArg G cf lk cn W ic σ H2 fun z H3 =>
      ∃ Fz d e f ob, Same Fz H3 ∧ VW G.K Fz H3 x d ∧ VW G.K Fz H3 y e ∧ VW G.K Fz H3 z f ∧ opf3 o d e f = some ob ∧ Res G Fz H3 ob Q := by
  obtain ⟨env, Fz, s, p⟩ := h
  rw [evE, evA_cons] at p
  have p := p.split0.split0
  refine ⟨env, Fz, s, p.mono fun ag env1 Fz1 H1 s1 f1 q x r => ?_⟩
  rw [evA_cons] at q
  have q := (q.split0.split0).shift f1
  refine ⟨env1, Fz1, s1, q.mono fun bg env2 Fz2 H2 s2 f2 q y r' => ?_⟩
  rw [evA_cons] at q
  have f12 := f1.trans f2
  have q := (q.split0.split0).shift f12
  refine ⟨env2, Fz2, s2, q.mono fun cg env3 Fz3 H3 s3 f3 q z r'' => ?_⟩
  have f := f12.trans f3
  rw [evA] at q
  have q := q Fz3 H3 s3 f Fz3 H3 s3 f Fz3 H3 s3 f
  simp only [List.map_cons, List.map_nil] at q
  have r := (r.step f2).step f3
  have r' := r'.step f3
  cases e1 : resolve env3 [ag, bg, cg] with
  | none => rw [e1] at q; exact q.elim
  | some os =>
    rw [e1] at q
    obtain ⟨o1, oq1, rfl⟩ := resolve_cons e1
    obtain ⟨ro1, e2⟩ := r.res s3 e1
    obtain ⟨o2, oq2, rfl⟩ := resolve_cons e2
    obtain ⟨ro2, e2⟩ := r'.res s3 e2
    obtain ⟨o3, oq3, rfl⟩ := resolve_cons e2
    obtain ⟨ro3, e2⟩ := r''.res s3 e2
    rw [resolve] at e2; cases e2
    cases e3 : views [o1, o2, o3] with
    | none => simp only [Option.bind_some, e3, Option.bind_none] at q; exact q.elim
    | some ds =>
      obtain ⟨d, es, e4, e5, rfl⟩ := views_cons e3
      obtain ⟨d2, es2, e6, e7, rfl⟩ := views_cons e5
      obtain ⟨d3, es3, e9, e10, rfl⟩ := views_cons e7
      rw [views] at e10; cases e10
      simp only [Option.bind_some, e3] at q
      cases e8 : opf o [d, d2, d3] with
      | none => rw [e8] at q; exact q.elim
      | some ob =>
        rw [e8] at q
        exact ⟨Fz3, d, d2, d3, ob, s3.sub, ro1.view e4, ro2.view e6, ro3.view e9, e8, opEnd s3 f q⟩

theorem tE_sl2 (hK : X.K = G.K) {p2 pos : Pos} {i1 : Bool} {ia ib ic : IE} {c : Expr} (ha : PE X a (tArg G cf lk cn W ia)) (hb : PE X b (tE G cf lk cn W ib)) (hc : PE X c (tE G cf lk cn W ic)) :
    PE X (.Subscript a (.Slice (some b) (some c) none p2) pos) (tE G cf lk cn W (.sl2 (.cons i1 ia .nil) ib ic)) := by
  refine PE.imp (pe_slice (sl_A hK) ha (po_some hb) (po_some hc)) fun σ H Q ⟨env, Fz, s, p⟩ => ?_
  rw [evE, evA_cons] at p
  have p := p.split0.split0
  refine ⟨env, Fz, s, p.mono fun ag env1 Fz1 H1 s1 f1 q x r => ?_⟩
  rw [evA] at q
  have q := q Fz1 H1 s1 f1
  simp only at q
  have q := (q.split0).shift f1
  refine ⟨env1, Fz1, s1, q.mono fun ol env2 Fz2 H2 s2 f2 q y r2 _ => ?_⟩
  obtain ⟨i, rfl⟩ : ∃ i, ol = .v (.int i) := by
    split at q
    · exact ⟨_, rfl⟩
    · exact q.elim
  cases r2 with
  | v r2 =>
    cases r2
    refine ⟨i, rfl, ?_⟩
    have f12 := f1.trans f2
    have q := (q.split0).shift f12
    refine ⟨env2, Fz2, s2, q.mono fun oh env3 Fz3 H3 s3 f3 q z r3 _ => ?_⟩
    obtain ⟨j, rfl⟩ : ∃ j, oh = .v (.int j) := by
      split at q
      · exact ⟨_, rfl⟩
      · exact q.elim
    cases r3 with
    | v r3 =>
      cases r3
      refine ⟨j, rfl, ?_⟩
      have f := f12.trans f3
      have r := (r.step f2).step f3
      simp only [List.map_cons, List.map_nil] at q
      cases e1 : resolve env3 [ag] with
      | none => rw [e1] at q; exact q.elim
      | some os =>
        rw [e1] at q
        obtain ⟨o1, oq1, rfl⟩ := resolve_cons e1
        obtain ⟨ro1, e2⟩ := r.res s3 e1
        rw [resolve] at e2; cases e2
        cases e3 : views [o1] with
        | none => simp only [Option.bind_some, e3, Option.bind_none] at q; exact q.elim
        | some ds =>
          obtain ⟨d, es, e4, e5, rfl⟩ := views_cons e3
          rw [views] at e5; cases e5
          simp only [Option.bind_some, e3] at q
          cases e8 : slicef d (some i) (some j) with
          | none => rw [e8] at q; exact q.elim
          | some ob =>
            rw [e8] at q
            exact ⟨Fz3, d, ob, s3.sub, ro1.view e4, e8, opEnd s3 f q⟩

theorem blt1B {o : Op} {id : String} {n : Str} {p pos : Pos} {io : Bool} {ia : IE} (hc : CallR X (.builtin id) (r1L G (opf1 o))) (hv : bootBuiltins n = some (.builtin id)) (hg : Gl X n) (hm : X.mg n = none) (hn : n ≠ "__name__") (hd : (n == ("__debug__" : Str)) = false)
    (ha : PE X a (tArg G cf lk cn W ia)) (hs : notStar a = true) : PE X (.Call (.Name n p) [a] [] pos) (tE G cf lk cn W (.op o (.cons io ia .nil))) := by
  refine PE.imp (pe_callB hc hg hm hv (pa_cons ha pa_nil (star_cons hs)) hn hd (star_cons hs)) fun σ H Q q => ?_
  exact tArg_mono _ _ _ _ (fun x H1 h => ⟨x, rfl, h⟩) (op1_tE q)
theorem blt1T {o : Op} {id : String} {n : Str} {p pos : Pos} {io : Bool} {ia : IE} (hc : CallR X (.type id) (r1L G (opf1 o))) (hv : bootBuiltins n = some (.type id)) (hg : Gl X n) (hm : X.mg n = none) (hn : n ≠ "__name__") (hd : (n == ("__debug__" : Str)) = false)
    (ha : PE X a (tArg G cf lk cn W ia)) (hs : notStar a = true) : PE X (.Call (.Name n p) [a] [] pos) (tE G cf lk cn W (.op o (.cons io ia .nil))) := by
  refine PE.imp (pe_callTy hc hg hm hv (pa_cons ha pa_nil (star_cons hs)) hn hd (star_cons hs)) fun σ H Q q => ?_
  exact tArg_mono _ _ _ _ (fun x H1 h => ⟨x, rfl, h⟩) (op1_tE q)
theorem blt2B {o : Op} {id : String} {n : Str} {p pos : Pos} {i1 i2 : Bool} {ia ib : IE} (hc : CallR X (.builtin id) (r2L G (opf2 o))) (hv : bootBuiltins n = some (.builtin id)) (hg : Gl X n) (hm : X.mg n = none) (hn : n ≠ "__name__") (hd : (n == ("__debug__" : Str)) = false)
    (ha : PE X a (tArg G cf lk cn W ia)) (hb : PE X b (tArg G cf lk cn W ib)) (hs : notStar a = true) (hs2 : notStar b = true) : PE X (.Call (.Name n p) [a, b] [] pos) (tE G cf lk cn W (.op o (.cons i1 ia (.cons i2 ib .nil)))) := by
  refine PE.imp (pe_callB hc hg hm hv (pa_cons ha (pa_cons hb pa_nil (star_cons hs2)) (star_cons hs)) hn hd (star_cons hs) (by rw [star_cons hs2]; rfl)) fun σ H Q q => ?_
  exact tArg_mono _ _ _ _ (fun x H1 h => tArg_mono _ _ _ _ (fun y H2 h => ⟨x, y, rfl, h⟩) h) (op2_tE q)
theorem tE_isA (hK : X.K = G.K) {o : Op} {pr : PV → Bool} {t : Str} {ty : String} {p p2 pos : Pos} {io : Bool} {ia : IE} (ho : opf1 o = kindf pr) (hp : ∀ d, isD d = false → kitB (tyOf d) ty = some (pr d))
    (hg : Gl X "isinstance") (hm : X.mg "isinstance" = none) (hgt : Gl X t) (hmt : X.mg t = none) (hvt : bootBuiltins t = some (.type ty)) (hnt : t ≠ "__name__") (hdt : (t == ("__debug__" : Str)) = false)
    (ha : PE X a (tArg G cf lk cn W ia)) (hs : notStar a = true) : PE X (.Call (.Name "isinstance" p) [a, .Name t p2] [] pos) (tE G cf lk cn W (.op o (.cons io ia .nil))) := by
  have hv : bootBuiltins "isinstance" = some (.builtin "isinstance") := by decide +kernel
  have hb : PE X (.Name t p2) (tC (.ty ty)) := pe_bltn hgt hmt hvt rfl hnt hdt
  refine PE.imp (pe_callB (call_isA hK hp) hg hm hv (pa_cons ha (pa_cons hb pa_nil rfl) (star_cons hs)) (by decide) (by decide) (star_cons hs) rfl) fun σ H Q q => ?_
  have q := op1_tE q
  rw [ho] at q
  exact tArg_mono _ _ _ _ (fun x H1 h => ⟨x, rfl, h⟩) q
/-- isinstance(x, (A, B)) -/
theorem call_isA2 (hK : X.K = G.K) {pr : PV → Bool} {t1 t2 : String} (hp : ∀ d, isD d = false → ∃ b1 b2, kitB (tyOf d) t1 = some b1 ∧ kitB (tyOf d) t2 = some b2 ∧ pr d = (b1 || b2)) :
    CallR X (.builtin "isinstance") (fun xs H Q => ∃ x tp, xs = [x, .ref tp] ∧ H tp = some (.tup [.ty t1, .ty t2]) ∧ r1 G (kindf pr) x H Q) := by
  intro pins s σ H xs us Q I rx h
  obtain ⟨x, tp, rfl, htp, Fz, d, ob, sub, hx, ho, q⟩ := h
  unfold kindf at ho
  by_cases nd : isD d = true
  · rw [if_pos nd] at ho; cases ho
  · rw [if_neg nd] at ho
    cases vB_eq ho
    have nd : isD d = false := by simpa using nd
    obtain ⟨b1, b2, k1, k2, e⟩ := hp d nd
    refine call_isiT pins s σ H _ us Q I rx ⟨x, tp, _, _, [.type t1, .type t2], _, rfl, htp, .cons (.ty _) (.cons (.ty _) .nil), VW.ty hK hx sub nd, ?_, q.sc sub (.bl _)⟩
    rw [e]
    refine kitAny_cons (kit_ty k1) (fun hb => ?_) (fun hb => by rw [hb]; rfl)
    refine kitAny_cons (kit_ty k2) (fun hb2 => ?_) (fun hb2 => by rw [hb2]; simp)
    rw [hb, hb2]
    rfl
theorem VW.ext {Fz H Fz' H' : Hp} {x : V} {d : PV} (e : Ext Fz H Fz' H') (h : VW G.K Fz H x d) : VW G.K Fz' H' x d := by
  cases h with
  | fz r => exact .fz (r.mono e.ff)
  | own a b => exact .own (e.hh _ _ a) (b.mono e.ff)
  | ro a b => exact .ro (SqL.mono e.ff a) (b.mono e.ff)
theorem Ext.trans {Fz H Fz1 H1 Fz2 H2 : Hp} (a : Ext Fz H Fz1 H1) (b : Ext Fz1 H1 Fz2 H2) : Ext Fz H Fz2 H2 :=
  ⟨a.hh.trans b.hh, a.ff.trans b.ff, b.sub, fun c h z => b.nw c (by
    cases q : H c with
    | none => exact absurd q h
    | some o => rw [a.hh c o q]; simp) (a.nw c h z)⟩
theorem Res.after {Fz H Fz1 H1 : Hp} {ob : Ob} {Q : VK} (e : Ext Fz H Fz1 H1) (r : Res G Fz H ob Q) : Res G Fz1 H1 ob Q := fun v Fz' H' e2 ro fr => r v Fz' H' (e.trans e2) ro fun m => by
  obtain ⟨a, h1, h2⟩ := fr m
  refine ⟨a, h1, ?_⟩
  cases q : H a with
  | none => rfl
  | some o => rw [e.hh a o q] at h2; cases h2
theorem tE_isA2 (hK : X.K = G.K) {o : Op} {pr : PV → Bool} {n1 n2 : Str} {t1 t2 : String} {p p2 p3 p4 pos : Pos} {k : Nat} {io : Bool} {ia : IE} (ho : opf1 o = kindf pr)
    (hp : ∀ d, isD d = false → ∃ b1 b2, kitB (tyOf d) t1 = some b1 ∧ kitB (tyOf d) t2 = some b2 ∧ pr d = (b1 || b2))
    (hg : Gl X "isinstance") (hm : X.mg "isinstance" = none) (hg1 : Gl X n1) (hm1 : X.mg n1 = none) (hv1 : bootBuiltins n1 = some (.type t1)) (hn1 : n1 ≠ "__name__") (hd1 : (n1 == ("__debug__" : Str)) = false)
    (hg2 : Gl X n2) (hm2 : X.mg n2 = none) (hv2 : bootBuiltins n2 = some (.type t2)) (hn2 : n2 ≠ "__name__") (hd2 : (n2 == ("__debug__" : Str)) = false)
    (ha : PE X a (tArg G cf lk cn W ia)) (hs : notStar a = true) : PE X (.Call (.Name "isinstance" p) [a, .Tuple [.Name n1 p2, .Name n2 p3] k p4] [] pos) (tE G cf lk cn W (.op o (.cons io ia .nil))) := by
  have hv : bootBuiltins "isinstance" = some (.builtin "isinstance") := by decide +kernel
  have hb1 : PE X (.Name n1 p2) (tC (.ty t1)) := pe_bltn hg1 hm1 hv1 rfl hn1 hd1
  have hb2 : PE X (.Name n2 p3) (tC (.ty t2)) := pe_bltn hg2 hm2 hv2 rfl hn2 hd2
  have hb : PE X (.Tuple [.Name n1 p2, .Name n2 p3] k p4) _ := pe_tup (pa_cons hb1 (pa_cons hb2 pa_nil rfl) rfl)
  refine PE.imp (pe_callB (call_isA2 hK hp) hg hm hv (pa_cons ha (pa_cons hb pa_nil rfl) (star_cons hs)) (by decide) (by decide) (star_cons hs) rfl) fun σ H Q q => ?_
  have q := op1_tE q
  rw [ho] at q
  refine tArg_mono _ _ _ _ (fun x H1 h => ⟨by show 2 ≤ sizeLine; decide, fun tp htp => ?_⟩) q
  obtain ⟨Fz, d, ob, sub, vx, h1, r⟩ := h
  have e : Ext Fz H1 Fz (upd H1 tp (.tup [.ty t1, .ty t2])) := Ext.newL sub htp
  exact ⟨x, tp, rfl, upd_same, Fz, d, ob, e.sub, vx.ext e, h1, r.after e⟩
end
end Pv
-- PvNSet6
set_option maxRecDepth 100000
set_option maxHeartbeats 3000000
namespace Pv
open PySem L2
section
variable {X : Cx} {G : Gx} {a : Expr} {ta : TE} {p p2 q pos : Pos}
open PySem.W PyProof.Rows
/-- a set that has just been made: of numbers, of nested tuples -/
inductive MadeSet (X : Cx) (s : Shared) (S : Addr) (d : PV) (H : Hp) (Fz : Hp) : Prop
  | nums (ms : List Int) (c : Nat) : setf d = some (sortS ms) → SetR X.w s.heap S (fun j => decide (j ∈ ms)) c → MadeSet X s S d H Fz
  | tups (xs : List PV) (ks : List NK) (L : NL) (es : Array (Int × Value)) (ep : Nat) (t : SetTable) : setf d = none → sItems d = some xs → nset xs = some ks → SetN X.w s.heap S L es ep t → (L.map (·.2)).Perm ks →
      (∀ p ∈ L, RF X.K Fz (.ref p.1) p.2.data) → MadeSet X s S d H Fz
theorem setf_same {d : PV} {ns : List Int} {xs : List PV} (h : setf d = some ns) : ∃ ms, sItems d = some (ms.map .int) ∧ ms.length + 1 < 4096 ∧ ns = sortS ms := by
  unfold setf at h
  rw [Option.bind_eq_some_iff] at h
  obtain ⟨ys, h1, h⟩ := h
  rw [Option.bind_eq_some_iff] at h
  obtain ⟨ms, h2, h⟩ := h
  obtain ⟨h3, rfl⟩ := ite_some h
  have h2 := bInts_some h2
  subst h2
  exact ⟨ms, h1, h3, rfl⟩
theorem refs_of {K : PySem.W.Frag} {Fz : Hp} : ∀ {vs : List V} {xs : List PV} {us : List Value} {ks : List NK}, RFs K Fz vs xs → Vals vs us → (xs.all isTup) = true → toNKs xs = some ks →
    ∃ L : NL, us = L.map (fun p => Value.ref p.1) ∧ L.map (·.2) = ks ∧ ∀ p ∈ L, RF K Fz (.ref p.1) p.2.data
  | _, _, _, ks, .nil, r, _, h => by
    cases r
    simp [toNKs] at h
    subst h
    exact ⟨[], rfl, rfl, fun p hp => by cases hp⟩
  | v :: vs, d :: ds, _, ks, .cons a b, .cons r1 r2, ht, h => by
    rw [List.all_cons, Bool.and_eq_true] at ht
    rw [toNKs, Option.bind_eq_some_iff] at h
    obtain ⟨k, h1, h⟩ := h
    rw [Option.map_eq_some_iff] at h
    obtain ⟨kr, h2, rfl⟩ := h
    obtain ⟨L, e1, e2, e3⟩ := refs_of b r2 ht.2 h2
    have hd := (toNK_data h1).1
    cases a with
    | tup e q =>
      rename_i A ws zs
      cases r1
      refine ⟨(A, k) :: L, by rw [e1]; rfl, by rw [List.map_cons, e2], fun p hp => ?_⟩
      rcases List.mem_cons.mp hp with rfl | hp
      · show RF K Fz (.ref A) k.data
        rw [hd]; exact .tup e q
      · exact e3 p hp
    | _ => simp [isTup] at ht
theorem made_set (hK : X.K = G.K) (hc : X.calm = true) (hu : X.A.units + 160 < cLine) {Fz H : Hp} {x : V} {d : PV} {pins : List (Addr × Obj)} {σ : L2.St} {s : Shared} {v : Value} {Q : Value → Shared → Prop} (I : Inv X pins σ H s) (sub : Same Fz H) (hx : VW G.K Fz H x d) (rv : RelV x v)
    (hd : (setf d).isSome = true ∨ ∃ xs ks, sItems d = some xs ∧ nset xs = some ks)
    (next : ∀ (S : Addr) (h' : Heap) (tk : Nat), Inv X pins σ H { s with heap := h', toks := tk } → MadeSet X { s with heap := h', toks := tk } S d H Fz → Q (.ref S) { s with heap := h', toks := tk }) :
    wpAny (model X.prog X.w) X.A (call (.type "set") [v]) Q X.xe s := by
  by_cases hi : (setf d).isSome = true
  · obtain ⟨ns, hn⟩ := Option.isSome_iff_exists.mp hi
    obtain ⟨l, ms, rfl, hl, hb, rfl⟩ := setf_ok hK sub hx hn
    cases rv
    have hb' : ms.length + 1 < scanBound := hb
    rcases hl with hl | hl
    · obtain ⟨its, rv, pl, hz⟩ := I.list hl
      refine call_set_listI ms (I.ok.hd hc) pl.isList rv.ints hb' fun h' tk c R _ k => next _ h' tk (I.kept k) (.nums ms c hn R)
    · obtain ⟨its, rv, pl, hz⟩ := I.tuple hl
      refine call_set_tupI ms (I.ok.hd hc) pl rv.ints hb' fun h' tk c R _ k => next _ h' tk (I.kept k) (.nums ms c hn R)
  · have h0 : setf d = none := by simpa using hi
    rcases hd with hd | ⟨xs, ks, e1, e2⟩
    · exact absurd hd hi
    · have e2' := e2
      unfold nset at e2
      rw [Option.bind_eq_some_iff] at e2
      obtain ⟨ls, e3, e2⟩ := e2
      obtain ⟨e4, rfl⟩ := ite_some e2
      rw [Bool.and_eq_true, Bool.and_eq_true, decide_eq_true_eq, List.all_eq_true (l := ls)] at e4
      obtain ⟨⟨t1, t2⟩, t3⟩ := e4
      have fin : ∀ (vs : List V) (its : List Value), RFs G.K Fz vs xs → Vals vs its → ∃ L0 : NL, its = L0.map (fun p => Value.ref p.1) ∧ (∀ p ∈ L0, IsN s.heap p.2 p.1) ∧ FewK L0 ∧ L0.map (·.2) = ls ∧ ∀ p ∈ L0, RF X.K Fz (.ref p.1) p.2.data := fun vs its rs rv => by
        obtain ⟨L0, g1, g2, g3⟩ := refs_of rs rv t1 e3
        have bare' : ∀ p ∈ L0, bare p.2 = true := by
          intro p hp
          have hm : p.2 ∈ ls := by rw [← g2]; exact List.mem_map.mpr ⟨p, hp, rfl⟩
          have : ∀ (ks : List NK), bares ks = true → ∀ k ∈ ks, bare k = true := by
            intro ks
            induction ks with
            | nil => intro _ k hk; cases hk
            | cons m r ih =>
              intro hb k hk
              rw [bares, Bool.and_eq_true] at hb
              rcases List.mem_cons.mp hk with rfl | hk
              · exact hb.1
              · exact ih hb.2 k hk
          exact this ls (toNKs_data e3).2 _ hm
        refine ⟨L0, g1, fun p hp => ⟨?_, ?_, bare' p hp⟩, fun L nd sb => ?_, g2, fun p hp => hK ▸ g3 p hp⟩
        · exact Dp.reads I p.2.data (V.ref p.1) (Value.ref p.1) (hK ▸ ((g3 p hp).mono sub).dp) rfl
        · exact of_decide_eq_true (t2 p.2 (by rw [← g2]; exact List.mem_map.mpr ⟨p, hp, rfl⟩))
        · have := nd_le (m := uniqK ls) nd fun k hk => by
            obtain ⟨p, hp, rfl⟩ := List.mem_map.mp hk
            rw [uniqK_mem, ← g2]
            exact List.mem_map.mpr ⟨p, sb p hp, rfl⟩
          rw [List.length_map] at this
          omega
      have perm : ∀ (L0 L : NL), L0.map (·.2) = ls → Of L0 L0.length L → (L.map (·.2)).Nodup → (L.map (·.2)).Perm (uniqK ls) ∧ ∀ p ∈ L, p ∈ L0 := fun L0 L e g nd => by
        have sb : ∀ p ∈ L, p ∈ L0 := fun p hp => List.mem_of_mem_take (g.sub p hp)
        refine ⟨(List.perm_ext_iff_of_nodup nd (uniqK_nd ls)).mpr fun k => ?_, sb⟩
        rw [uniqK_mem, ← e]
        constructor
        · intro hk
          obtain ⟨p, hp, rfl⟩ := List.mem_map.mp hk
          exact List.mem_map.mpr ⟨p, sb p hp, rfl⟩
        · intro hk
          obtain ⟨p, hp, rfl⟩ := List.mem_map.mp hk
          exact g.all p (by rw [List.take_length]; exact hp)
      cases d <;> first | (cases e1; done) | skip
      · cases e1
        obtain ⟨l, vs, rfl, hl, rs⟩ := hx.list sub
        cases rv
        obtain ⟨its, rv, pl, hz⟩ := I.list (SqL.of hl)
        obtain ⟨L0, rfl, q2, q3, q4, q5⟩ := fin vs its rs rv
        refine call_setN_list L0 (I.ok.hd hc) pl.isList rfl q2 q3 (by omega) fun h' tk L es ep t R g k => ?_
        obtain ⟨w1, w2⟩ := perm L0 L q4 g R.nd
        exact next _ h' tk (I.kept k) (.tups _ _ L es ep t h0 rfl e2' R w1 fun p hp => q5 p (w2 p hp))
      · cases e1
        obtain ⟨l, vs, rfl, hl, rs, _⟩ := hx.tuple sub
        cases rv
        obtain ⟨its, rv, pl, hz⟩ := I.tuple (hK ▸ hl)
        obtain ⟨L0, rfl, q2, q3, q4, q5⟩ := fin vs its rs rv
        refine call_setN_tuple L0 (I.ok.hd hc) pl rfl q2 q3 (by omega) fun h' tk L es ep t R g k => ?_
        obtain ⟨w1, w2⟩ := perm L0 L q4 g R.nd
        exact next _ h' tk (I.kept k) (.tups _ _ L es ep t h0 rfl e2' R w1 fun p hp => q5 p (w2 p hp))
theorem pe_sset (hK : X.K = G.K) (hc : X.calm = true) (hu : X.A.units + 160 < cLine) (hg : Gl X "sorted") (hm : X.mg "sorted" = none) (hg2 : Gl X "set") (hm2 : X.mg "set" = none) (ha : PE X a ta) (na : notStar a = true) :
    PE X (.Call (.Name "sorted" p) [.Call (.Name "set" p2) [a] [] q] [] pos) (fun σ H Q => ta σ H fun x H1 => r1 G ssetf x H1 Q) := by
  refine ⟨fun pins s σ H Q I h => ?_⟩
  refine Call_ (ld_blt I hg hm boot_sorted ?_)
  refine PyProof.Rows.callWith_builtin1 (PyProof.Rows.args_cons ?_ rfl) rfl rfl
  refine Call_ (ld_blt I hg2 hm2 boot_set ?_)
  refine PyProof.Rows.callWith_type1 (PyProof.Rows.args_cons (thn (ha.run pins s σ H _ I h) fun v s1 ⟨x, H1, I1, r1', q1⟩ => PyProof.Rows.args_nil ?_) (star_cons na)) (star_cons na) rfl
  obtain ⟨Fz, d, ob, sub, hx, ho, qq⟩ := q1
  have hd : (setf d).isSome = true ∨ ∃ xs ks, sItems d = some xs ∧ nset xs = some ks := by
    unfold ssetf at ho
    split at ho
    · rename_i e; exact .inl (by rw [e]; rfl)
    · rw [Option.bind_eq_some_iff] at ho
      obtain ⟨xs, e1, ho⟩ := ho
      rw [Option.bind_eq_some_iff] at ho
      obtain ⟨ks, e2, ho⟩ := ho
      exact .inr ⟨xs, ks, e1, e2⟩
  refine made_set hK hc hu I1 sub hx r1' hd fun S h' tk I2 M => ?_
  refine PyProof.Rows.args_nil ?_
  cases M with
  | nums ms c e R =>
    rw [ssetf, e] at ho
    cases ho
    refine SetR.sorted (s := { s1 with heap := h', toks := tk }) R (I2.ok.hd hc) fun t p out c ns' k gn os hp hg' ia up mem few => ?_
    have e2 : ns' = sortS ms := up_one up (sortS_up ms) fun k => by rw [mem, decide_eq_true_eq, sortS_mem]
    subst e2
    have z : ((sortS ms).map V.int).length ≤ sizeLine := by
      rw [List.length_map, sizeLine_eq]
      have : scanBound = 4096 := rfl
      omega
    have f := I2.hok.fresh hp
    obtain ⟨th, tg, td, tt, to⟩ := t
    obtain rfl : tg = s1.gens := gn
    obtain rfl : to = s1.os := os
    exact ⟨.ref p, upd H1 p (.lst ((sortS ms).map V.int)), Inv.call (s := { s1 with heap := h', toks := tk }) (ch := []) I2 (Un.laid k hp f) (I2.hok.laid k hp ⟨z, out, c, vals_of_ints ia, hg'⟩) I2.bare (fun _ z => nomatch z), rfl, qq.lst sub (RFs.of_ints _) p f⟩
  | tups xs ks L es ep t e0 e1 e2 R pm rf =>
    rw [ssetf, e0] at ho
    simp only [e1, e2, Option.bind_some] at ho
    obtain ⟨ok, rfl⟩ := ite_some ho
    have m0 : L.map (fun p => p.2.data) = (L.map (·.2)).map NestedKey.data := by rw [List.map_map]; rfl
    have al := (sortOk_ok ok).1
    have pmd : (L.map (fun p => p.2.data)).Perm (ks.map NestedKey.data) := by rw [m0]; exact pm.map _
    have ok' : sortOk (L.map fun p => p.2.data) = true := by
      unfold sortOk at ok ⊢
      rw [Bool.and_eq_true, Bool.or_eq_true, List.all_eq_true, List.all_eq_true, List.all_eq_true] at ok ⊢
      have mi : ∀ {x}, x ∈ L.map (fun p => p.2.data) → x ∈ ks.map NestedKey.data := fun h => pmd.mem_iff.mp h
      refine ⟨fun x hx => ?_, ok.2.imp (fun h x hx => h x (mi hx)) fun h x hx => h x (mi hx)⟩
      have := ok.1 x (mi hx)
      rw [Bool.and_eq_true, List.all_eq_true] at this ⊢
      exact ⟨this.1, fun y hy => this.2 y (mi hy)⟩
    refine SetN.sorted (s := { s1 with heap := h', toks := tk }) R (I2.ok.hd hc) ok' hu fun tt p L' c k gn os hp hg' pmL e4 => ?_
    have e5 : L'.map (fun p => p.2.data) = sortP (ks.map NestedKey.data) := by
      rw [e4, m0]
      exact sortP_perm_eq pm (by rw [← m0]; exact fun d hd e he => al d (pmd.mem_iff.mp hd) e (pmd.mem_iff.mp he))
    have f := I2.hok.fresh hp
    have fw : L'.length < 64 := by rw [pmL.length_eq]; exact R.few
    have z : (L'.map fun p => V.ref p.1).length ≤ sizeLine := by rw [List.length_map, sizeLine_eq]; omega
    have vv : Vals (L'.map fun p => V.ref p.1) (L'.map fun p => Value.ref p.1) := by
      clear e4 e5 pmL hg' z fw
      induction L' with
      | nil => exact .nil
      | cons p L' ih => exact .cons rfl ih
    obtain ⟨th, tg, td, tt, to⟩ := tt
    obtain rfl : tg = s1.gens := gn
    obtain rfl : to = s1.os := os
    refine ⟨.ref p, upd H1 p (.lst (L'.map fun p => V.ref p.1)), Inv.call (s := { s1 with heap := h', toks := tk }) (ch := []) I2 (Un.laid k hp f) (I2.hok.laid k hp ⟨z, _, c, vv, hg'⟩) I2.bare (fun _ z => nomatch z), rfl, ?_⟩
    refine qq.lst sub ?_ p f
    rw [← e5]
    have rl : ∀ p ∈ L', RF G.K Fz (.ref p.1) p.2.data := fun p hp => hK ▸ rf p (pmL.mem_iff.mp hp)
    clear e4 e5 pmL hg' z fw vv
    induction L' with
    | nil => exact .nil
    | cons p L' ih => exact .cons (rl p List.mem_cons_self) (ih fun q hq => rl q (List.mem_cons_of_mem _ hq))
theorem pe_lset (hK : X.K = G.K) (hc : X.calm = true) (hu : X.A.units + 160 < cLine) (hg : Gl X "len") (hm : X.mg "len" = none) (hg2 : Gl X "set") (hm2 : X.mg "set" = none) (ha : PE X a ta) (na : notStar a = true) :
    PE X (.Call (.Name "len" p) [.Call (.Name "set" p2) [a] [] q] [] pos) (fun σ H Q => ta σ H fun x H1 => r1 G lsetf x H1 Q) := by
  refine ⟨fun pins s σ H Q I h => ?_⟩
  refine Call_ (ld_blt I hg hm boot_len ?_)
  refine PyProof.Rows.callWith_builtin1 (PyProof.Rows.args_cons ?_ rfl) rfl rfl
  refine Call_ (ld_blt I hg2 hm2 boot_set ?_)
  refine PyProof.Rows.callWith_type1 (PyProof.Rows.args_cons (thn (ha.run pins s σ H _ I h) fun v s1 ⟨x, H1, I1, r1', q1⟩ => PyProof.Rows.args_nil ?_) (star_cons na)) (star_cons na) rfl
  obtain ⟨Fz, d, ob, sub, hx, ho, qq⟩ := q1
  have hd : (setf d).isSome = true ∨ ∃ xs ks, sItems d = some xs ∧ nset xs = some ks := by
    unfold lsetf at ho
    split at ho
    · rename_i e; exact .inl (by rw [e]; rfl)
    · rw [Option.bind_eq_some_iff] at ho
      obtain ⟨xs, e1, ho⟩ := ho
      rw [Option.bind_eq_some_iff] at ho
      obtain ⟨ks, e2, ho⟩ := ho
      exact .inr ⟨xs, ks, e1, e2⟩
  refine made_set hK hc hu I1 sub hx r1' hd fun S h' tk I2 M => ?_
  refine PyProof.Rows.args_nil ?_
  cases M with
  | nums ms c e R =>
    rw [lsetf, e] at ho
    cases vI_eq ho
    obtain ⟨o, es, ep, tb, ho, hex, hd, good, nd, mem, few, fits, hn, ris, led⟩ := R
    have e : (es.toList.map keyOf).length = (sortS ms).length := by
      have nd2 : (sortS ms).Nodup := (sortS_up ms).imp fun h => Int.ne_of_lt h
      exact ((List.perm_ext_iff_of_nodup nd nd2).mpr fun k => by rw [← mem k, decide_eq_true_eq, sortS_mem]).length_eq
    rw [List.length_map, Array.length_toList] at e
    exact call_len_set (s := { s1 with heap := h', toks := tk }) ho hex hd fits (by have : scanBound = 4096 := rfl; omega) ⟨.int ((sortS ms).length : Nat), H1, I2.tok _, ⟨_, by rw [e]⟩, qq.sc sub (.int _)⟩
  | tups xs ks L es ep t e0 e1 e2 R pm rf =>
    rw [lsetf, e0] at ho
    simp only [e1, e2, Option.bind_some] at ho
    cases vI_eq ho
    obtain ⟨o, ho, hex, hd⟩ := R.ob
    have e : es.size = ks.length := by rw [R.size, ← pm.length_eq, List.length_map]
    exact call_len_set (s := { s1 with heap := h', toks := tk }) ho hex hd R.fits (by have := R.few; rw [R.size]; omega) ⟨.int (ks.length : Nat), H1, I2.tok _, ⟨_, by rw [e]⟩, qq.sc sub (.int _)⟩
end
end Pv
-- PvEnumT
set_option maxRecDepth 100000
set_option maxHeartbeats 1000000
namespace PySem
open Sem (wp)
open AutoSeq1 (wpAny_loadPart')
theorem pvEnumNewT (l : Addr) (items : Array Value) (n : Nat) (dct : Option Addr) (sl : Array (Option Value)) :
    Meets (Builtin.«enumerate.__new__» ⟨[.type "enumerate", .ref l], []⟩) (fun _ R s => s.heap.get? l = some { cls := .type "tuple", dict := dct, data := .seq items n, slots := sl } ∧
      R (.ok (.ret (.ref (s.heap.push { cls := .type "tuple_iterator", data := .fields #[.ref l, .int 0 0] }).objs.size)))
        { s with heap := (s.heap.push { cls := .type "tuple_iterator", data := .fields #[.ref l, .int 0 0] }).push { cls := .type "enumerate", data := .fields #[.none, .bool false, .ref s.heap.objs.size, rawInt 0, .none, .none] } }) :=
  .of_wp fun prog w A R s h => by
    obtain ⟨hp, g, d, tk, os⟩ := s; obtain ⟨hl, h⟩ := h
    have hsub := sub_enumerate
    have hL : Heap.IsTuple (Shared.heap ⟨hp, g, d, tk, os⟩) l items := ⟨_, hl, rfl, n, rfl⟩
    wp_walk using wpAny_loadPart' hl
    refine wpAny_stack_any fun st => wpAny_pure ?_
    split
    · rename_i c _ _ _ _ _
      cases (c == Value.type "enumerate")
      · wp_walk using wpAny_loadPart' hl, wpAny_pyIter_tuple hL
        exact ⟨_, rfl, h⟩
      · wp_walk using wpAny_loadPart' hl, wpAny_pyIter_tuple hL
        exact ⟨_, rfl, h⟩
    · wp_walk using wpAny_loadPart' hl, wpAny_pyIter_tuple hL
      exact ⟨_, rfl, h⟩
section
variable {prog : Program} {w : World} {A : Around} {E : Value → Shared → Prop} {s : Shared}
theorem pvCallEnumT {l : Addr} {items : Array Value} {Q : Value → Shared → Prop} (hL : s.heap.IsTuple l items)
    (h : ∀ h', IsEnum h' (s.heap.objs.size + 1) s.heap.objs.size 0 .none → h'.IsTupleIter s.heap.objs.size l 0 → h'.objs.size = s.heap.objs.size + 2 →
      (∀ b o, s.heap.get? b = some o → h'.get? b = some o) → Q (.ref (s.heap.objs.size + 1)) { s with heap := h' }) :
    wpAny (model prog w) A (call (.type "enumerate") [.ref l]) Q E s := by
  obtain ⟨⟨c, dct, dt, sl⟩, hl, hc, n, hd⟩ := hL
  replace hc : c = .type "tuple" := hc
  replace hd : dt = .seq items n := hd
  subst hc hd
  refine callType_new F.called_enumerate (by decide) (F.typeCall_enumerate_1 _) (F.newCall_enumerate_1 _) (fun obj => F.args_object_init_2 obj _) F.entry_enumerate_new
    (pvEnumNewT l items n dct sl) ⟨hl, ?_⟩
  have hz : (s.heap.push { cls := .type "tuple_iterator", data := .fields #[.ref l, .int 0 0] }).objs.size = s.heap.objs.size + 1 := Heap.size_push ..
  show _ ∧ _
  rw [hz]
  have he : IsEnum ((s.heap.push { cls := .type "tuple_iterator", data := .fields #[.ref l, .int 0 0] }).push
      { cls := .type "enumerate", data := .fields #[.none, .bool false, .ref s.heap.objs.size, rawInt 0, .none, .none] }) (s.heap.objs.size + 1) s.heap.objs.size 0 .none := by
    have := Heap.get?_push_size (s.heap.push { cls := .type "tuple_iterator", data := .fields #[.ref l, .int 0 0] })
      (o := { cls := .type "enumerate", data := .fields #[.none, .bool false, .ref s.heap.objs.size, rawInt 0, .none, .none] }) rfl
    rw [hz] at this; exact this
  refine ⟨⟨_, he, rfl⟩, h _ he ⟨_, Heap.get?_push_of_some _ (Heap.get?_push_size _ rfl), rfl, rfl⟩ (by rw [Heap.size_push, hz]) fun b o x => Heap.get?_push_of_some _ (Heap.get?_push_of_some _ x)⟩
theorem pvDrawsT {prog : Program} {w : World} {A : Around} (hh : A.handled = none) (it l : Addr) (hne : l ≠ it) (items : Array Value) :
    Draws prog w A it [it, l] items.size (fun i v => items[i]? = some v) (fun i h => h.IsTupleIter it l i ∧ h.IsTuple l items) where
  live := fun _ _ st => let ⟨o, ho, _⟩ := st.1; ⟨o, ho⟩
  frame := fun _ _ _ st hk => ⟨let ⟨o, ho, r⟩ := st.1; ⟨o, hk it (by simp) o ho, r⟩, let ⟨o, ho, r⟩ := st.2; ⟨o, hk l (by simp) o ho, r⟩⟩
  item := fun i s Q E hi st hQ => by
    refine RZ.nextOf_tuple_item st.1 st.2 (x := items[i]) (by simp [hi]) fun h' hit' hs' => ?_
    exact hQ _ h' s.toks (by simp [hi]) ⟨hit', st.2.extBut hs'.extBut hne⟩ hs'
  done := fun s Q E st hE => RZ.nextOf_tuple_end hh st.1 st.2 (by simp) hE
end
end PySem
namespace L2
open PySem PySem.Spec PyProof.Rows
/-- the tuple at a, each item in a new pair -/
def PvIteT (K : PySem.W.Frag) (a : Addr) : It :=
  ⟨fun i H => ∃ (xs : List V) (x : V), SqT K H a xs ∧ xs[i]? = some x, fun i H v H' => ∃ T x, v = .ref T ∧ H T = none ∧ H' = upd H T (.tup [.int (i : Nat), x]) ∧ ∀ xs, SqT K H a xs → xs[i]? = some x, fun i H => ∃ xs : List V, SqT K H a xs ∧ xs.length ≤ i⟩
theorem pvTurnEnumT {P : Program} {w : World} {K : PySem.W.Frag} {elts : List Expr} {kk : Nat} {tpos : Pos} (a e it : Addr) :
    Turn P w K (.Tuple elts kk tpos) (PvIteT K a) [e, it] e (fun i h => (∃ old, IsEnum h e it ((i : Nat) : Int) old) ∧ h.IsTupleIter it a i ∧ e ≠ it ∧ a ≠ it ∧ a ≠ e) where
  mem := by simp
  obj := fun i h st b hb => by
    obtain ⟨⟨old, he⟩, ⟨o, ho, hc, hd⟩, _⟩ := st
    have e' : b = e ∨ b = it := by simpa using hb
    rcases e' with z | z
    · rw [z]; exact ⟨_, he, fun v q => nomatch q⟩
    · rw [z]; exact ⟨o, ho, fun v q => by rw [hd] at q; cases q⟩
  keep := fun i h h' st k => let ⟨⟨old, he⟩, ⟨o, ho, r⟩, hne⟩ := st; ⟨⟨old, k e (by simp) _ he⟩, ⟨o, k it (by simp) o ho, r⟩, hne⟩
  item := by
    intro X hP hw hK hc i pins s σ H E I hf st hg
    subst hP hw hK
    obtain ⟨⟨old, he⟩, hit, hne, hai, hae⟩ := st
    obtain ⟨xs, x, hq, hx⟩ := hg
    obtain ⟨its, rv, p, hz⟩ := I.tuple hq
    obtain ⟨u, hu, ru⟩ := rv.get hx
    have hel : e < s.heap.objs.size := Heap.lt_size he
    have hil : it < s.heap.objs.size := by obtain ⟨_, q, _⟩ := hit; exact Heap.lt_size q
    have hlt : i < its.toArray.size := by
      have := (List.getElem?_eq_some_iff.mp hu).1
      simpa using this
    refine wpAny_pyNext_enum_itemD (pvDrawsT (show X.A.in1.handled = none from I.ok.hd hc) it a hai its.toArray) he ⟨hit, p⟩ hlt hne (by simp [hne, Ne.symm hae]) fun v h' tk hv ho hst' hT hsz hk => ?_
    have hv' : its.toArray[i]? = some u := by simpa using hu
    rw [hv'] at hv
    cases hv
    refine ⟨_, rfl, wpAny_letOwnedTupleGo_enum (s := { s with heap := h', toks := tk + 1 }) ho fun h'' he' sb => ?_⟩
    have hT2 : h''.get? s.heap.objs.size = some { cls := .type "tuple", data := .seq #[.int i tk, u] } := (sb.2 _ (Nat.ne_of_gt hel)).trans hT
    have new : ObjOk X.prog X.w (upd H s.heap.objs.size (.tup [.int (i : Nat), x])) h'' s.heap.objs.size (.tup [.int (i : Nat), x]) :=
      ⟨by show 2 ≤ sizeLine; decide, [.int i tk, u], .cons ⟨_, rfl⟩ (.cons ru .nil), ⟨_, hT2, rfl, _, rfl⟩⟩
    have I1 : Inv X pins σ (upd H s.heap.objs.size (.tup [.int (i : Nat), x])) { s with heap := h'', toks := tk + 1 } :=
      I.turnedNew (ch := [e, it]) (fun b ob hb q => (sb.2 b (fun z => hb (by simp [z]))).trans (hk b ob (fun z => hb (by simp [z])) (fun z => hb (by simp [z])) q)) hf (Nat.le_refl _) new
    obtain ⟨oi, hoi, roi⟩ := hst'.1
    refine ⟨.ref s.heap.objs.size, _, I1, rfl, ⟨_, x, rfl, I.hok.fresh (Nat.le_refl _), rfl, fun ys hy => by rw [I.tuple_inj hy hq]; exact hx⟩, ⟨⟨u, ?_⟩, ⟨oi, (sb.2 it (Ne.symm hne)).trans hoi, roi⟩, hne, hai, hae⟩, fun b hb => ?_⟩
    · have e1 : ((i + 1 : Nat) : Int) = (i : Int) + 1 := by omega
      rw [e1]; exact he'
    · have hb' : b < s.heap.objs.size := by
        have e' : b = e ∨ b = it := by simpa using hb
        rcases e' with z | z
        · rw [z]; exact hel
        · rw [z]; exact hil
      rw [upd_ne (Nat.ne_of_lt hb')]
      exact (hf b hb).1
  done := by
    intro X hP hw hK hc i pins s σ H E I hf st hg
    subst hP hw hK
    obtain ⟨⟨old, he⟩, hit, hne, hai, hae⟩ := st
    obtain ⟨xs, hq, hx⟩ := hg
    obtain ⟨its, rv, p, hz⟩ := I.tuple hq
    obtain ⟨f0, f1, f2, f3, f4, f5⟩ := hf it (by simp)
    have hl := rv.length
    have hT : s.TypeIs (.ref e) "enumerate" := ⟨_, he, rfl⟩
    unfold pyNext
    refine wpAny_bind (wpAny_attempt (wpAny_callSpecial?_slot (name := Str.ofString "__next__") hT PySem.F.slot_enumerate_next
      (wpAny_call_entry PySem.F.slot_enumerate_next hT PySem.F.entry_enumerate_next ?_ (PySem.F.args_enumerate_next_1 _))))
    show wpAny _ _ (field (.ref e) 2 >>= _) _ _ _
    refine wpAny_bind (wpAny_field he rfl (x := .ref it) rfl ?_)
    refine wpAny_bind (RZ.nextOf_tuple_end (I.ok.hd hc) hit p (by simp; omega) fun h' x he' hx' => ?_)
    obtain ⟨o, ho, hcl⟩ := hx'
    refine wpAny_bind (wpAny_isInstance (T := "StopIteration") (b := true) ⟨o, ho, hcl⟩ isSubtype_stop ?_)
    exact wpAny_pure ⟨rfl, I.turned (t' := s.toks) (fun b o hb q => he' b o hb q) f0 f1 f3 f4 f5⟩
  self := fun A i s Q E st h => let ⟨⟨_, he⟩, _⟩ := st; wpAny_pyIter_enum he h
def pvIEnumT (K : PySem.W.Frag) (ta : TA) : TI := fun σ H R => ta σ H fun vs H1 => ∃ a xs, vs = [.ref a] ∧ SqT K H1 a xs ∧ R (PvIteT K a) H1
theorem pvPiEnumT {X : Cx} {e : Expr} {ta : TA} {p pos tpos : Pos} {elts : List Expr} {kk : Nat} (hg : Gl X "enumerate") (hm : X.mg "enumerate" = none) (ha : PA X [e] ta) (hs : starEach [e] X.env = [(false, eval e X.env)] := by rfl) :
    PI X (.Tuple elts kk tpos) (.Call (.Name "enumerate" p) [e] [] pos) (pvIEnumT X.K ta) := by
  refine ⟨fun pins s σ H R I h => ?_⟩
  refine Call_ (ld_blt I hg hm boot_enumerate (PyProof.Rows.callWith_type1 (thn (ha.run pos pins s σ H _ I h) fun us s1 ⟨vs, H1, I1, r1, q1⟩ => ?_) hs rfl))
  obtain ⟨a, xs, ex, hq, q⟩ := q1
  subst ex
  cases r1 with
  | cons r rr =>
    cases rr
    cases r
    obtain ⟨its, rv, p', hz⟩ := I1.tuple hq
    have hal : a < s1.heap.objs.size := by obtain ⟨_, q, _⟩ := p'; exact Heap.lt_size q
    refine pvCallEnumT p' fun h' he hit hsz hk => wpAny_pyIter_enum he ?_
    have I2 : Inv X pins σ H1 { s1 with heap := h' } := I1.kept (t' := s1.toks) hk
    refine ⟨s1.heap.objs.size + 1, [s1.heap.objs.size + 1, s1.heap.objs.size], _, _, H1, rfl, I2, pvTurnEnumT a (s1.heap.objs.size + 1) s1.heap.objs.size, ⟨⟨.none, he⟩, hit, Nat.succ_ne_self _, Nat.ne_of_lt hal, Nat.ne_of_lt (Nat.lt_succ_of_lt hal)⟩, fun b hb => ?_, q⟩
    have e' : b = s1.heap.objs.size + 1 ∨ b = s1.heap.objs.size := by simpa using hb
    have hle : s1.heap.objs.size ≤ b := by
      rcases e' with z | z
      · rw [z]; exact Nat.le_add_right _ _
      · rw [z]; exact Nat.le_refl _
    exact I1.fpOk hle (I1.hok.fresh hle)
end L2
-- PvIter
set_option maxRecDepth 100000
namespace Pv
open PySem L2
open RZ (ItzT pi_zipA)
/-- J gives the items ds, whatever has been laid beside the ground -/
def WalkD (G : Gx) (J : It) (ds : List PV) (Fz : Hp) : Prop :=
  Walk J ds.length (fun H => Same Fz H) (fun i H x H' => ∀ Fz2, Same Fz Fz2 → Same Fz2 H → ∃ Fz3, Ext Fz2 H Fz3 H' ∧ ∃ d, ds[i]? = some d ∧ RF G.K Fz3 x d)
section
variable (G : Gx) (cf : Nat → List Ob → CR) (lk : List Nat) (cn : Nat → Str) (W : WX)
def tIt (it : IT) : TI := fun σ H R => ∃ env Fz, StOk G env σ Fz H ∧ PostE G cn W env σ Fz H (evIt cf lk it env) fun ds env' Fz' H' => ∀ J, WalkD G J ds Fz' → R J H'
end
theorem PI.imp {X : Cx} {tg e : Expr} {t t' : TI} (h : PI X tg e t) (i : ∀ σ H Q, t' σ H Q → t σ H Q) : PI X tg e t' := ⟨fun pins s σ H Q I q => h.run pins s σ H Q I (i σ H Q q)⟩
section
variable {K : PySem.W.Frag} {Fz : Hp}
theorem RFs.getV : ∀ {ds : List PV} {vs : List V} {i : Nat} {v : V}, RFs K Fz vs ds → vs[i]? = some v → ∃ d, ds[i]? = some d ∧ RF K Fz v d
  | [], _, _, _, r, e => by cases r; simp at e
  | _ :: _, _, 0, _, .cons a b, e => by simp at e; subst e; exact ⟨_, rfl, a⟩
  | _ :: ds, _, i + 1, _, .cons a b, e => by
    obtain ⟨v, h1, h2⟩ := RFs.getV (i := i) b (by simpa using e)
    exact ⟨v, by simpa using h1, h2⟩
end
section
variable {G : Gx} {Fz : Hp}
theorem walkD_list {a : Addr} {vs : List V} {xs : List PV} (ha : Fz a = some (.lst vs)) (hr : RFs G.K Fz vs xs) : WalkD G (Itl G.K a) xs Fz := by
  have w := walk_list (K := G.K) (a := a) (xs := vs)
  rw [hr.length] at w
  refine w.mono (fun H h => SqL.of (h _ _ ha)) fun i H x H' _ _ y Fz2 h1 h2 => ?_
  obtain ⟨rfl, y⟩ := y
  obtain ⟨d, e1, e2⟩ := hr.getV y
  exact ⟨Fz2, Ext.refl h2, d, e1, e2.mono h1⟩
theorem walkD_tup {a : Addr} {vs : List V} {xs : List PV} (ha : SqT G.K Fz a vs) (hr : RFs G.K Fz vs xs) : WalkD G (Itt G.K a) xs Fz := by
  have w := walk_tup (K := G.K) (a := a) (xs := vs)
  rw [hr.length] at w
  refine w.mono (fun H h => SqT.mono h ha) fun i H x H' _ _ y Fz2 h1 h2 => ?_
  obtain ⟨rfl, y⟩ := y
  obtain ⟨d, e1, e2⟩ := hr.getV y
  exact ⟨Fz2, Ext.refl h2, d, e1, e2.mono h1⟩
theorem walkD_str {z : Str} (hz : PyData.strOk z = true) : WalkD G (Its z) (z.cps.toList.map fun c => .str ⟨#[c]⟩) Fz := by
  have w := walk_str (z := z)
  have hl : (z.cps.toList.map fun c => PyData.str ⟨#[c]⟩).length = z.cps.size := by simp
  unfold WalkD
  rw [hl]
  refine w.mono (fun H h => trivial) fun i H x H' _ _ y Fz2 h1 h2 => ?_
  obtain ⟨rfl, c, hc, rfl⟩ := y
  refine ⟨Fz2, Ext.refl h2, .str ⟨#[c]⟩, ?_, .str ?_⟩
  · rw [List.getElem?_map, Array.getElem?_toList, hc]; rfl
  · have hm : c ∈ z.cps.toList := List.mem_of_getElem? (i := i) (by rw [Array.getElem?_toList]; exact hc)
    unfold PyData.strOk at hz ⊢
    rw [← Array.all_toList, List.all_eq_true] at hz
    simpa using hz c hm
theorem rangeL_get {lo st : Int} {n i : Nat} (h : i < n) : (rangeL lo n st)[i]? = some (.int (lo + (i : Int) * st)) := by
  unfold rangeL
  rw [List.getElem?_map, List.getElem?_range h]; rfl
theorem rangeL_length {lo st : Int} {n : Nat} : (rangeL lo n st).length = n := by simp [rangeL]
theorem walkD_range {lo : Int} {n : Nat} : WalkD G (Itr lo n) (rangeL lo n 1) Fz := by
  unfold WalkD
  rw [rangeL_length]
  refine (walk_range (lo := lo) (n := n)).mono (fun H h => trivial) fun i H x H' hi _ y Fz2 h1 h2 => ?_
  obtain ⟨rfl, rfl⟩ := y
  exact ⟨Fz2, Ext.refl h2, _, by rw [rangeL_get hi, Int.mul_one], .int _⟩
theorem walkD_rangeC {lo c : Int} {n : Nat} : WalkD G (Itc lo c n) (rangeL lo n c) Fz := by
  unfold WalkD
  rw [rangeL_length]
  refine (walk_rangeC (lo := lo) (c := c) (n := n)).mono (fun H h => trivial) fun i H x H' hi _ y Fz2 h1 h2 => ?_
  obtain ⟨rfl, rfl⟩ := y
  exact ⟨Fz2, Ext.refl h2, _, rangeL_get hi, .int _⟩
theorem enumL_length : ∀ (xs : List PV) (k : Nat), (enumL k xs).length = xs.length
  | [], _ => rfl
  | _ :: xs, k => by rw [enumL, List.length_cons, List.length_cons, enumL_length xs]
theorem enumL_get : ∀ {xs : List PV} {k i : Nat} {d : PV}, xs[i]? = some d → (enumL k xs)[i]? = some (.tuple [.int ((k + i : Nat) : Int), d])
  | [], _, _, _, h => by simp at h
  | x :: xs, k, 0, d, h => by simp at h; subst h; simp [enumL]
  | x :: xs, k, i + 1, d, h => by
    have := enumL_get (k := k + 1) (i := i) (d := d) (by simpa using h)
    rw [enumL, List.getElem?_cons_succ, this]
    congr 4
    omega
/-- new pairs of an iterator -/
theorem pair_new {Fz2 H : Hp} {T : Addr} {x y : V} {d e : PV} (h2 : Same Fz2 H) (hT : H T = none) (hx : RF G.K Fz2 x d) (hy : RF G.K Fz2 y e) :
    ∃ Fz3, Ext Fz2 H Fz3 (upd H T (.tup [x, y])) ∧ RF G.K Fz3 (.ref T) (.tuple [d, e]) := by
  have ff : Same Fz2 (upd Fz2 T (.tup [x, y])) := Same.upd (fz_none h2 hT)
  exact ⟨upd Fz2 T (.tup [x, y]), Ext.newT h2 hT, .tup (SqT.of upd_same) (.cons (hx.mono ff) (.cons (hy.mono ff) .nil))⟩
theorem walkD_enum {a : Addr} {vs : List V} {xs : List PV} (ha : Fz a = some (.lst vs)) (hr : RFs G.K Fz vs xs) : WalkD G (Ite G.K a) (enumL 0 xs) Fz := by
  have w := walk_enum (K := G.K) (a := a) (xs := vs)
  unfold WalkD
  rw [enumL_length, ← hr.length]
  refine w.mono (fun H h => SqL.of (h _ _ ha)) fun i H x H' _ _ y Fz2 h1 h2 => ?_
  obtain ⟨T, x1, y1, rfl, hT, rfl, e1, e2⟩ := y
  cases e1
  obtain ⟨d, e3, e4⟩ := hr.getV e2
  obtain ⟨Fz3, q1, q2⟩ := pair_new h2 hT (.int (i : Nat)) (e4.mono h1)
  refine ⟨Fz3, q1, _, ?_, q2⟩
  rw [enumL_get e3, Nat.zero_add]
theorem walk_enumT {K : PySem.W.Frag} {a : Addr} {xs : List V} : Walk (PvIteT K a) xs.length (fun H => SqT K H a xs) (YPair (fun i => some (.int (i : Nat))) (fun i => xs[i]?)) := by
  refine ⟨fun i _ hi q => ⟨xs, xs[i], q, by simp [hi]⟩, fun _ q => ⟨xs, q, Nat.le_refl _⟩, fun i H v H' _ q y => ?_⟩
  obtain ⟨T, x, h1, h2, h3, h4⟩ := y
  exact ⟨T, .int (i : Nat), x, h1, h2, h3, rfl, h4 xs q⟩
theorem walkD_enumT {a : Addr} {vs : List V} {xs : List PV} (ha : SqT G.K Fz a vs) (hr : RFs G.K Fz vs xs) : WalkD G (PvIteT G.K a) (enumL 0 xs) Fz := by
  have w := walk_enumT (K := G.K) (a := a) (xs := vs)
  unfold WalkD
  rw [enumL_length, ← hr.length]
  refine w.mono (fun H h => SqT.mono h ha) fun i H x H' _ _ y Fz2 h1 h2 => ?_
  obtain ⟨T, x1, y1, rfl, hT, rfl, e1, e2⟩ := y
  cases e1
  obtain ⟨d, e3, e4⟩ := hr.getV e2
  obtain ⟨Fz3, q1, q2⟩ := pair_new h2 hT (.int (i : Nat)) (e4.mono h1)
  refine ⟨Fz3, q1, _, ?_, q2⟩
  rw [enumL_get e3, Nat.zero_add]
theorem zipL_length : ∀ (xs ys : List PV), (zipL xs ys).length = min xs.length ys.length
  | [], _ => by simp [zipL]
  | _ :: _, [] => by simp [zipL]
  | _ :: xs, _ :: ys => by simp [zipL, zipL_length xs ys]
theorem zipL_get : ∀ {xs ys : List PV} {i : Nat} {d e : PV}, xs[i]? = some d → ys[i]? = some e → (zipL xs ys)[i]? = some (.tuple [d, e])
  | [], _, _, _, _, h, _ => by simp at h
  | _ :: _, [], _, _, _, _, h => by simp at h
  | _ :: _, _ :: _, 0, _, _, h1, h2 => by simp at h1 h2; subst h1 h2; simp [zipL]
  | _ :: xs, _ :: ys, i + 1, d, e, h1, h2 => by
    rw [zipL, List.getElem?_cons_succ]
    exact zipL_get (by simpa using h1) (by simpa using h2)
theorem walkD_zip {a b : Addr} {vs ws : List V} {xs ys : List PV} (ha : Fz a = some (.lst vs)) (hr : RFs G.K Fz vs xs) (hb : Fz b = some (.lst ws)) (hs : RFs G.K Fz ws ys) : WalkD G (Itz G.K a b) (zipL xs ys) Fz := by
  have w := walk_zip (K := G.K) (a := a) (b := b) (xs := vs) (ys := ws) rfl
  unfold WalkD
  rw [zipL_length, ← hr.length, ← hs.length]
  refine w.mono (fun H h => ⟨SqL.of (h _ _ ha), SqL.of (h _ _ hb)⟩) fun i H x H' _ _ y Fz2 h1 h2 => ?_
  obtain ⟨T, x1, y1, rfl, hT, rfl, e1, e2⟩ := y
  obtain ⟨d, e3, e4⟩ := hr.getV e1
  obtain ⟨d2, e5, e6⟩ := hs.getV e2
  obtain ⟨Fz3, q1, q2⟩ := pair_new h2 hT (e4.mono h1) (e6.mono h1)
  exact ⟨Fz3, q1, _, zipL_get e3 e5, q2⟩
theorem walkD_zipT {a b : Addr} {vs ws : List V} {xs ys : List PV} (ha : SqT G.K Fz a vs) (hr : RFs G.K Fz vs xs) (hb : SqT G.K Fz b ws) (hs : RFs G.K Fz ws ys) : WalkD G (ItzT G.K a b) (zipL xs ys) Fz := by
  unfold WalkD
  rw [zipL_length, ← hr.length, ← hs.length]
  refine ⟨fun i H hi h => ?_, fun H h => ?_, fun i H v H' hi h y Fz2 h1 h2 => ?_⟩
  · have q1 : i < vs.length := by omega
    have q2 : i < ws.length := by omega
    exact ⟨vs, ws, vs[i], ws[i], SqT.mono h ha, SqT.mono h hb, by simp [q1], by simp [q2]⟩
  · exact ⟨vs, ws, SqT.mono h ha, SqT.mono h hb, by omega⟩
  · obtain ⟨T, x1, y1, rfl, hT, rfl, e1, e2⟩ := y
    obtain ⟨d, e3, e4⟩ := hr.getV (e1 vs (SqT.mono h ha))
    obtain ⟨d2, e5, e6⟩ := hs.getV (e2 ws (SqT.mono h hb))
    obtain ⟨Fz3, q1, q2⟩ := pair_new h2 hT (e4.mono h1) (e6.mono h1)
    exact ⟨Fz3, q1, _, zipL_get e3 e5, q2⟩
end

section
variable {X : Cx} {G : Gx} {cf : Nat → List Ob → CR} {lk : List Nat} {cn : Nat → Str} {W : WX} {tg e a b c : Expr}
/-- over a value -/
theorem it_seq {ir : IE} (hK : X.K = G.K) (h : PE X e (tFz G cf lk cn W ir)) : PI X tg e (tIt G cf lk cn W (.seq ir)) := by
  refine ⟨fun pins s σ H R I ⟨env, Fz, st, p⟩ => ?_⟩
  rw [evIt, ← Rs.assoc] at p
  have p : PostE G cn W env σ Fz H ((evZ cf lk ir env).bind fun d env => optR (itemsOf d) env) (fun ds env' Fz' H' => ∀ J, WalkD G J ds Fz' → R J H') := p
  cases hz : evZ cf lk ir env with
  | no => rw [hz] at p; exact p.elim
  | ex c xs env1 =>
    rw [hz] at p
    exact (pi_list h).run pins s σ H R I ⟨env, Fz, st, by rw [hz]; exact p⟩
  | ok d env1 =>
    rw [hz] at p
    have p : PostE G cn W env σ Fz H (optR (itemsOf d) env1) (fun ds env' Fz' H' => ∀ J, WalkD G J ds Fz' → R J H') := p
    cases d with
    | list xs =>
      refine (pi_list h).run pins s σ H R I ⟨env, Fz, st, ?_⟩
      rw [hz]
      intro Fz1 H1 s1 f1 x r
      cases r with
      | lst ha hr => exact ⟨_, rfl, ⟨_, SqL.of (s1.sub _ _ ha)⟩, hK ▸ p Fz1 H1 s1 f1 _ (walkD_list ha hr)⟩
    | tuple xs =>
      refine (pi_tup h).run pins s σ H R I ⟨env, Fz, st, ?_⟩
      rw [hz]
      intro Fz1 H1 s1 f1 x r
      cases r with
      | tup ha hr => exact ⟨_, rfl, ⟨_, hK ▸ SqT.mono s1.sub ha⟩, hK ▸ p Fz1 H1 s1 f1 _ (walkD_tup ha hr)⟩
    | str z =>
      refine (pi_str h).run pins s σ H R I ⟨env, Fz, st, ?_⟩
      rw [hz]
      intro Fz1 H1 s1 f1 x r
      cases r with
      | str ha => exact ⟨_, rfl, p Fz1 H1 s1 f1 _ (walkD_str ha)⟩
    | none => exact p.elim
    | bool _ => exact p.elim
    | int _ => exact p.elim
    | dict _ => exact p.elim
theorem it_enum {ir : IE} {p pos tpos : Pos} {elts : List Expr} {kk : Nat} (hK : X.K = G.K) (hg : Gl X "enumerate") (hm : X.mg "enumerate" = none) (h : PE X e (tFz G cf lk cn W ir)) (hs : notStar e = true) :
    PI X (.Tuple elts kk tpos) (.Call (.Name "enumerate" p) [e] [] pos) (tIt G cf lk cn W (.enum ir)) := by
  have hl := pi_enum (p := p) (pos := pos) (tpos := tpos) (elts := elts) (kk := kk) hg hm (pa_cons h pa_nil (star_cons hs)) (star_cons hs)
  have ht := pvPiEnumT (p := p) (pos := pos) (tpos := tpos) (elts := elts) (kk := kk) hg hm (pa_cons h pa_nil (star_cons hs)) (star_cons hs)
  refine ⟨fun pins s σ H R I ⟨env, Fz, st, p⟩ => ?_⟩
  rw [evIt, ← Rs.assoc] at p
  have p : PostE G cn W env σ Fz H ((evZ cf lk ir env).bind fun d env => optR ((listOf d).map (enumL 0)) env) (fun ds env' Fz' H' => ∀ J, WalkD G J ds Fz' → R J H') := p
  cases hz : evZ cf lk ir env with
  | no => rw [hz] at p; exact p.elim
  | ex c xs env1 =>
    rw [hz] at p
    exact hl.run pins s σ H R I ⟨env, Fz, st, by rw [hz]; exact p⟩
  | ok d env1 =>
    rw [hz] at p
    have p : PostE G cn W env σ Fz H (optR ((listOf d).map (enumL 0)) env1) (fun ds env' Fz' H' => ∀ J, WalkD G J ds Fz' → R J H') := p
    cases d with
    | list xs =>
      refine hl.run pins s σ H R I ⟨env, Fz, st, ?_⟩
      rw [hz]
      intro Fz1 H1 s1 f1 x r
      cases r with
      | lst ha hr => exact ⟨_, _, rfl, SqL.of (s1.sub _ _ ha), hK ▸ p Fz1 H1 s1 f1 _ (walkD_enum ha hr)⟩
    | tuple xs =>
      refine ht.run pins s σ H R I ⟨env, Fz, st, ?_⟩
      rw [hz]
      intro Fz1 H1 s1 f1 x r
      cases r with
      | tup ha hr => exact ⟨_, _, rfl, hK ▸ SqT.mono s1.sub ha, hK ▸ p Fz1 H1 s1 f1 _ (walkD_enumT ha hr)⟩
    | str z => exact p.elim
    | none => exact p.elim
    | bool _ => exact p.elim
    | int _ => exact p.elim
    | dict _ => exact p.elim
theorem it_zip {ia ib : IE} {p pos tpos : Pos} {elts : List Expr} {kk : Nat} (hK : X.K = G.K) (hg : Gl X "zip") (hm : X.mg "zip" = none) (ha : PE X a (tFz G cf lk cn W ia)) (hb : PE X b (tFz G cf lk cn W ib)) (hs : notStar a = true) (hs2 : notStar b = true) :
    PI X (.Tuple elts kk tpos) (.Call (.Name "zip" p) [a, b] [] pos) (tIt G cf lk cn W (.zip ia ib)) := by
  refine PI.imp (pi_zipA hg hm (pa_cons ha (pa_cons hb pa_nil (star_cons hs2)) (star_cons hs)) (star_cons hs) (by rw [star_cons hs2]; rfl)) fun σ H R ⟨env, Fz, st, p⟩ => ?_
  rw [evIt, ← Rs.assoc] at p
  have p : PostE G cn W env σ Fz H ((evZ cf lk ia env).bind fun da env => (evE cf lk ib env).bind fun ob env => (fzR ob env).bind fun db env => optR (zipOf da db) env) (fun ds env' Fz' H' => ∀ J, WalkD G J ds Fz' → R J H') := p
  refine ⟨env, Fz, st, p.split0.mono fun da env1 Fz1 H1 s1 f1 q x r => ?_⟩
  rw [← Rs.assoc] at q
  have q : PostE G cn W env σ Fz H ((evZ cf lk ib env1).bind fun db env => optR (zipOf da db) env) (fun ds env' Fz' H' => ∀ J, WalkD G J ds Fz' → R J H') := q
  refine ⟨env1, Fz1, s1, (q.split0.shift f1).mono fun db env2 Fz2 H2 s2 f2 q y r2 => ?_⟩
  have f := f1.trans f2
  have r := r.mono f2.ff
  cases da with
  | list xs =>
    cases db with
    | list ys =>
      cases r with
      | lst h1 h2 =>
        cases r2 with
        | lst h3 h4 => exact ⟨_, _, _, _, rfl, .inl ⟨SqL.of (s2.sub _ _ h1), SqL.of (s2.sub _ _ h3), hK ▸ q Fz2 H2 s2 f _ (walkD_zip h1 h2 h3 h4)⟩⟩
    | _ => exact q.elim
  | tuple xs =>
    cases db with
    | tuple ys =>
      cases r with
      | tup h1 h2 =>
        cases r2 with
        | tup h3 h4 => exact ⟨_, _, _, _, rfl, .inr ⟨hK ▸ SqT.mono s2.sub h1, hK ▸ SqT.mono s2.sub h3, hK ▸ q Fz2 H2 s2 f _ (walkD_zipT h1 h2 h3 h4)⟩⟩
    | _ => exact q.elim
  | str z => exact q.elim
  | none => exact q.elim
  | bool _ => exact q.elim
  | int _ => exact q.elim
  | dict _ => exact q.elim
end
end Pv
-- PvComp
set_option maxRecDepth 100000
namespace Pv
open PySem L2
section
variable {X : Cx} {G : Gx} {cf : Nat → List Ob → CR} {lk : List Nat} {cn : Nat → Str} {W : WX} {tg e a b c : Expr}
theorem rangeV_one {d : PV} {xs : List PV} (h : rangeV [d] = some xs) : ∃ j : Int, d = .int j ∧ -(2 ^ 62) ≤ j ∧ j < 2 ^ 62 ∧ xs = rangeL 0 j.toNat 1 := by
  cases d with
  | int j =>
    rw [rangeV] at h
    obtain ⟨h1, h2⟩ := ite_some h
    obtain ⟨h3, h4⟩ := b2 h1
    exact ⟨j, rfl, of_decide_eq_true h3, of_decide_eq_true h4, h2.symm⟩
  | _ => cases h
theorem rangeV_two {d e : PV} {xs : List PV} (h : rangeV [d, e] = some xs) : ∃ i j : Int, d = .int i ∧ e = .int j ∧ (-(2 ^ 62) ≤ i ∧ i < 2 ^ 62 ∧ -(2 ^ 62) ≤ j ∧ j < 2 ^ 62) ∧ xs = rangeL i (j - i).toNat 1 := by
  cases d with
  | int i =>
    cases e with
    | int j =>
      rw [rangeV] at h
      obtain ⟨h1, h2⟩ := ite_some h
      obtain ⟨h3, h4⟩ := b2 h1
      obtain ⟨h5, h6⟩ := b2 h3
      obtain ⟨h7, h8⟩ := b2 h5
      exact ⟨i, j, rfl, rfl, ⟨of_decide_eq_true h7, of_decide_eq_true h8, of_decide_eq_true h6, of_decide_eq_true h4⟩, h2.symm⟩
    | _ => cases h
  | _ => cases h
theorem rangeV_three {d e f : PV} {xs : List PV} (h : rangeV [d, e, f] = some xs) : ∃ i j : Int, d = .int i ∧ e = .int j ∧ f = .int (-1) ∧ (-(2 ^ 62) ≤ i ∧ i < 2 ^ 62 ∧ -(2 ^ 62) ≤ j ∧ j < 2 ^ 62) ∧ xs = rangeL i (i - j).toNat (-1) := by
  unfold rangeV at h
  split at h
  · rename_i heq; cases heq
  · rename_i heq; cases heq
  · rename_i i j heq
    cases heq
    obtain ⟨h1, h2⟩ := ite_some h
    obtain ⟨h3, h4⟩ := b2 h1
    obtain ⟨h5, h6⟩ := b2 h3
    obtain ⟨h7, h8⟩ := b2 h5
    exact ⟨i, j, rfl, rfl, rfl, ⟨of_decide_eq_true h7, of_decide_eq_true h8, of_decide_eq_true h6, of_decide_eq_true h4⟩, h2.symm⟩
  · cases h
theorem it_range1 {ia : IE} {i1 : Bool} {p pos : Pos} (hg : Gl X "range") (hm : X.mg "range" = none) (h : PE X a (tFz G cf lk cn W ia)) (hs : notStar a = true) :
    PI X tg (.Call (.Name "range" p) [a] [] pos) (tIt G cf lk cn W (.range (.cons i1 ia .nil))) := by
  refine PI.imp (pi_range1 hg hm (pa_cons h pa_nil (star_cons hs)) (star_cons hs)) fun σ H R ⟨env, Fz, st, p⟩ => ?_
  rw [evIt, evF_cons] at p
  refine ⟨env, Fz, st, p.split0.split0.mono fun d env1 Fz1 H1 s1 f1 q x r => ?_⟩
  rw [evF] at q
  have q : PostE G cn W env σ Fz H (optR (rangeV [d]) env1) (fun ds env' Fz' H' => ∀ J, WalkD G J ds Fz' → R J H') := q Fz1 H1 s1 f1
  cases e : rangeV [d] with
  | none => rw [e] at q; exact q.elim
  | some xs =>
    rw [e] at q
    obtain ⟨j, rfl, h1, h2, rfl⟩ := rangeV_one e
    cases r
    exact ⟨j, rfl, h1, h2, q Fz1 H1 s1 f1 _ walkD_range⟩
theorem it_range2 {ia ib : IE} {i1 i2 : Bool} {p pos : Pos} (hg : Gl X "range") (hm : X.mg "range" = none) (h : PE X a (tFz G cf lk cn W ia)) (h' : PE X b (tFz G cf lk cn W ib)) (hs : notStar a = true) (hs2 : notStar b = true) :
    PI X tg (.Call (.Name "range" p) [a, b] [] pos) (tIt G cf lk cn W (.range (.cons i1 ia (.cons i2 ib .nil)))) := by
  refine PI.imp (pi_range2 hg hm (pa_cons h (pa_cons h' pa_nil (star_cons hs2)) (star_cons hs)) (by rw [star_cons hs, star_cons hs2]; rfl) (star_cons hs2)) fun σ H R ⟨env, Fz, st, p⟩ => ?_
  rw [evIt, evF_cons] at p
  refine ⟨env, Fz, st, p.split0.split0.mono fun d env1 Fz1 H1 s1 f1 q x r => ?_⟩
  rw [evF_cons] at q
  refine ⟨env1, Fz1, s1, (q.split0.split0.shift f1).mono fun d2 env2 Fz2 H2 s2 f2 q y r2 => ?_⟩
  have f := f1.trans f2
  rw [evF] at q
  have q : PostE G cn W env σ Fz H (optR (rangeV [d, d2]) env2) (fun ds env' Fz' H' => ∀ J, WalkD G J ds Fz' → R J H') := q Fz2 H2 s2 f Fz2 H2 s2 f
  cases e : rangeV [d, d2] with
  | none => rw [e] at q; exact q.elim
  | some xs =>
    rw [e] at q
    obtain ⟨i, j, rfl, rfl, h1, rfl⟩ := rangeV_two e
    cases r; cases r2
    exact ⟨i, j, rfl, h1, q Fz2 H2 s2 f _ walkD_range⟩
theorem it_range3 {ia ib ic : IE} {i1 i2 i3 : Bool} {p pos : Pos} (hg : Gl X "range") (hm : X.mg "range" = none) (h : PE X a (tFz G cf lk cn W ia)) (h' : PE X b (tFz G cf lk cn W ib)) (h'' : PE X c (tFz G cf lk cn W ic))
    (hs : notStar a = true) (hs2 : notStar b = true) (hs3 : notStar c = true) :
    PI X tg (.Call (.Name "range" p) [a, b, c] [] pos) (tIt G cf lk cn W (.range (.cons i1 ia (.cons i2 ib (.cons i3 ic .nil))))) := by
  refine PI.imp (pi_range3 hg hm (pa_cons h (pa_cons h' (pa_cons h'' pa_nil (star_cons hs3)) (star_cons hs2)) (star_cons hs)) (star_cons hs) (by rw [star_cons hs2, star_cons hs3]; rfl)) fun σ H R ⟨env, Fz, st, p⟩ => ?_
  rw [evIt, evF_cons] at p
  refine ⟨env, Fz, st, p.split0.split0.mono fun d env1 Fz1 H1 s1 f1 q x r => ?_⟩
  rw [evF_cons] at q
  refine ⟨env1, Fz1, s1, (q.split0.split0.shift f1).mono fun d2 env2 Fz2 H2 s2 f2 q y r2 => ?_⟩
  have f := f1.trans f2
  rw [evF_cons] at q
  refine ⟨env2, Fz2, s2, (q.split0.split0.shift f).mono fun d3 env3 Fz3 H3 s3 f3 q z r3 => ?_⟩
  have f := f.trans f3
  rw [evF] at q
  have q : PostE G cn W env σ Fz H (optR (rangeV [d, d2, d3]) env3) (fun ds env' Fz' H' => ∀ J, WalkD G J ds Fz' → R J H') := q Fz3 H3 s3 f Fz3 H3 s3 f Fz3 H3 s3 f
  cases e : rangeV [d, d2, d3] with
  | none => rw [e] at q; exact q.elim
  | some xs =>
    rw [e] at q
    obtain ⟨i, j, rfl, rfl, rfl, ⟨h1, h2, h3, h4⟩, rfl⟩ := rangeV_three e
    cases r; cases r2; cases r3
    exact ⟨i, j, -1, _, rfl, RgC.neg h1 h2 h3 h4, q Fz3 H3 s3 f _ walkD_rangeC⟩
end

theorem wipe_get {σ : St} {i : Nat} : ∀ {vs : List Nat}, i ∉ vs → (wipe σ vs)[i]? = σ[i]?
  | [], _ => rfl
  | v :: vs, h => by
    simp only [List.mem_cons, not_or] at h
    unfold wipe
    rw [List.getElem?_set_ne (fun e => h.1 e.symm), wipe_get h.2]
theorem wipe_in {σ : St} {i : Nat} : ∀ {vs : List Nat}, i ∈ vs → i < σ.length → (wipe σ vs)[i]? = some none
  | [], h, _ => by simp at h
  | v :: vs, h, hl => by
    unfold wipe
    by_cases e : v = i
    · subst e; rw [List.getElem?_set_self (by rw [wipe_length]; exact hl)]
    · rw [List.getElem?_set_ne e]
      simp only [List.mem_cons] at h
      exact wipe_in (h.resolve_left fun z => e z.symm) hl
theorem wipe_ext {σ τ : St} {vs : List Nat} (hl : σ.length = τ.length) (h : ∀ i, i ∉ vs → σ[i]? = τ[i]?) : wipe σ vs = wipe τ vs := by
  apply List.ext_getElem?
  intro i
  by_cases hi : i ∈ vs
  · by_cases hlt : i < σ.length
    · rw [wipe_in hi hlt, wipe_in hi (hl ▸ hlt)]
    · rw [List.getElem?_eq_none (by rw [wipe_length]; omega), List.getElem?_eq_none (by rw [wipe_length]; omega)]
  · rw [wipe_get hi, wipe_get hi, h i hi]
theorem wipeL_get {l : List Nat} {env : En} {i : Nat} (h : i ∉ l) : (wipeL env l)[i]? = env[i]? := by
  induction l generalizing env with
  | nil => rfl
  | cons k l ih =>
    simp only [List.mem_cons, not_or] at h
    show (wipeL (env.set k none) l)[i]? = _
    rw [ih h.2, List.getElem?_set_ne (fun e => h.1 e.symm)]
section
variable {G : Gx}
theorem StOk.wipe2 {env : En} {σ : St} {Fz H : Hp} (s : StOk G env σ Fz H) (l : List Nat) : StOk G (wipeL env l) (L2.wipe σ l) Fz H := by
  refine ⟨by rw [wipeL_length, wipe_length]; exact s.len, s.sub, fun i o h => ?_, fun i j a oi oj hne h1 h2 m1 m2 e1 e2 => ?_⟩
  · obtain ⟨h1, h2⟩ := wipeL_some l env h
    rw [wipe_get h2]
    exact s.rep i o h1
  · obtain ⟨p1, p2⟩ := wipeL_some l env h1
    obtain ⟨q1, q2⟩ := wipeL_some l env h2
    rw [wipe_get p2] at e1
    rw [wipe_get q2] at e2
    exact s.sep i j a oi oj hne p1 q1 m1 m2 e1 e2
theorem own_wipe2 {env : En} {σ : St} {l : List Nat} {a : Addr} (h : Own (wipeL env l) (L2.wipe σ l) a) : Own env σ a := by
  obtain ⟨i, o, h1, h2, h3⟩ := h
  obtain ⟨p1, p2⟩ := wipeL_some l env h1
  rw [wipe_get p2] at h3
  exact ⟨i, o, p1, h2, h3⟩
/-- a value stored at a name -/
theorem StOk.put {env : En} {σ : St} {Fz H : Hp} (s : StOk G env σ Fz H) {i : Nat} {d : PV} {x : V} (r : RO G Fz H (.v d) x) : StOk G (env.set i (some (.v d))) (σ.set i (some x)) Fz H := by
  refine ⟨by rw [List.length_set, List.length_set]; exact s.len, s.sub, fun j o h => ?_, fun j k a oj ok hne h1 h2 m1 m2 e1 e2 => ?_⟩
  · by_cases e : i = j
    · subst e
      have hl : i < env.length := by
        have := (List.getElem?_eq_some_iff.mp h).1
        rwa [List.length_set] at this
      rw [List.getElem?_set_self hl] at h
      cases h
      exact ⟨x, by rw [List.getElem?_set_self (s.len ▸ hl)], r⟩
    · rw [List.getElem?_set_ne e] at h ⊢
      exact s.rep j o h
  · have g : ∀ (j : Nat) (o : Ob) (a : Addr), (env.set i (some (.v d)))[j]? = some (some o) → o.mut = true → (σ.set i (some x))[j]? = some (some (.ref a)) → env[j]? = some (some o) ∧ σ[j]? = some (some (.ref a)) := fun j o a h m e => by
      by_cases q : i = j
      · subst q
        have hl : i < env.length := by
          have := (List.getElem?_eq_some_iff.mp h).1
          rwa [List.length_set] at this
        rw [List.getElem?_set_self hl] at h
        cases h
        cases m
      · rw [List.getElem?_set_ne q] at h e
        exact ⟨h, e⟩
    obtain ⟨p1, p2⟩ := g j oj a h1 m1 e1
    obtain ⟨q1, q2⟩ := g k ok a h2 m2 e2
    exact s.sep j k a oj ok hne p1 q1 m1 m2 p2 q2
theorem own_put {env : En} {σ : St} {i : Nat} {d : PV} {x : V} {a : Addr} (hl : env.length = σ.length) (h : Own (env.set i (some (.v d))) (σ.set i (some x)) a) : Own env σ a := by
  obtain ⟨j, o, h1, h2, h3⟩ := h
  by_cases q : i = j
  · subst q
    have hl : i < env.length := by
      have := (List.getElem?_eq_some_iff.mp h1).1
      rwa [List.length_set] at this
    rw [List.getElem?_set_self hl] at h1
    cases h1
    cases h2
  · rw [List.getElem?_set_ne q] at h1 h3
    exact ⟨j, o, h1, h2, h3⟩

/-- what a target asks -/
def gTgs : List Nat → TGs
  | [] => gNil
  | i :: is => gCons (gName i) (gTgs is)
def gTg (K : PySem.W.Frag) : List Nat ⊕ Nat → TG
  | .inr i => gName i
  | .inl is => gTup K is.length (gTgs is)
def tgNames : List Nat ⊕ Nat → List Nat
  | .inr i => [i]
  | .inl is => is
theorem gTgs_ok {H : Hp} {P : St → Hp → Prop} : ∀ {is : List Nat} {ds : List PV} {xs : List V} {env env' : En} {σ : St} {Fz : Hp}, StOk G env σ Fz H → RFs G.K Fz xs ds → setTgs env is ds = some env' →
    (∀ σ', StOk G env' σ' Fz H → (∀ a, Own env' σ' a → Own env σ a) → σ'.length = σ.length → (∀ i, i ∉ is → σ'[i]? = σ[i]?) → P σ' H) → gTgs is xs σ H P
  | [], ds, xs, env, env', σ, Fz, s, r, h, k => by
    cases ds with
    | nil => cases r; cases h; exact ⟨rfl, k σ s (fun _ h => h) rfl (fun _ _ => rfl)⟩
    | cons _ _ => cases h
  | i :: is, ds, xs, env, env', σ, Fz, s, r, h, k => by
    cases ds with
    | nil => cases h
    | cons d ds =>
      cases r with
      | @cons x xs _ _ r rs =>
        refine ⟨x, xs, rfl, gTgs_ok (s.put (.v r)) rs h fun σ' s' o' l' g' => k σ' s' (fun a q => own_put s.len (o' a q)) (by rw [l', List.length_set]) fun j hj => ?_⟩
        simp only [List.mem_cons, not_or] at hj
        rw [g' j hj.2, List.getElem?_set_ne (fun e => hj.1 e.symm)]
theorem gTg_ok {H : Hp} {P : St → Hp → Prop} {tg : List Nat ⊕ Nat} {d : PV} {x : V} {env env' : En} {σ : St} {Fz : Hp} (s : StOk G env σ Fz H) (r : RF G.K Fz x d) (h : setTg env tg d = some env')
    (k : ∀ σ', StOk G env' σ' Fz H → (∀ a, Own env' σ' a → Own env σ a) → σ'.length = σ.length → (∀ i, i ∉ tgNames tg → σ'[i]? = σ[i]?) → P σ' H) : gTg G.K tg x σ H P := by
  cases tg with
  | inr i =>
    cases h
    exact k _ (s.put (.v r)) (fun a q => own_put s.len q) (List.length_set ..) fun j hj => List.getElem?_set_ne (fun e => hj (by simp [tgNames, e]))
  | inl is =>
    cases d with
    | tuple ds =>
      cases r with
      | tup ha hr =>
        have h : setTgs env is ds = some env' := h
        have hl : ∀ (is : List Nat) (ds : List PV) (env env' : En), setTgs env is ds = some env' → ds.length = is.length := by
          intro is
          induction is with
          | nil => intro ds env env' h; cases ds with
            | nil => rfl
            | cons _ _ => cases h
          | cons i is ih => intro ds env env' h; cases ds with
            | nil => cases h
            | cons d ds => rw [List.length_cons, List.length_cons, ih ds _ _ h]
        exact ⟨_, _, rfl, SqT.mono s.sub ha, by rw [hr.length, hl _ _ _ _ h], gTgs_ok s hr h k⟩
    | _ => cases h
end
end Pv
-- PvComp2
set_option maxRecDepth 100000
namespace Pv
open PySem L2
section
variable {G : Gx}
theorem restore_length : ∀ (l : List Nat) (env0 env : En), (restore env0 env l).length = env.length
  | [], _, _ => rfl
  | i :: l, env0, env => by
    rw [restore, restore_length l]
    split <;> rw [List.length_set]
/-- what stands behind a block at a name -/
theorem restore_some : ∀ (l : List Nat) (env0 env : En) {i : Nat} {o : Ob}, (restore env0 env l)[i]? = some (some o) →
    (i ∉ l ∧ env[i]? = some (some o)) ∨ (∃ d, o = .v d ∧ env0[i]? = some (some (.v d)))
  | [], _, _, i, o, h => .inl ⟨by simp, h⟩
  | k :: l, env0, env, i, o, h => by
    rw [restore] at h
    rcases restore_some l _ _ h with ⟨h1, h2⟩ | h2
    · by_cases e : k = i
      · subst e
        split at h2
        · rename_i d hd
          by_cases hl : k < env.length
          · rw [List.getElem?_set_self hl] at h2; cases h2; exact .inr ⟨d, rfl, hd⟩
          · rw [List.getElem?_eq_none (by rw [List.length_set]; omega)] at h2; cases h2
        · by_cases hl : k < env.length
          · rw [List.getElem?_set_self hl] at h2; cases h2
          · rw [List.getElem?_eq_none (by rw [List.length_set]; omega)] at h2; cases h2
      · refine .inl ⟨by simp only [List.mem_cons, not_or]; exact ⟨fun z => e z.symm, h1⟩, ?_⟩
        split at h2 <;> (rw [List.getElem?_set_ne e] at h2; exact h2)
    · exact .inr h2
theorem StOk.back {env0 env : En} {σ : St} {Fz0 H0 Fz H : Hp} {own : List Nat} (s0 : StOk G env0 σ Fz0 H0) (ff : Same Fz0 Fz) (s : StOk G (wipeL env own) (L2.wipe σ own) Fz H) : StOk G (restore env0 env own) σ Fz H := by
  have out : ∀ (i : Nat) (o : Ob), i ∉ own → env[i]? = some (some o) → (wipeL env own)[i]? = some (some o) := fun i o hi h => by rw [wipeL_get hi]; exact h
  refine ⟨?_, s.sub, fun i o h => ?_, fun i j a oi oj hne h1 h2 m1 m2 e1 e2 => ?_⟩
  · rw [restore_length]
    have := s.len
    rw [wipeL_length, wipe_length] at this
    exact this
  · rcases restore_some own env0 env h with ⟨h1, h2⟩ | ⟨d, rfl, h2⟩
    · obtain ⟨v, p, q⟩ := s.rep i o (out i o h1 h2)
      rw [wipe_get h1] at p
      exact ⟨v, p, q⟩
    · obtain ⟨v, p, q⟩ := s0.rep i _ h2
      refine ⟨v, p, ?_⟩
      cases q with
      | v r => exact .v (r.mono ff)
      | ro a b => exact .ro (SqL.mono ff a) (b.mono ff)
  · have g : ∀ (i : Nat) (o : Ob), (restore env0 env own)[i]? = some (some o) → o.mut = true → i ∉ own ∧ env[i]? = some (some o) := fun i o h m => by
      rcases restore_some own env0 env h with h | ⟨d, rfl, _⟩
      · exact h
      · cases m
    obtain ⟨p1, p2⟩ := g i oi h1 m1
    obtain ⟨q1, q2⟩ := g j oj h2 m2
    exact s.sep i j a oi oj hne (out i oi p1 p2) (out j oj q1 q2) m1 m2 (by rw [wipe_get p1]; exact e1) (by rw [wipe_get q1]; exact e2)
theorem own_back {env0 env : En} {σ : St} {own : List Nat} {a : Addr} (h : Own (restore env0 env own) σ a) : Own (wipeL env own) (L2.wipe σ own) a := by
  obtain ⟨i, o, h1, h2, h3⟩ := h
  rcases restore_some own env0 env h1 with ⟨p, q⟩ | ⟨d, rfl, _⟩
  · exact ⟨i, o, by rw [wipeL_get p]; exact q, h2, by rw [wipe_get p]; exact h3⟩
  · cases h2
end
section
variable (G : Gx) (cf : Nat → List Ob → CR) (lk : List Nat) (cn : Nat → Str) (W : WX)
def tK (c : IEs) : TT := fun σ H Q => ∃ env Fz, StOk G env σ Fz H ∧ PostE G cn W env σ Fz H (evK cf lk c env) fun b env' Fz' H' => Q b H'
end
theorem FrO.sub {O O1 P P1 : Addr → Prop} {Fz H Fz' H' : Hp} (f : FrO O O1 Fz H Fz' H') (h1 : ∀ a, O a → P a) (h2 : ∀ a, P1 a → O1 a) : FrO P P1 Fz H Fz' H' :=
  ⟨fun a o h n => f.hh a o h fun z => n (h1 a z), f.dm, f.ff, fun a h n z => f.nw a h (fun y => n (h1 a y)) z, fun a h => (f.ow a (h2 a h)).imp (h1 a) id⟩

section
variable {X : Cx} {G : Gx} {cf : Nat → List Ob → CR} {lk : List Nat} {cn : Nat → Str} {W : WX}
abbrev WF : WX := fun _ _ _ _ => False
theorem drop_cons {α : Type} {xs : List α} {i : Nat} {x : α} (h : xs[i]? = some x) : xs.drop i = x :: xs.drop (i + 1) := by
  obtain ⟨hl, e⟩ := List.getElem?_eq_some_iff.mp h
  rw [List.drop_eq_getElem_cons hl, e]
/-- the turns of a comprehension -/
theorem lc_ok {own : List Nat} {tg : List Nat ⊕ Nat} {it : IT} {cond : IEs} {elt : IE} (hK : X.K = G.K) (hown : ∀ i ∈ tgNames tg, i ∈ own) {σ : St} {H : Hp} {Q : VK} (h : tE G cf lk cn W (.lc own tg it cond elt) σ H Q) :
    tLc (tIt G cf lk cn W it) (gTg X.K tg) (tK G cf lk cn WF cond) (tFz G cf lk cn WF elt) own σ H Q := by
  obtain ⟨env, Fz, st, p⟩ := h
  rw [evE] at p
  split at p
  · exact p.elim
  refine ⟨env, Fz, st, p.split0.mono fun ds env0 Fz1 H1 s1 f1 q J wk => ?_⟩
  intro D hD
  generalize hturn : turnL own tg (fun env => evK cf lk cond env) (fun env => evE cf lk elt env) = turn at q
  have fzD : Fz1 D = none := fz_none s1.sub hD
  refine lc_it wk (fun i H' => ∃ (envi : En) (Fzi : Hp) (acc : List PV) (va : List V), StOk G (wipeL envi own) (L2.wipe σ own) Fzi H' ∧
      loopL turn (ds.drop i) acc envi = loopL turn ds [] (wipeL env0 own) ∧ H' D = some (.lst va) ∧ RFs G.K Fzi va acc ∧ Fzi D = none ∧ ¬ Own (wipeL envi own) (L2.wipe σ own) D ∧
      FrO (Own env0 σ) (Own (wipeL envi own) (L2.wipe σ own)) Fz1 H1 Fzi H') ?_ ?_ ?_ ?_
  · -- the start
    have e : Ext Fz1 H1 Fz1 (upd H1 D (.lst [])) := Ext.newL s1.sub hD
    have hw : wipeL (wipeL env0 own) own = wipeL env0 own := by
      apply List.ext_getElem?
      intro i
      by_cases hi : i ∈ own
      · have : ∀ (l : List Nat) (en : En), i ∈ l → ∀ o, (wipeL en l)[i]? ≠ some (some o) := fun l en hl o z => (wipeL_some l en z).2 hl
        have key : ∀ (l : List Nat) (en : En), i ∈ l → i < en.length → (wipeL en l)[i]? = some none := by
          intro l en hl hlen
          cases hz : (wipeL en l)[i]? with
          | none => rw [List.getElem?_eq_none_iff, wipeL_length] at hz; omega
          | some o =>
            cases o with
            | none => rfl
            | some o => exact absurd hz (this l en hl o)
        by_cases hl : i < env0.length
        · rw [key own _ hi (by rw [wipeL_length]; exact hl), key own _ hi hl]
        · rw [List.getElem?_eq_none (by rw [wipeL_length, wipeL_length]; omega), List.getElem?_eq_none (by rw [wipeL_length]; omega)]
      · rw [wipeL_get hi]
    refine ⟨wipeL env0 own, Fz1, [], [], ?_, by rw [List.drop_zero], upd_same, .nil, fzD, fun z => ?_, ?_⟩
    · rw [hw]; exact (s1.wipe2 own).ext e
    · rw [hw] at z
      obtain ⟨i, o, h1, h2, h3⟩ := own_wipe2 z
      obtain ⟨v, p1, p2⟩ := s1.rep i o h1
      rw [h3] at p1
      cases p1
      cases p2 with
      | ml ha _ _ => rw [ha] at hD; cases hD
      | v _ => cases h2
      | ro _ _ => cases h2
      | fn _ => cases h2
    · rw [hw]
      exact (FrO.of_ext (O := Own env0 σ) e).sub (fun _ h => h) (fun a h => own_wipe2 h)
  · rintro i H' hi ⟨envi, Fzi, acc, va, si, _, _, _, _, _, fi⟩
    exact fi.ff.trans si.sub
  · -- a turn
    rintro i x H2 H3 hi ⟨envi, Fzi, acc, va, si, he, hDv, hra, hfD, hnD, fi⟩ y
    obtain ⟨Fz3, ext, d, hd, rx⟩ := y Fzi fi.ff si.sub
    rw [drop_cons hd, loopL] at he
    cases ht : turn d acc envi with
    | no =>
      rw [ht] at he
      rw [← he] at q
      exact q.elim
    | ex c xs env9 =>
      rw [ht] at he
      rw [← he] at q
      exact q.elim
    | ok acc' env' =>
      rw [ht] at he
      have he : loopL turn (ds.drop (i + 1)) acc' env' = loopL turn ds [] (wipeL env0 own) := he
      rw [← hturn, turnL] at ht
      cases hset : setTg (wipeL envi own) tg d with
      | none => rw [hset] at ht; cases ht
      | some env1 =>
        rw [hset] at ht
        simp only at ht
        have s3 := si.ext ext
        rw [hK]
        refine gTg_ok s3 rx hset fun σ2 s4 own4 len4 get4 => ?_
        have hw2 : L2.wipe σ2 own = L2.wipe σ own := by
          have e1 : L2.wipe σ2 own = L2.wipe (L2.wipe σ own) own := wipe_ext len4 fun j hj => get4 j fun z => hj (hown j z)
          rw [e1]
          exact wipe_ext (wipe_length σ own) fun j hj => wipe_get hj
        have hw2' : L2.wipe σ2 own = L2.wipe (L2.wipe σ own) own ∨ True := .inr trivial
        have hww : L2.wipe (L2.wipe σ own) own = L2.wipe σ own := wipe_ext (wipe_length σ own) fun j hj => wipe_get hj
        refine ⟨hw2, ?_⟩
        -- from the state at the turn's start to (env1, σ2)
        have f4 : FrO (Own env0 σ) (Own env1 σ2) Fz1 H1 Fz3 H3 := (fi.trans (FrO.of_ext (O := Own (wipeL envi own) (L2.wipe σ own)) ext)).sub (fun _ h => h) own4
        have hD3 : H3 D = some (.lst va) := ext.hh D _ hDv
        have hfD3 : Fz3 D = none := ext.nw D (by rw [hDv]; simp) hfD
        have hnD3 : ¬ Own env1 σ2 D := fun z => hnD (own4 D z)
        cases hc : evK cf lk cond env1 with
        | no => rw [hc] at ht; cases ht
        | ex _ _ _ => rw [hc] at ht; cases ht
        | ok k env2 =>
          rw [hc] at ht
          simp only [Rs.bind_ok] at ht
          refine ⟨env1, Fz3, s4, ?_⟩
          rw [hc]
          intro Fz5 H5 s5 f5
          have hD5 := f5.hh D _ hD3 hnD3
          have hfD5 := f5.nw D (by rw [hD3]; simp) hnD3 hfD3
          have hnD5 : ¬ Own env2 σ2 D := fun z => (f5.ow D z).elim hnD3 fun w => by rw [hD3] at w; cases w
          have f05 := f4.trans f5
          have hra5 := (hra.mono ext.ff).mono f5.ff
          cases k with
          | false =>
            rw [if_neg (by simp)] at ht
            cases ht
            show (if false = true then _ else _)
            rw [if_neg (by simp)]
            have sw := s5.wipe2 own
            rw [hw2] at sw
            refine ⟨env', Fz5, acc, va, sw, he, hD5, hra5, hfD5, fun z => hnD5 (own_wipe2 (hw2.symm ▸ z)), f05.sub (fun _ h => h) fun a z => own_wipe2 (hw2.symm ▸ z)⟩
          | true =>
            rw [if_pos rfl] at ht
            show (if true = true then _ else _)
            rw [if_pos rfl]
            cases hz : evZ cf lk elt env2 with
            | no => rw [← Rs.assoc] at ht; rw [show (evE cf lk elt env2).bind fzR = evZ cf lk elt env2 from rfl, hz] at ht; cases ht
            | ex _ _ _ => rw [← Rs.assoc] at ht; rw [show (evE cf lk elt env2).bind fzR = evZ cf lk elt env2 from rfl, hz] at ht; cases ht
            | ok z env3 =>
              rw [← Rs.assoc] at ht
              rw [show (evE cf lk elt env2).bind fzR = evZ cf lk elt env2 from rfl, hz] at ht
              simp only [Rs.bind_ok] at ht
              split at ht
              · rename_i hlen
                cases ht
                refine ⟨env2, Fz5, s5, ?_⟩
                rw [hz]
                intro Fz6 H6 s6 f6 vz rz
                have hD6 := f6.hh D _ hD5 hnD5
                have hfD6 := f6.nw D (by rw [hD5]; simp) hnD5 hfD5
                have hnD6 : ¬ Own env' σ2 D := fun z => (f6.ow D z).elim hnD5 fun w => by rw [hD5] at w; cases w
                have hra6 := hra5.mono f6.ff
                refine ⟨va, hD6, by rw [hra6.length]; exact hlen, ?_⟩
                -- the new list has grown
                have sw := s6.wipe2 own
                rw [hw2] at sw
                have hnDw : ¬ Own (wipeL env' own) (L2.wipe σ own) D := fun z => hnD6 (own_wipe2 (hw2.symm ▸ z))
                have s7 : StOk G (wipeL env' own) (L2.wipe σ own) Fz6 (upd H6 D (.lst (va ++ [vz]))) := by
                  refine ⟨sw.len, fun b u hb => ?_, fun j o hj => ?_, sw.sep⟩
                  · have : b ≠ D := fun e => by subst e; rw [hfD6] at hb; cases hb
                    rw [upd_ne this]; exact sw.sub b u hb
                  · obtain ⟨w, w1, w2⟩ := sw.rep j o hj
                    refine ⟨w, w1, ?_⟩
                    cases w2 with
                    | v r => exact .v r
                    | ro a b => exact .ro a b
                    | @ml b ws _ p q z =>
                      have : b ≠ D := fun e => by subst e; exact hnDw ⟨j, _, hj, rfl, w1⟩
                      exact .ml (by rw [upd_ne this]; exact p) q z
                    | fn p => exact .fn p
                refine ⟨env', Fz6, acc ++ [z], va ++ [vz], s7, he, upd_same, hra6.append (.one rz), hfD6, hnDw, ?_⟩
                have g := f05.trans f6
                refine ⟨fun b o hb nb => ?_, fun b hb => ?_, g.ff, g.nw, fun b hb => g.ow b (own_wipe2 (hw2.symm ▸ hb))⟩
                · have : b ≠ D := fun e => by subst e; rw [hD] at hb; cases hb
                  rw [upd_ne this]; exact g.hh b o hb nb
                · by_cases e : b = D
                  · subst e; rw [upd_same]; simp
                  · rw [upd_ne e]; exact g.dm b hb
              · cases ht
  · -- the end
    rintro H2 ⟨envn, Fzn, acc, va, sn, he, hDv, hra, hfD, hnD, fn⟩
    rw [List.drop_length, loopL] at he
    rw [← he] at q
    have q : PostE G cn W env σ Fz H (.ok (.ml acc) (restore env0 envn own)) (KV' G Q env σ H) := q
    have sb : StOk G (restore env0 envn own) σ Fzn H2 := s1.back fn.ff sn
    refine q Fzn H2 sb ((f1.trans fn).sub (fun _ h => h) fun a z => own_back z) (.ref D) (.ml hDv hra hfD) fun _ => ⟨D, rfl, ?_, fun z => hnD (own_back z)⟩
    cases w : H D with
    | none => rfl
    | some o => exact absurd hD (f1.dm D (by rw [w]; simp))
end
end Pv
-- PvMeth
set_option maxRecDepth 100000
namespace Pv
open PySem L2
section
variable {X : Cx} {G : Gx} {cf : Nat → List Ob → CR} {lk : List Nat} {cn : Nat → Str} {W : WX} {e a b : Expr} {es : List Expr}
/-- what such a call does -/
def tMeth (ta : TE) (t : TA) (G : Gx) (m : Mt) : TE := fun σ H Q => ta σ H fun x H1 => (∃ Fz d, Same Fz H1 ∧ VW G.K Fz H1 x d ∧ methK m d = true) ∧ t σ H1 fun xs H2 =>
  ∃ Fz d ds ob, Same Fz H2 ∧ VW G.K Fz H2 x d ∧ RFs G.K Fz xs ds ∧ methF m d ds = some ob ∧ Res G Fz H2 ob Q
theorem meth_tE {m : Mt} {ia : IE} {irs : IEs} {io : Bool} {σ : St} {H : Hp} {Q : VK} (h : tE G cf lk cn W (.meth m (.cons io ia .nil) irs) σ H Q) : tMeth (tArg G cf lk cn W ia) (tFs G cf lk cn W irs) G m σ H Q := by
  obtain ⟨env, Fz, s, p⟩ := h
  rw [evE, evA_cons] at p
  have p := p.split0.split0
  refine ⟨env, Fz, s, p.mono fun ag env1 Fz1 H1 s1 f1 q x r => ?_⟩
  rw [evA] at q
  have q := q Fz1 H1 s1 f1
  simp only [List.map_cons, List.map_nil] at q
  split at q
  · rename_i hk
    unfold methL at hk
    simp only [List.map_cons, List.map_nil] at hk
    split at hk
    · rename_i d hv
      cases e1 : resolve env1 [ag] with
      | none => rw [e1] at hv; cases hv
      | some os =>
        rw [e1] at hv
        obtain ⟨o1, os', rfl⟩ := resolve_cons e1
        obtain ⟨ro1, e2⟩ := r.res s1 e1
        rw [resolve] at e2; cases e2
        have hv : views [o1] = some [d] := hv
        obtain ⟨d', es', e4, e5, e6⟩ := views_cons hv
        rw [views] at e5
        cases e5
        cases e6
        refine ⟨⟨Fz1, d, s1.sub, ro1.view e4, hk⟩, env1, Fz1, s1, (q.split0.shift f1).mono fun ds env2 Fz2 H2 s2 f2 q xs rs => ?_⟩
        have f := f1.trans f2
        have r := r.step f2
        cases e1 : resolve env2 [ag] with
        | none => rw [e1] at q; exact q.elim
        | some os =>
          rw [e1] at q
          obtain ⟨o1, os', rfl⟩ := resolve_cons e1
          obtain ⟨ro1, e2⟩ := r.res s2 e1
          rw [resolve] at e2; cases e2
          simp only [Option.bind_some] at q
          cases e3 : views [o1] with
          | none => simp only [e3, Option.bind_none] at q; exact q.elim
          | some l =>
            obtain ⟨d2, es2, e4, e5, rfl⟩ := views_cons e3
            rw [views] at e5; cases e5
            simp only [e3, Option.bind_some] at q
            cases e6 : methG m ds [d2] with
            | none => rw [e6] at q; exact q.elim
            | some ob =>
              rw [e6] at q
              exact ⟨Fz2, d2, ds, ob, s2.sub, ro1.view e4, rs, e6, opEnd s2 f q⟩
    · cases hk
  · exact q.elim
theorem tFs_mono {irs : IEs} : ∀ σ H Q Q', (∀ x H1, Q x H1 → Q' x H1) → tFs G cf lk cn W irs σ H Q → tFs G cf lk cn W irs σ H Q' := fun σ H Q Q' i ⟨env, Fz, s, p⟩ =>
  ⟨env, Fz, s, p.mono fun _ _ _ _ _ _ h x r => i _ _ (h x r)⟩
theorem VW.isL {Fz H : Hp} {x : V} {d : PV} (sub : Same Fz H) (h : VW G.K Fz H x d) (k : isListV d = true) : tyV G.K "list" x H := by
  cases d <;> first | (cases k; done) | skip
  obtain ⟨p, vs, rfl, ha, _⟩ := h.list sub
  exact .inl ⟨rfl, _, SqL.of ha⟩
theorem VW.isS {Fz H : Hp} {x : V} {d : PV} (h : VW G.K Fz H x d) (k : isStrV d = true) : tyV G.K "str" x H := by
  cases d <;> first | (cases k; done) | skip
  obtain ⟨rfl, _⟩ := h.str
  exact rfl
/-- which text a method is -/
def mtName : Mt → String
  | .lindex => "index" | .split => "split" | .words => "split" | .join => "join" | .scount => "count"
def mtOne : Mt → Bool
  | .words => false
  | _ => true
theorem few_1 {e : Expr} {cpos : Pos} {env : Env} (h : notStar e = true) : ((backTo cpos (starEach [e] env)).all (fun x => !x.1) && (backToKw cpos (keywordEach [] env)).all (fun x => x.1.isSome)
      && decide (([e] : List Expr).length + ([] : List Keyword).length + (if ([] : List Keyword).isEmpty then 0 else 1) < 30)) = true := by
  rw [star_cons h]
  rfl
theorem strsOf_ok {Fz : Hp} : ∀ {xs : List PV} {ys : List Str} {vs : List V}, strsOf xs = some ys → RFs G.K Fz vs xs → vs = ys.map V.str
  | [], ys, vs, h, r => by
    cases h
    cases r
    rfl
  | d :: xs, ys, vs, h, r => by
    cases r with
    | cons r1 r2 =>
      cases d <;> first | (cases h; done) | skip
      rw [strsOf, Option.map_eq_some_iff] at h
      obtain ⟨zs, h1, rfl⟩ := h
      cases r1
      rw [List.map_cons, strsOf_ok h1 r2]
theorem newStrs_res {Fz H : Hp} {ys : List Str} {ob : Ob} {Q : VK} (sub : Same Fz H) (h : newStrs ys = some ob) (r : Res G Fz H ob Q) : rNewStrs ys H Q := by
  unfold newStrs at h
  split at h
  · rename_i hk
    cases h
    refine r.lst sub ?_
    rw [List.all_eq_true] at hk
    clear r
    induction ys with
    | nil => exact .nil
    | cons y ys ih => exact .cons (.str (hk y List.mem_cons_self)) (ih fun z hz => hk z (List.mem_cons_of_mem _ hz))
  · cases h
theorem firstAt_ok {d : PV} : ∀ {xs : List PV} {j : Nat}, firstAt d xs = some j → ∃ z, xs[j]? = some z ∧ PyData.eqv z d = true ∧ ∀ (m : Nat) (z' : PV), m < j → xs[m]? = some z' → PyData.eqv z' d = false
  | [], _, h => by cases h
  | y :: xs, j, h => by
    rw [firstAt] at h
    split at h
    · rename_i hy
      cases h
      exact ⟨y, rfl, hy, fun m _ hm => absurd hm (Nat.not_lt_zero _)⟩
    · rename_i hy
      rw [Option.map_eq_some_iff] at h
      obtain ⟨k, h1, rfl⟩ := h
      obtain ⟨z, z1, z2, z3⟩ := firstAt_ok h1
      refine ⟨z, by simpa using z1, z2, fun m z' hm hz => ?_⟩
      cases m with
      | zero => simp at hz; subst hz; simpa using hy
      | succ m => exact z3 m z' (by omega) (by simpa using hz)
theorem ite_some' {c : Prop} [Decidable c] {α : Type} {a : Option α} {b : α} (h : (if c then a else none) = some b) : c ∧ a = some b := by
  split at h
  · exact ⟨by assumption, h⟩
  · cases h
theorem one_of {Fz : Hp} {m : Mt} {d : PV} {ds : List PV} {ob : Ob} {xs : List V} (h1 : mtOne m = true) (h : methF m d ds = some ob) (r : RFs G.K Fz xs ds) : ∃ y e, xs = [y] ∧ ds = [e] ∧ RF G.K Fz y e := by
  cases r with
  | nil => cases m <;> first | (cases h1; done) | (cases h; done)
  | cons r1 r2 =>
    cases r2 with
    | nil => exact ⟨_, _, rfl, rfl, r1⟩
    | cons _ _ => cases h
theorem meth1_snd (hK : X.K = G.K) (hu : X.A.units + 160 < cLine) {m : Mt} (h1 : mtOne m = true) {ia : IE} {irs : IEs} {i1 : Bool} {apos cpos : Pos} (ha : PE X a (tArg G cf lk cn W ia)) (hA : PA X [b] (tFs G cf lk cn W irs)) (hs : notStar b = true)
    (hbase : attributeBase a (mtName m) X.env (eval a X.env) = eval a X.env) (hl : (apos.endLine == cpos.line) = true) :
    PE X (.Call (.Attribute a (mtName m) apos) [b] [] cpos) (tE G cf lk cn W (.meth m (.cons i1 ia .nil) irs)) := by
  cases m <;> first | (cases h1; done) | skip
  · -- list.index
    refine PE.imp (pe_bm PySem.F.plainAttrs_list PySem.F.slot_list_index PySem.F.type_list_index (mt_indexD (by omega)) ha hA hbase (few_1 hs) hl (star_cons hs) rfl) fun σ H Q q => ?_
    refine tArg_mono σ H _ _ (fun x H1 ⟨⟨Fz, d, sub, hv, k⟩, q⟩ => ⟨by rw [hK]; exact hv.isL sub k, ?_⟩) (meth_tE q)
    refine tFs_mono σ H1 _ _ (fun xs H2 ⟨Fz2, d2, ds, ob, sub2, hv2, rs, hm, rr⟩ => ?_) q
    obtain ⟨y, e, rfl, rfl, r1⟩ := one_of rfl hm rs
    replace hm : lindexf d2 e = some ob := hm
    unfold lindexf at hm
    split at hm
    · rename_i ds
      obtain ⟨hk, hm⟩ := ite_some' hm
      obtain ⟨k1, k2⟩ := b2 hk
      obtain ⟨k2, k3⟩ := b2 k2
      have k1 : isD e = false := by simpa using k1
      have k2 := of_decide_eq_true k2
      have k3 := of_decide_eq_true k3
      rw [Option.map_eq_some_iff] at hm
      obtain ⟨j, hj, rfl⟩ := hm
      obtain ⟨z, z1, z2, z3⟩ := firstAt_ok hj
      obtain ⟨p, vs, rfl, ha, hr⟩ := hv2.list sub2
      have hy : VW G.K Fz2 H2 y e := .fz r1
      have l1 := hv2.lay rfl
      refine ⟨p, y, e, ds, j, z, rfl, rfl, hK ▸ hv2.dp sub2 rfl, hK ▸ hy.dp sub2 k1, ?_, ?_, z1, z2, z3, rr.sc sub2 (.int _)⟩
      · unfold SeqAt.shaped
        rw [l1, PyData.depth]
        simp only [Bool.true_and, decide_eq_true_eq]
        omega
      · unfold SeqAt.shaped
        rw [hy.lay k1]
        simp only [Bool.true_and, decide_eq_true_eq]
        omega
    · cases hm
  · -- str.split
    refine PE.imp (pe_bm PySem.F.plainAttrs_str PySem.F.slot_str_split PySem.F.type_str_split mt_split ha hA hbase (few_1 hs) hl (star_cons hs) rfl) fun σ H Q q => ?_
    refine tArg_mono σ H _ _ (fun x H1 ⟨⟨Fz, d, sub, hv, k⟩, q⟩ => ⟨by rw [hK]; exact hv.isS k, ?_⟩) (meth_tE q)
    refine tFs_mono σ H1 _ _ (fun xs H2 ⟨Fz2, d2, ds, ob, sub2, hv2, rs, hm, rr⟩ => ?_) q
    obtain ⟨y, e, rfl, rfl, r1⟩ := one_of rfl hm rs
    replace hm : splitf d2 e = some ob := hm
    unfold splitf at hm
    split at hm
    · obtain ⟨hk, hm⟩ := ite_some' hm
      obtain ⟨k1, k2⟩ := b2 hk
      obtain ⟨rfl, _⟩ := hv2.str
      cases r1
      exact ⟨_, _, rfl, rfl, by simpa using k1, of_decide_eq_true k2, newStrs_res sub2 hm rr⟩
    · cases hm
  · -- str.join
    refine PE.imp (pe_bm PySem.F.plainAttrs_str PySem.F.slot_str_join PySem.F.type_str_join mt_join ha hA hbase (few_1 hs) hl (star_cons hs) rfl) fun σ H Q q => ?_
    refine tArg_mono σ H _ _ (fun x H1 ⟨⟨Fz, d, sub, hv, k⟩, q⟩ => ⟨by rw [hK]; exact hv.isS k, ?_⟩) (meth_tE q)
    refine tFs_mono σ H1 _ _ (fun xs H2 ⟨Fz2, d2, ds, ob, sub2, hv2, rs, hm, rr⟩ => ?_) q
    obtain ⟨y, e, rfl, rfl, r1⟩ := one_of rfl hm rs
    replace hm : joinf d2 e = some ob := hm
    unfold joinf at hm
    split at hm
    · rename_i a
      rw [Option.bind_eq_some_iff] at hm
      obtain ⟨xs, hx, hm⟩ := hm
      rw [Option.bind_eq_some_iff] at hm
      obtain ⟨ys, hy, hm⟩ := hm
      obtain ⟨hk, hm⟩ := ite_some' hm
      cases hm
      obtain ⟨k1, k2⟩ := b2 hk
      obtain ⟨rfl, _⟩ := hv2.str
      have hw : VW G.K Fz2 H2 y e := .fz r1
      cases e <;> first | (cases hx; done) | skip
      · cases hx
        obtain ⟨p, vs, rfl, ha, hr⟩ := hw.list sub2
        refine ⟨a, p, ys, rfl, rfl, .inl ?_, of_decide_eq_true k1, rr.sc sub2 (.str k2)⟩
        rw [← strsOf_ok hy hr]
        exact SqL.of ha
      · cases hx
        obtain ⟨p, vs, rfl, ha, hr, _⟩ := hw.tuple sub2
        refine ⟨a, p, ys, rfl, rfl, .inr ?_, of_decide_eq_true k1, rr.sc sub2 (.str k2)⟩
        rw [← strsOf_ok hy hr]
        exact hK ▸ ha
    · cases hm
  · -- str.count
    refine PE.imp (pe_bm PySem.F.plainAttrs_str PySem.F.slot_str_count PySem.F.type_str_count mt_count ha hA hbase (few_1 hs) hl (star_cons hs) rfl) fun σ H Q q => ?_
    refine tArg_mono σ H _ _ (fun x H1 ⟨⟨Fz, d, sub, hv, k⟩, q⟩ => ⟨by rw [hK]; exact hv.isS k, ?_⟩) (meth_tE q)
    refine tFs_mono σ H1 _ _ (fun xs H2 ⟨Fz2, d2, ds, ob, sub2, hv2, rs, hm, rr⟩ => ?_) q
    obtain ⟨y, e, rfl, rfl, r1⟩ := one_of rfl hm rs
    replace hm : scountf d2 e = some ob := hm
    unfold scountf at hm
    split at hm
    · cases hm
      obtain ⟨rfl, _⟩ := hv2.str
      cases r1
      exact ⟨_, _, rfl, rfl, rr.sc sub2 (.int _)⟩
    · cases hm
/-- text.split() -/
theorem words_snd (hK : X.K = G.K) {ia : IE} {i1 : Bool} {apos cpos : Pos} (ha : PE X a (tArg G cf lk cn W ia))
    (hbase : attributeBase a "split" X.env (eval a X.env) = eval a X.env) (hl : (apos.endLine == cpos.line) = true) :
    PE X (.Call (.Attribute a "split" apos) [] [] cpos) (tE G cf lk cn W (.meth .words (.cons i1 ia .nil) .nil)) := by
  refine PE.imp (pe_bm0 PySem.F.plainAttrs_str PySem.F.slot_str_split PySem.F.type_str_split mt_words ha hbase hl) fun σ H Q q => ?_
  refine tArg_mono σ H _ _ (fun x H1 ⟨⟨Fz, d, sub, hv, k⟩, q⟩ => ⟨by rw [hK]; exact hv.isS k, ?_⟩) (meth_tE q)
  obtain ⟨env, Fz', st, p⟩ := q
  rw [evF] at p
  obtain ⟨Fz2, d2, ds, ob, sub2, hv2, rs, hm, rr⟩ := p.ok st [] .nil
  cases rs
  replace hm : wordsf d2 = some ob := hm
  unfold wordsf at hm
  split at hm
  · obtain ⟨hk, hm⟩ := ite_some' hm
    obtain ⟨rfl, _⟩ := hv2.str
    exact ⟨_, rfl, rfl, hk, newStrs_res sub2 hm rr⟩
  · cases hm
end
end Pv
-- PvCheck
set_option maxRecDepth 100000
namespace Pv
open PySem L2

structure CI where
  N : List Str
  sc : Scope
  asc : Scope
  nm : List Str
  gc : List (Str × PV)
  bt : List Str
  ex : List Str
  kp : List (List Str)

def isVis (k : Option NameKind) : Bool := match k with
  | some .local => true
  | some .cell => true
  | some .free => true
  | _ => false
def isLoc (k : Option NameKind) : Bool := match k with
  | some .local => true
  | some .cell => true
  | _ => false
def nmOk (n : Str) : Bool := !(n == ("__debug__" : Str)) && !(n == ("__classdict__" : Str)) && !(n == ("__name__" : Str))
def visB (C : CI) (n : Str) (i : Nat) : Bool := decide (C.N[i]? = some n) && isVis (C.sc.names.lookup n) && nmOk n
def glB (C : CI) (n : Str) : Bool := decide (C.sc.names.lookup n = some .globalImplicit) && nmOk n
def btB (C : CI) (n : Str) : Bool := glB C n && C.bt.contains n
def asB (C : CI) (n : Str) (i : Nat) : Bool := decide (C.N[i]? = some n) && isLoc (C.asc.names.lookup n)

mutual
def pvEq : PV → PV → Bool
  | .none, .none => true
  | .bool a, .bool b => a == b
  | .int a, .int b => decide (a = b)
  | .str a, .str b => decide (a = b)
  | .tuple xs, .tuple ys => pvEqs xs ys
  | .list xs, .list ys => pvEqs xs ys
  | _, _ => false
def pvEqs : List PV → List PV → Bool
  | [], [] => true
  | x :: xs, y :: ys => pvEq x y && pvEqs xs ys
  | _, _ => false
end
mutual
theorem pvEq_ok : ∀ {a b : PV}, pvEq a b = true → a = b
  | .none, b, h => by cases b <;> first | rfl | (simp [pvEq] at h)
  | .bool _, b, h => by cases b <;> simp [pvEq] at h; rw [h]
  | .int _, b, h => by cases b <;> simp [pvEq] at h; rw [h]
  | .str _, b, h => by cases b <;> simp [pvEq] at h; rw [h]
  | .tuple xs, b, h => by cases b <;> simp [pvEq] at h; rw [pvEqs_ok h]
  | .list xs, b, h => by cases b <;> simp [pvEq] at h; rw [pvEqs_ok h]
  | .dict _, b, h => by cases b <;> simp [pvEq] at h
theorem pvEqs_ok : ∀ {a b : List PV}, pvEqs a b = true → a = b
  | [], b, h => by cases b <;> simp [pvEqs] at h; rfl
  | x :: xs, b, h => by
    cases b with
    | nil => simp [pvEqs] at h
    | cons y ys =>
      rw [pvEqs, Bool.and_eq_true] at h
      rw [pvEq_ok h.1, pvEqs_ok h.2]
end

/-- a built-in function of one argument by name -/
def bn1 : Op → Str → Bool
  | .len, n => n == ("len" : Str)
  | .abs, n => n == ("abs" : Str)
  | .int, n => n == ("int" : Str)
  | .str, n => n == ("str" : Str)
  | .bool, n => n == ("bool" : Str)
  | .tuple, n => n == ("tuple" : Str)
  | .list, n => n == ("list" : Str)
  | .all, n => n == ("all" : Str)
  | .any, n => n == ("any" : Str)
  | .sum, n => n == ("sum" : Str)
  | .max1, n => n == ("max" : Str)
  | .min1, n => n == ("min" : Str)
  | .sorted, n => n == ("sorted" : Str)
  | _, _ => false
/-- sorted(set(..)), len(set(..)) -/
def sbB : Op → Str → Bool
  | .sset, n => n == ("sorted" : Str)
  | .lset, n => n == ("len" : Str)
  | _, _ => false
def bn2 : Op → Str → Bool
  | .max2, n => n == ("max" : Str)
  | .min2, n => n == ("min" : Str)
  | _, _ => false
def ty1 : Op → Str → Bool
  | .isList, n => n == ("list" : Str)
  | .isTuple, n => n == ("tuple" : Str)
  | .isInt, n => n == ("int" : Str)
  | .isBool, n => n == ("bool" : Str)
  | .isStr, n => n == ("str" : Str)
  | _, _ => false
def ty2 : Op → Str → Str → Bool
  | .isSeq, n, m => n == ("list" : Str) && m == ("tuple" : Str)
  | .isBoolStr, n, m => n == ("bool" : Str) && m == ("str" : Str)
  | _, _, _ => false

/-- list(range(..)), tuple(range(..)) -/
def rgB : Op → Str → Bool
  | .listR, n => n == ("list" : Str)
  | .tupR, n => n == ("tuple" : Str)
  | _, _ => false
/-- what an operation of one argument is in the text: its argument -/
def un1 (C : CI) (o : Op) : Expr → Option Expr
  | .UnaryOp .USub x _ => if o = .neg then some x else none
  | .Subscript v (.Slice none none none _) _ => if o = .slice false false then some v else none
  | .Subscript v (.Slice none none (some (.UnaryOp .USub (.Constant (.int 1) _ _) _)) _) _ => if o = .rev then some v else none
  | .Call (.Name n _) [.Call (.Name m mp) [x] [] cp] [] _ => if btB C n && btB C m && (m == ("range" : Str)) && rgB o n && notStar x then some x else (if btB C n && btB C m && (m == ("set" : Str)) && sbB o n && notStar x then some x else (if btB C n && bn1 o n then some (.Call (.Name m mp) [x] [] cp) else none))
  | .Call (.Name n _) [x] [] _ => if btB C n && bn1 o n && notStar x then some x else none
  | .Call (.Name n _) [x, .Name t _] [] _ => if (n == ("isinstance" : Str)) && btB C n && btB C t && ty1 o t && notStar x then some x else none
  | .Call (.Name n _) [x, .Tuple [.Name t _, .Name t2 _] _ _] [] _ => if (n == ("isinstance" : Str)) && btB C n && btB C t && btB C t2 && ty2 o t t2 && notStar x then some x else none
  | _ => none
def bi2 (C : CI) (o : Op) : Expr → Option (Expr × Expr)
  | .BinOp l op r _ => if bop op = some o then some (l, r) else none
  | .Compare l [c] [r] _ => if cop c = o && notSet r then some (l, r) else none
  | .Subscript v (.Slice (some l) none none _) _ => if o = .slice true false then some (v, l) else none
  | .Subscript v (.Slice none (some u) none _) _ => if o = .slice false true then some (v, u) else none
  | .Subscript v s _ => if o = .idx && notSlice s then some (v, s) else none
  | .Call (.Name n _) [.Call (.Name m _) [x, y] [] _] [] _ => if btB C n && btB C m && (m == ("range" : Str)) && rgB o n && notStar x && notStar y then some (x, y) else none
  | .Call (.Name n _) [x, y] [] _ => if btB C n && bn2 o n && notStar x && notStar y then some (x, y) else none
  | _ => none
/-- the block of a comprehension: its own scope -/
def CI.blk (C : CI) (scope : Scope) : CI := { C with sc := relS scope C.sc, asc := scope }
def tgB (C : CI) : List Nat ⊕ Nat → Expr → Bool
  | .inr i, .Name n _ => asB C n i
  | .inl is, .Tuple es _ _ => (is.length == es.length) && (is.zip es).all fun p => match p.2 with
    | .Name n _ => asB C n p.1
    | _ => false
  | _, _ => false
def ownB (C : CI) (own : List Nat) : Option (List (Str × Nat)) := own.mapM fun i => (C.N[i]?).map fun n => (n, i)

/-- each parameter's keyword, by place -/
def permB (ps ks : List Str) (perm : List Nat) : Bool := (decide ks.Nodup && (ks.all ps.contains && decide (ks.length = ps.length))) && decide (perm.map (fun i => ks[i]?) = ps.map some)
/-- a receiver whose attribute is looked at plainly -/
def baseB : Expr → Bool
  | .Name _ _ => true
  | .Constant (.str _) _ _ => true
  | .Subscript _ _ _ => true
  | .BinOp _ _ _ _ => true
  | .Call _ (_ :: _) _ _ => true
  | .List _ _ => true
  | _ => false
/-- names of defs, written one behind another -/
def namesB (C : CI) : List Nat → List Expr → Bool
  | [], [] => true
  | f :: fs, e :: es => (match e with
    | .Name n _ => (decide (C.nm[f]? = some n) && glB C n) && namesB C fs es
    | _ => false)
  | _, _ => false
mutual
def mE (C : CI) : IE → Expr → Bool
  | .c d, e => (match e with
    | .Constant (.int i) _ _ => (match d with
      | .int j => decide (i = j)
      | _ => false)
    | .Constant (.str i) _ _ => (match d with
      | .str j => decide (i = j) && PyData.strOk i
      | _ => false)
    | .Constant (.bool i) _ _ => (match d with
      | .bool j => decide (i = j)
      | _ => false)
    | .Constant .none _ _ => isNone d
    | .Name n _ => glB C n && (match C.gc.lookup n with
      | some d' => pvEq d d'
      | none => false)
    | _ => false)
  | .x i, e => (match e with
    | .Name n _ => visB C n i
    | _ => false)
  | .f k, e => (match e with
    | .Name n _ => glB C n && decide (C.nm[k]? = some n)
    | _ => false)
  | .tup es, e => (match e with
    | .Tuple l _ _ => mEs C es l
    | _ => false)
  | .lst es, e => (match e with
    | .List l _ => mEs C es l
    | _ => false)
  | .op o es, e => (match es with
    | .cons _ a .nil => (match un1 C o e with
      | some x => mE C a x
      | none => false)
    | .cons _ a (.cons _ b .nil) => (match bi2 C o e with
      | some (x, y) => mE C a x && mE C b y
      | none => false)
    | _ => false)
  | .and a b, e => (match e with
    | .BoolOp .And [x, y] _ => mE C a x && mE C b y
    | .BoolOp .And (x :: y :: z :: rest) pos => mE C a x && mE C b (.BoolOp .And (y :: z :: rest) pos)
    | _ => false)
  | .or a b, e => (match e with
    | .BoolOp .Or [x, y] _ => mE C a x && mE C b y
    | .BoolOp .Or (x :: y :: z :: rest) pos => mE C a x && mE C b (.BoolOp .Or (y :: z :: rest) pos)
    | _ => false)
  | .not a, e => (match e with
    | .UnaryOp .Not x _ => mE C a x
    | _ => false)
  | .ite c a b, e => (match e with
    | .IfExp x y z _ => mE C c x && (mE C a y && mE C b z)
    | _ => false)
  | .chain o1 o2 a b c, e => (match e with
    | .Compare l [c1, c2] [m, r] _ => (decide (cop c1 = o1) && decide (cop c2 = o2) && notSet r) && (mE C a l && (mE C b m && mE C c r))
    | _ => false)
  | .sl2 as lo hi, e => (match as with
    | .cons _ a .nil => (match e with
      | .Subscript v (.Slice (some l) (some u) none _) _ => mE C a v && (mE C lo l && mE C hi u)
      | _ => false)
    | _ => false)
  | .meth m as es, e => (match as with
    | .cons _ a .nil => (match e with
      | .Call (.Attribute o n apos) args [] cpos => ((n == (mtName m : Str)) && baseB o && (apos.endLine == cpos.line) && (if mtOne m then (match args with
          | [x] => notStar x
          | _ => false) else args.isEmpty)) && (mE C a o && mEs C es args)
      | _ => false)
    | _ => false)
  | .call f es, e => (match e with
    | .Call (.Name n _) args [] _ => (decide (C.nm[f]? = some n) && glB C n) && mEs C es args
    | _ => false)
  | .callk f perm es, e => (match e with
    | .Call (.Name n _) [] kws _ => (decide (C.nm[f]? = some n) && glB C n) && ((match C.kp[f]? with
      | some ps => permB ps (kws.filterMap (·.arg)) perm
      | none => false) && mKw C es kws)
    | _ => false)
  | .callx _ _, _ => false
  | .calls f a, e => (match e with
    | .Call (.Name n _) [.Starred x _] [] _ => (decide (C.nm[f]? = some n) && glB C n) && mE C a x
    | _ => false)
  | .callf fs i es, e => (match e with
    | .Call (.Subscript (.List ns _) (.Name x _) _) args [] _ => ((namesB C fs ns && decide (fs.length ≤ 10)) && (visB C x i && !args.isEmpty)) && mEs C es args
    | _ => false)
  | .popi i a, e => (match e with
    | .Call (.Attribute (.Name n _) m apos) [x] [] cpos => (((m == ("pop" : Str)) && visB C n i) && ((apos.endLine == cpos.line) && notStar x)) && mE C a x
    | _ => false)
  | .pop i, e => (match e with
    | .Call (.Attribute (.Name n _) m apos) [] [] cpos => ((m == ("pop" : Str)) && visB C n i) && (apos.endLine == cpos.line)
    | _ => false)
  | .lc own tg it cond elt, e => (match e with
    | .ListComp el [⟨t, iter, ifs, 0⟩] scope _ => (match ownB C own with
      | some ow => (blkC C.N C.sc scope ow && (tgB (C.blk scope) tg t && (match tg with
          | .inr i => own.contains i
          | .inl is => is.all own.contains))) && (notSet iter && (mIt C it t iter && ((match cond with
          | .nil => ifs.isEmpty
          | .cons _ c .nil => (match ifs with
            | [x] => mE (C.blk scope) c x
            | _ => false)
          | _ => false) && mE (C.blk scope) elt el)))
      | none => false)
    | _ => false)
def mEs (C : CI) : IEs → List Expr → Bool
  | .nil, es => es.isEmpty
  | .cons _ a r, es => (match es with
    | e :: es => (notStar e && mE C a e) && mEs C r es
    | [] => false)
def mKw (C : CI) : IEs → List Keyword → Bool
  | .nil, es => es.isEmpty
  | .cons _ a r, es => (match es with
    | e :: es => (e.arg.isSome && mE C a e.value) && mKw C r es
    | [] => false)
def mIt (C : CI) : IT → Expr → Expr → Bool
  | .seq a, _, e => mE C a e
  | .enum a, t, e => (match t with
    | .Tuple _ _ _ => (match e with
      | .Call (.Name n _) [x] [] _ => ((n == ("enumerate" : Str)) && btB C n && notStar x) && mE C a x
      | _ => false)
    | _ => false)
  | .zip a b, t, e => (match t with
    | .Tuple _ _ _ => (match e with
      | .Call (.Name n _) [x, y] [] _ => ((n == ("zip" : Str)) && btB C n && (notStar x && notStar y)) && (mE C a x && mE C b y)
      | _ => false)
    | _ => false)
  | .range es, _, e => (match es with
    | .cons _ a .nil => (match e with
      | .Call (.Name n _) [x] [] _ => ((n == ("range" : Str)) && btB C n && notStar x) && mE C a x
      | _ => false)
    | .cons _ a (.cons _ b .nil) => (match e with
      | .Call (.Name n _) [x, y] [] _ => ((n == ("range" : Str)) && btB C n && (notStar x && notStar y)) && (mE C a x && mE C b y)
      | _ => false)
    | .cons _ a (.cons _ b (.cons _ c .nil)) => (match e with
      | .Call (.Name n _) [x, y, z] [] _ => ((n == ("range" : Str)) && btB C n && (notStar x && (notStar y && notStar z))) && (mE C a x && (mE C b y && mE C c z))
      | _ => false)
    | _ => false)
end
end Pv
-- PvSnd
set_option maxRecDepth 100000
namespace Pv
open PySem L2

/-- all parameters by keywords -/
def KwB (K : PySem.W.Frag) (fd : FuncData) (ps : List Str) : Prop := ∀ (s : Shared) (kw : List (Str × Value)), (kw.map (·.1)).Nodup → (∀ k ∈ kw.map (·.1), ps.contains k = true) → (∀ n ∈ ps, n ∈ kw.map (·.1)) →
  BindsTo s fd ⟨[], kw⟩ (ps.filterMap fun n => (kw.lookup n).map (n, ·))
/-- a def that may be called -/
def FnS (G : Gx) (cf : Nat → List Ob → CR) (cn : Nat → Str) (X : Cx) (C : CI) (f : Nat) (n : Str) : Prop :=
  ∃ (a : Addr) (k : Nat) (fd : FuncData) (ps : List Str), (C.kp[f]? = some ps ∧ KwB X.K fd ps) ∧ X.mg n = some (.ref a) ∧ Room k X.A ∧ PySem.W.keepIn X.K (.ref a) = true ∧ Binds X.K fd ps [] ∧
    FnOk X.prog X.w X.K X.mg X.base (L2.CX X.prog X.w) k a fd ps (spF G cf cn ps.length f) ∧ ∀ obs, cf f obs ≠ .no → obs.length = ps.length
structure Cok (G : Gx) (cf : Nat → List Ob → CR) (cn : Nat → Str) (X : Cx) (C : CI) (W : WX) : Prop where
  K : X.K = G.K
  mg : X.mg = G.mg
  N : X.N = C.N
  nd : X.N.Nodup
  sc : X.env.scope = C.sc
  calm : X.calm = true
  nm : ∀ f n, C.nm[f]? = some n → G.nm f = n
  tk : Takes X W
  rm : ∃ k, Room k X.A
  asg : ∀ x, Loc C.asc x → Loc X.env.scope x ∧ (X.fn x = true ∨ X.env.scope.names.lookup x = some .local)
  gc : ∀ n d, C.gc.lookup n = some d → ∃ u v, X.mg n = some u ∧ RelV v u ∧ ∀ Fz, RF G.K Fz v d
  bt : ∀ n, n ∈ C.bt → X.mg n = none
  fn : ∀ f n, C.nm[f]? = some n → FnS G cf cn X C f n

section
variable {G : Gx} {cf : Nat → List Ob → CR} {lk : List Nat} {cn : Nat → Str} {X : Cx} {C : CI} {W : WX}

theorem vis_of {k : Option NameKind} (h : isVis k = true) : k = some .local ∨ k = some .cell ∨ k = some .free := by
  unfold isVis at h
  split at h <;> first | (simp; done) | (cases h)
theorem loc_of {k : Option NameKind} (h : isLoc k = true) : k = some .local ∨ k = some .cell := by
  unfold isLoc at h
  split at h <;> first | (simp; done) | (cases h)
theorem nmOk_of {n : Str} (h : nmOk n = true) : (n == ("__debug__" : Str)) = false ∧ (n == ("__classdict__" : Str)) = false ∧ n ≠ "__name__" := by
  unfold nmOk at h
  simp only [Bool.and_eq_true, Bool.not_eq_true'] at h
  refine ⟨h.1.1, h.1.2, fun e => ?_⟩
  have := h.2
  rw [e] at this
  simp at this
theorem Cok.vis (c : Cok G cf cn X C W) {n : Str} {i : Nat} (h : visB C n i = true) : X.N[i]? = some n ∧ Vis X.env.scope n ∧ (n == ("__debug__" : Str)) = false ∧ (n == ("__classdict__" : Str)) = false := by
  unfold visB at h
  simp only [Bool.and_eq_true, decide_eq_true_eq] at h
  obtain ⟨⟨h1, h2⟩, h3⟩ := h
  obtain ⟨d1, d2, _⟩ := nmOk_of h3
  exact ⟨by rw [c.N]; exact h1, by unfold Vis; rw [c.sc]; exact vis_of h2, d1, d2⟩
theorem Cok.var (c : Cok G cf cn X C W) {n : Str} {i : Nat} {pos : Pos} (h : visB C n i = true) : PE X (.Name n pos) (tVar i) := by
  obtain ⟨h1, h2, h3, h4⟩ := c.vis h
  exact pe_var h1 h2 h3 h4
theorem Cok.gl (c : Cok G cf cn X C W) {n : Str} (h : glB C n = true) : Gl X n ∧ (n == ("__debug__" : Str)) = false ∧ n ≠ "__name__" := by
  unfold glB at h
  simp only [Bool.and_eq_true, decide_eq_true_eq] at h
  obtain ⟨d1, _, d3⟩ := nmOk_of h.2
  refine ⟨?_, d1, d3⟩
  show X.env.scope.names.lookup n = _
  rw [c.sc]
  exact h.1
theorem Cok.blt (c : Cok G cf cn X C W) {n : Str} (h : btB C n = true) : Gl X n ∧ X.mg n = none ∧ (n == ("__debug__" : Str)) = false ∧ n ≠ "__name__" := by
  unfold btB at h
  simp only [Bool.and_eq_true, List.contains_eq_mem, decide_eq_true_eq] at h
  obtain ⟨g, d, e⟩ := c.gl h.1
  exact ⟨g, c.bt _ h.2, d, e⟩
theorem Cok.units (c : Cok G cf cn X C W) : X.A.units + 160 < cLine := by
  obtain ⟨k, r⟩ := c.rm
  have := r.un
  omega

/-- a call of a def by its written arguments -/
theorem star_no : ∀ {es : List Expr} {env : Env}, (es.all notStar) = true → (starEach es env).any (·.1) = false
  | [], _, _ => rfl
  | e :: es, env, h => by
    rw [List.all_cons, Bool.and_eq_true] at h
    rw [star_cons h.1, List.any_cons, Bool.false_or]
    exact star_no h.2
theorem backTo_no {pos : Pos} {l : List (Bool × Sem Value)} (h : l.any (·.1) = false) : (backTo pos l).any (·.1) = false := by
  cases l with
  | nil => rfl
  | cons p r =>
    have : (backTo pos (p :: r)).any (·.1) = (p :: r).any (·.1) := by
      unfold backTo
      simp only [List.any_map, List.any_cons]
      first | rfl | (congr 1)
    rw [this]; exact h
theorem call_snd {n : Str} {f : Nat} {p pos : Pos} {irs : IEs} {es : List Expr} (c : Cok G cf cn X C W) (hn : C.nm[f]? = some n) (hg : glB C n = true) (hs : (es.all notStar) = true) (hz : es = [] → irs = .nil) (ha : PA X es (tArgs G cf lk cn W irs)) :
    PE X (.Call (.Name n p) es [] pos) (tE G cf lk cn W (.call f irs)) := by
  obtain ⟨a, k, fd, ps, _, hm, hr, hk, hb, F, hl⟩ := c.fn f n hn
  obtain ⟨g, d, _⟩ := c.gl hg
  cases es with
  | nil =>
    cases hz rfl
    refine ⟨fun pins s σ H Q I h => ?_⟩
    refine wpAny_Call_Name_kw (ld_glob I g hm ?_ d)
    refine PySem.W.callWith_K0 I.kIn hk ?_
    obtain ⟨env, Fz, st, p⟩ := call_tE hl h
    rw [evC] at p
    have q := p.ok st [] .nil trivial
    exact run_fnS (us := []) (E := WE W) F hr hb (passAt c.tk σ) I .nil q
  | cons e es =>
    rw [List.all_cons, Bool.and_eq_true] at hs
    refine PE.imp (pe_callS (E := WE W) F hr g hm hk hb (passAt c.tk) ha d (star_cons hs.1) (backTo_no (star_no hs.2))) fun σ H Q h => ?_
    exact call_tE hl h

/-- a list of one's own becomes another one -/
theorem upL {env : En} {σ : St} {Fz H : Hp} (s : StOk G env σ Fz H) {i : Nat} {xs : List PV} (hi : env[i]? = some (some (.ml xs))) {a : Addr} {vs : List V} (h1 : σ[i]? = some (some (.ref a))) (ha : H a = some (.lst vs)) (hf : Fz a = none)
    {ys : List PV} {ws : List V} (hr : RFs G.K Fz ws ys) :
    StOk G (env.set i (some (.ml ys))) σ Fz (upd H a (.lst ws)) ∧ FrO (Own env σ) (Own (env.set i (some (.ml ys))) σ) Fz H Fz (upd H a (.lst ws)) := by
  have hilt : i < env.length := (List.getElem?_eq_some_iff.mp hi).1
  have g : ∀ (k : Nat) (ok : Ob), (env.set i (some (.ml ys)))[k]? = some (some ok) → (k = i ∧ ok = .ml ys) ∨ (i ≠ k ∧ env[k]? = some (some ok)) := fun k ok hk => by
    by_cases hki : i = k
    · subst hki
      rw [List.getElem?_set_self hilt] at hk
      cases hk
      exact .inl ⟨rfl, rfl⟩
    · rw [List.getElem?_set_ne hki] at hk
      exact .inr ⟨hki, hk⟩
  have g2 : ∀ (k : Nat) (ok : Ob), (env.set i (some (.ml ys)))[k]? = some (some ok) → ok.mut = true → ∃ o', env[k]? = some (some o') ∧ o'.mut = true := fun k ok hk hm => by
    rcases g k ok hk with ⟨rfl, rfl⟩ | ⟨_, h⟩
    · exact ⟨_, hi, rfl⟩
    · exact ⟨_, h, hm⟩
  refine ⟨⟨by rw [List.length_set]; exact s.len, fun b u hb => ?_, fun j ob hj => ?_, fun j l b oj ol hne ej el mj ml_ sj sl => ?_⟩, ⟨fun b o hb nb => ?_, fun b hb => ?_, Same.refl _, fun b hb nb hz => hz, fun b hb => ?_⟩⟩
  · have : b ≠ a := fun e => by subst e; rw [hf] at hb; cases hb
    rw [upd_ne this]; exact s.sub b u hb
  · rcases g j ob hj with ⟨rfl, rfl⟩ | ⟨hne, h⟩
    · exact ⟨_, h1, .ml upd_same hr hf⟩
    · obtain ⟨w, w1, w2⟩ := s.rep j ob h
      refine ⟨w, w1, ?_⟩
      cases w2 with
      | v r => exact .v r
      | ro p q => exact .ro p q
      | @ml b ws' _ p q z =>
        have : b ≠ a := fun e => by subst e; exact s.sep i j b _ _ hne hi h rfl rfl h1 w1
        exact .ml (by rw [upd_ne this]; exact p) q z
      | fn p => exact .fn p
  · obtain ⟨o1, e1, m1⟩ := g2 j oj ej mj
    obtain ⟨o2, e2, m2⟩ := g2 l ol el ml_
    exact s.sep j l b o1 o2 hne e1 e2 m1 m2 sj sl
  · have : b ≠ a := fun e => nb ⟨i, _, hi, rfl, e ▸ h1⟩
    rw [upd_ne this]; exact hb
  · by_cases e : b = a
    · subst e; rw [upd_same]; simp
    · rw [upd_ne e]; exact hb
  · obtain ⟨j, o, e1, e2, e3⟩ := hb
    obtain ⟨o', q1, q2⟩ := g2 j o e1 e2
    exact .inl ⟨j, o', q1, q2, e3⟩
/-- x.pop() -/
theorem pop_snd {i : Nat} {n : Str} {p apos cpos : Pos} (c : Cok G cf cn X C W) (h : visB C n i = true) (hl : (apos.endLine == cpos.line) = true) :
    PE X (.Call (.Attribute (.Name n p) "pop" apos) [] [] cpos) (tE G cf lk cn W (.pop i)) := by
  refine PE.imp (pe_bm0 PySem.F.plainAttrs_list PySem.F.slot_list_pop PySem.F.type_list_pop mt_pop (c.var h) rfl hl) fun σ H Q ⟨env, Fz, s, p⟩ => ?_
  rw [evE] at p
  cases e1 : env[i]? with
  | none => rw [e1] at p; exact p.elim
  | some o =>
    cases o with
    | none => rw [e1] at p; exact p.elim
    | some o =>
      cases o with
      | v d => rw [e1] at p; exact p.elim
      | fn d => rw [e1] at p; exact p.elim
      | ml xs =>
        rw [e1] at p
        simp only at p
        cases e2 : xs.getLast? with
        | none => rw [e2] at p; exact p.elim
        | some d =>
          rw [e2] at p
          simp only at p
          obtain ⟨v, h1, h2⟩ := s.rep i _ e1
          cases h2 with
          | @ml a vs _ ha hr hf =>
            have hlen := hr.length
            have hx : xs[xs.length - 1]? = some d := by rw [← List.getLast?_eq_getElem?]; exact e2
            obtain ⟨x, q1, q2⟩ := hr.get hx
            rw [← hlen] at q1
            refine ⟨.ref a, h1, .inl ⟨rfl, _, SqL.of ha⟩, a, vs, x, rfl, rfl, ha, q1, ?_⟩
            obtain ⟨s', f'⟩ := upL s e1 h1 ha hf hr.dropLast
            exact p _ _ s' f' _ (.v q2) (nmut_fsh rfl)

theorem Cok.as (c : Cok G cf cn X C W) {n : Str} {i : Nat} (h : asB C n i = true) : X.N[i]? = some n ∧ Loc X.env.scope n ∧ (X.fn n = true ∨ X.env.scope.names.lookup n = some .local) := by
  unfold asB at h
  simp only [Bool.and_eq_true, decide_eq_true_eq] at h
  obtain ⟨h1, h2⟩ := c.asg n (loc_of h.2)
  exact ⟨by rw [c.N]; exact h.1, h1, h2⟩
theorem Cok.pgName (c : Cok G cf cn X C W) {n : Str} {i : Nat} {pos : Pos} (h : asB C n i = true) : PG X (.Name n pos) (gName i) := by
  obtain ⟨h1, h2, h3⟩ := c.as h
  exact pg_name c.nd h1 h2 h3
def isName : Expr → Bool
  | .Name _ _ => true
  | _ => false
theorem asEach_len : ∀ (es : List Expr) (env : Env), (assignEach es env).length = es.length
  | [], _ => rfl
  | e :: es, env => by
    have ih := asEach_len es env
    cases e <;> (first | (simp only [assignEach, List.length_cons]; rw [ih]))
theorem asEach_no : ∀ (es : List Expr) (env : Env), es.all isName = true → (assignEach es env).findIdx? (·.1) = none
  | [], _, _ => rfl
  | e :: es, env, h => by
    rw [List.all_cons, Bool.and_eq_true] at h
    have ih := asEach_no es env h.2
    cases e <;> first | (cases h.1; done) | skip
    rw [assignEach, List.findIdx?_cons]
    simp [ih]
    all_goals (intros; simp_all)
theorem asEach_cons {e : Expr} {es : List Expr} {env : Env} (h : isName e = true) : (assignEach (e :: es) env).map (·.2) = assign e env :: (assignEach es env).map (·.2) := by
  cases e <;> first | (cases h; done) | rfl
theorem pgs_names : ∀ {is : List Nat} {es : List Expr} (c : Cok G cf cn X C W), is.length = es.length → ((is.zip es).all fun p => match p.2 with
    | .Name n _ => asB C n p.1
    | _ => false) = true → PGs X es (gTgs is) ∧ es.all isName = true
  | [], [], c, _, _ => ⟨pgs_nil, rfl⟩
  | [], _ :: _, _, h, _ => by simp at h
  | _ :: _, [], _, h, _ => by simp at h
  | i :: is, e :: es, c, hl, h => by
    rw [List.zip_cons_cons, List.all_cons, Bool.and_eq_true] at h
    obtain ⟨h1, h2⟩ := pgs_names c (by simpa using hl) h.2
    cases e <;> first | (cases h.1; done) | skip
    exact ⟨pgs_cons (c.pgName h.1) h1 (asEach_cons rfl), by rw [List.all_cons, h2]; rfl⟩
theorem tg_snd {tg : List Nat ⊕ Nat} {t : Expr} (c : Cok G cf cn X C W) (h : tgB C tg t = true) : PG X t (gTg X.K tg) := by
  unfold tgB at h
  split at h
  · exact c.pgName h
  · rename_i is es k pos
    rw [Bool.and_eq_true, beq_iff_eq] at h
    obtain ⟨h1, h2⟩ := pgs_names c h.1 h.2
    exact pg_tup c.calm h1 (by rw [asEach_len]; exact h.1.symm) (asEach_no _ _ h2)
  · cases h
theorem Cok.blk (c : Cok G cf cn X C W) (s : Shared) (H : Hp) (scope : Scope) (D : Addr) (cl : List (Str × Addr)) (fp : List Addr) : Cok G cf cn (X.blk s H scope (compEnvC scope cl D X.env) fp) (C.blk scope) WF where
  K := c.K
  mg := c.mg
  N := c.N
  nd := c.nd
  sc := by
    show relS scope X.env.scope = relS scope C.sc
    rw [c.sc]
  calm := c.calm
  nm := c.nm
  tk := fun _ _ x => by
    obtain ⟨_, _, _, _, _, _, _, _, _, _, _, _, _, _, _, _, z⟩ := x
    exact z.elim
  rm := c.rm
  asg := fun x h => by
    have keep : ∀ k, k ≠ NameKind.free → scope.names.lookup x = some k → (relS scope X.env.scope).names.lookup x = some k := fun k hk h => lookup_relS_keep hk h
    rcases h with h | h
    · exact ⟨.inl (keep _ (by decide) h), .inr (keep _ (by decide) h)⟩
    · refine ⟨.inr (keep _ (by decide) h), .inl ?_⟩
      have h : scope.names.lookup x = some .cell := h
      show (scope.names.lookup x == some .cell) = true
      rw [h]; rfl
  gc := c.gc
  bt := c.bt
  fn := c.fn
theorem ownB_ok {own : List Nat} {ow : List (Str × Nat)} (h : ownB C own = some ow) : ow.map (·.2) = own := by
  unfold ownB at h
  induction own generalizing ow with
  | nil => simp at h; subst h; rfl
  | cons i r ih =>
    rw [List.mapM_cons] at h
    cases e : C.N[i]? with
    | none => rw [e] at h; simp at h
    | some n =>
      rw [e] at h
      simp only [Option.map_some, Option.pure_def, Option.bind_eq_bind, Option.bind_some] at h
      cases e2 : List.mapM (fun i => (C.N[i]?).map fun n => (n, i)) r with
      | none => rw [e2] at h; simp at h
      | some w =>
        rw [e2] at h
        simp only [Option.bind_some, Option.some.injEq] at h
        subst h
        rw [List.map_cons, ih e2]
theorem lc_snd {own : List Nat} {tg : List Nat ⊕ Nat} {it : IT} {cond : IEs} {elt : IE} {el t iter : Expr} {ifs : List Expr} {scope : Scope} {pos : Pos} {ow : List (Str × Nat)} (c : Cok G cf cn X C W) (h1 : ownB C own = some ow) (h2 : blkC C.N C.sc scope ow = true)
    (h3 : tgB (C.blk scope) tg t = true) (h4 : ∀ i ∈ tgNames tg, i ∈ own) (hs : notSet iter = true) (hi : PI X t iter (tIt G cf lk cn W it))
    (hc : ∀ X', Cok G cf cn X' (C.blk scope) WF → PTs X' ifs (tK G cf lk cn WF cond)) (he : ∀ X', Cok G cf cn X' (C.blk scope) WF → PE X' el (tE G cf lk cn WF elt)) :
    PE X (.ListComp el [⟨t, iter, ifs, 0⟩] scope pos) (tE G cf lk cn W (.lc own tg it cond elt)) := by
  have eo := ownB_ok h1
  have ok : BlkOk X.N X.env.scope scope ow := by rw [c.N, c.sc]; exact blkOk_by h2
  refine PE.imp (pe_lc (g := gTg X.K tg) (tt := tK G cf lk cn WF cond) (te := tFz G cf lk cn WF elt) c.calm c.nd hi ok (fun s H D cl fp => tg_snd (c.blk s H scope D cl fp) h3) (fun s H D cl fp => hc _ (c.blk s H scope D cl fp))
    (fun s H D cl fp => fz_of (he _ (c.blk s H scope D cl fp))) (fun x => ?_)) fun σ H Q q => ?_
  · cases iter <;> first | rfl | (cases hs)
  · rw [eo]
    exact lc_ok c.K h4 q
end
end Pv
-- PvSnd2
set_option maxRecDepth 100000
namespace Pv
open PySem L2

def isBo : Expr → Bool
  | .BoolOp _ _ _ => true
  | _ => false
def plainT : Expr → Bool
  | .UnaryOp .Not _ _ => false
  | .BoolOp _ _ _ => false
  | .IfExp _ _ _ _ => false
  | .Compare _ _ _ _ => false
  | _ => true
theorem plainT_eq {e : Expr} {env : Env} (h : plainT e = true) (whole : Sem Value) : isTrue e env whole = (do let v ← whole; standAt e.pos; holding [v] (truthy v)) := by
  cases e <;> first | rfl | (cases h; done) | skip
  rename_i o x pos
  cases o <;> first | rfl | (cases h)

structure Snd (G : Gx) (cf : Nat → List Ob → CR) (lk : List Nat) (cn : Nat → Str) (W : WX) (X : Cx) (e : Expr) (ir : IE) : Prop where
  pe : PE X e (tE G cf lk cn W ir)
  pa : PE X e (tArg G cf lk cn W ir)
  pt : PT X e (tT G cf lk cn W ir)
  pw : isBo e = true → PW X e (tT G cf lk cn W ir)

section
variable {G : Gx} {cf : Nat → List Ob → CR} {lk : List Nat} {cn : Nat → Str} {X : Cx} {C : CI} {W : WX}

theorem Snd.of {e : Expr} {ir : IE} (hK : X.K = G.K) (h : PE X e (tE G cf lk cn W ir)) (hx : ir.isX = none) (hp : plainT e = true) : Snd G cf lk cn W X e ir :=
  ⟨h, arg_of h hx, tT_of hK h (plainT_eq hp), fun hb => by cases e <;> first | (cases hb; done) | (cases hp)⟩
theorem Snd.of2 {e : Expr} {ir : IE} (h : PE X e (tE G cf lk cn W ir)) (hx : ir.isX = none) (ht : PT X e (tT G cf lk cn W ir)) (hb : isBo e = false) : Snd G cf lk cn W X e ir :=
  ⟨h, arg_of h hx, ht, fun q => by rw [hb] at q; cases q⟩

theorem blt_const {n m : Str} (h : (n == m) = true) : n = m := by simpa using h
theorem argC_of {io : Bool} {e : Expr} {ir : IE} (h : PE X e (tE G cf lk cn W ir)) (h2 : PE X e (tArg G cf lk cn W ir)) : PE X e (tArgC G cf lk cn W io ir) := by
  cases io with
  | true => exact h2
  | false =>
    refine PE.imp h fun σ H Q ⟨env, Fz, s, p⟩ => ⟨env, Fz, s, ?_⟩
    simp only [evC1, Bool.false_eq_true, if_false] at p
    refine p.split0.mono fun o env1 Fz1 H1 s1 f1 q v r fs => ?_
    cases o with
    | v d => exact q Fz1 H1 s1 f1 v ⟨r, nmut_fsh rfl⟩
    | fn f => exact q Fz1 H1 s1 f1 v ⟨r, nmut_fsh rfl⟩
    | ml xs =>
      obtain ⟨Fz', s', f', rr⟩ := freezeTmp s1 f1 r fs
      exact q Fz' H1 s' f' v ⟨.v rr, nmut_fsh rfl⟩
/-- built-in functions of one argument -/
theorem b1_snd {o : Op} {n : Str} {p pos : Pos} {io : Bool} {ia : IE} {a : Expr} (c : Cok G cf cn X C W) (hb : btB C n = true) (h1 : bn1 o n = true) (hs : notStar a = true) (ha : PE X a (tArg G cf lk cn W ia)) :
    PE X (.Call (.Name n p) [a] [] pos) (tE G cf lk cn W (.op o (.cons io ia .nil))) := by
  obtain ⟨g, m, d, e⟩ := c.blt hb
  cases o <;> first | (cases h1; done) | skip
  all_goals (have h1 := blt_const h1; subst h1)
  · exact blt1B (call_lenA c.K) rfl g m e d ha hs
  · exact blt1B (call_absA c.K) rfl g m e d ha hs
  · exact blt1T (call_intA c.K) rfl g m e d ha hs
  · exact blt1T (call_tupleA c.K) rfl g m e d ha hs
  · exact blt1T (call_listA c.K) rfl g m e d ha hs
  · exact blt1T (call_boolA c.K) rfl g m e d ha hs
  · exact blt1B (call_allA c.K c.calm) rfl g m e d ha hs
  · exact blt1B (call_anyA c.K c.calm) rfl g m e d ha hs
  · exact blt1B (call_sumA c.K c.calm) rfl g m e d ha hs
  · exact blt1B (call_min1A c.K c.units c.calm) rfl g m e d ha hs
  · exact blt1B (call_max1A c.K c.units c.calm) rfl g m e d ha hs
  · exact blt1T (call_strA c.K) rfl g m e d ha hs
  · exact blt1B (call_sortedA c.K c.units) rfl g m e d ha hs
theorem sb_snd {o : Op} {n : Str} {p p2 p3 pos : Pos} {io : Bool} {ia : IE} {a : Expr} (c : Cok G cf cn X C W) (hb : btB C n = true) (hb2 : btB C "set" = true) (h1 : sbB o n = true) (hs : notStar a = true) (ha : PE X a (tArg G cf lk cn W ia)) :
    PE X (.Call (.Name n p) [.Call (.Name "set" p2) [a] [] p3] [] pos) (tE G cf lk cn W (.op o (.cons io ia .nil))) := by
  obtain ⟨g, m, d, e⟩ := c.blt hb
  obtain ⟨g2, m2, _, _⟩ := c.blt hb2
  cases o <;> first | (cases h1; done) | skip
  all_goals (have h1 := blt_const h1; subst h1)
  · exact PE.imp (pe_sset c.K c.calm c.units g m g2 m2 ha hs) fun σ H Q q => op1_tE q
  · exact PE.imp (pe_lset c.K c.calm c.units g m g2 m2 ha hs) fun σ H Q q => op1_tE q
theorem b2_snd {o : Op} {n : Str} {p pos : Pos} {i1 i2 : Bool} {ia ib : IE} {a b : Expr} (c : Cok G cf cn X C W) (hb : btB C n = true) (h1 : bn2 o n = true) (hs : notStar a = true) (hs2 : notStar b = true) (ha : PE X a (tArg G cf lk cn W ia)) (hb' : PE X b (tArg G cf lk cn W ib)) :
    PE X (.Call (.Name n p) [a, b] [] pos) (tE G cf lk cn W (.op o (.cons i1 ia (.cons i2 ib .nil)))) := by
  obtain ⟨g, m, d, e⟩ := c.blt hb
  cases o <;> first | (cases h1; done) | skip
  all_goals (have h1 := blt_const h1; subst h1)
  · exact blt2B (call_min2A c.K c.calm) rfl g m e d ha hb' hs hs2
  · exact blt2B (call_max2A c.K c.calm) rfl g m e d ha hb' hs hs2
theorem t1_snd {o : Op} {t : Str} {p p2 pos : Pos} {io : Bool} {ia : IE} {a : Expr} (c : Cok G cf cn X C W) (hb : btB C "isinstance" = true) (hbt : btB C t = true) (h1 : ty1 o t = true) (hs : notStar a = true) (ha : PE X a (tArg G cf lk cn W ia)) :
    PE X (.Call (.Name "isinstance" p) [a, .Name t p2] [] pos) (tE G cf lk cn W (.op o (.cons io ia .nil))) := by
  obtain ⟨g, m, _, _⟩ := c.blt hb
  obtain ⟨g2, m2, d2, e2⟩ := c.blt hbt
  cases o <;> first | (cases h1; done) | skip
  all_goals (have h1 := blt_const h1; subst h1)
  · exact tE_isA c.K (pr := isListV) (ty := "list") rfl (fun d h => by cases d <;> first | rfl | (cases h)) g m g2 m2 rfl e2 d2 ha hs
  · exact tE_isA c.K (pr := isTupV) (ty := "tuple") rfl (fun d h => by cases d <;> first | rfl | (cases h)) g m g2 m2 rfl e2 d2 ha hs
  · exact tE_isA c.K (pr := isIntV) (ty := "int") rfl (fun d h => by cases d <;> first | rfl | (cases h)) g m g2 m2 rfl e2 d2 ha hs
  · exact tE_isA c.K (pr := isBoolV) (ty := "bool") rfl (fun d h => by cases d <;> first | rfl | (cases h)) g m g2 m2 rfl e2 d2 ha hs
  · exact tE_isA c.K (pr := isStrV) (ty := "str") rfl (fun d h => by cases d <;> first | rfl | (cases h)) g m g2 m2 rfl e2 d2 ha hs
theorem t2_snd {o : Op} {t u : Str} {p p2 p3 p4 pos : Pos} {k : Nat} {io : Bool} {ia : IE} {a : Expr} (c : Cok G cf cn X C W) (hb : btB C "isinstance" = true) (hbt : btB C t = true) (hbu : btB C u = true) (h1 : ty2 o t u = true) (hs : notStar a = true) (ha : PE X a (tArg G cf lk cn W ia)) :
    PE X (.Call (.Name "isinstance" p) [a, .Tuple [.Name t p2, .Name u p3] k p4] [] pos) (tE G cf lk cn W (.op o (.cons io ia .nil))) := by
  obtain ⟨g, m, _, _⟩ := c.blt hb
  obtain ⟨g2, m2, d2, e2⟩ := c.blt hbt
  obtain ⟨g3, m3, d3, e3⟩ := c.blt hbu
  cases o <;> first | (cases h1; done) | skip
  all_goals (unfold ty2 at h1; simp only [Bool.and_eq_true, beq_iff_eq] at h1; obtain ⟨rfl, rfl⟩ := h1)
  · exact tE_isA2 c.K (pr := isSeqV) (t1 := "list") (t2 := "tuple") rfl (fun d h => by cases d <;> first | (cases h; done) | exact ⟨_, _, rfl, rfl, rfl⟩) g m g2 m2 rfl e2 d2 g3 m3 rfl e3 d3 ha hs
  · exact tE_isA2 c.K (pr := fun d => isBoolV d || isStrV d) (t1 := "bool") (t2 := "str") rfl (fun d h => by cases d <;> first | (cases h; done) | exact ⟨_, _, rfl, rfl, rfl⟩) g m g2 m2 rfl e2 d2 g3 m3 rfl e3 d3 ha hs

theorem rg_res {Fz H : Hp} {a b : Int} {ob : Ob} {Q : VK} (sub : Same Fz H) : RFs G.K Fz (rgV a b) (rgP a b) := by
  unfold rgV rgP
  have : ∀ l : List Nat, RFs G.K Fz (l.map fun i => V.int (a + (i : Nat))) (l.map fun (i : Nat) => PyData.int (a + (i : Int))) := fun l => by
    induction l with
    | nil => exact .nil
    | cons i l ih => exact .cons (.int _) ih
  exact this _
theorem rg_of {a b : Int} (h : rgOk a b = true) : RgOk a b := by
  unfold rgOk at h
  simp only [Bool.and_eq_true, decide_eq_true_eq] at h
  exact ⟨h.1.1, h.1.2, h.2.1.1, h.2.1.2, h.2.2⟩
theorem listR_snd {x y : V} {d e : PV} {ob : Ob} {Fz H : Hp} {Q : VK} (sub : Same Fz H) (hx : VW G.K Fz H x d) (hy : VW G.K Fz H y e) (h : listRf d e = some ob) (r : Res G Fz H ob Q) :
    ∃ i j, x = .int i ∧ y = .int j ∧ RgOk i j ∧ ∀ q, H q = none → Q (.ref q) (upd H q (.lst (rgV i j))) := by
  unfold listRf at h
  split at h
  · split at h
    · rename_i a b hk
      cases h
      exact ⟨a, b, hx.int, hy.int, rg_of hk, r.lst sub (rg_res (ob := .v .none) (Q := Q) sub)⟩
    · cases h
  · cases h
theorem tupR_snd {x y : V} {d e : PV} {ob : Ob} {Fz H : Hp} {Q : VK} (sub : Same Fz H) (hx : VW G.K Fz H x d) (hy : VW G.K Fz H y e) (h : tupRf d e = some ob) (r : Res G Fz H ob Q) :
    ∃ i j, x = .int i ∧ y = .int j ∧ RgOk i j ∧ ∀ q, H q = none → Q (.ref q) (upd H q (.tup (rgV i j))) := by
  unfold tupRf at h
  split at h
  · split at h
    · rename_i a b hk
      cases h
      exact ⟨a, b, hx.int, hy.int, rg_of hk, r.tup sub (rg_res (ob := .v .none) (Q := Q) sub)⟩
    · cases h
  · cases h
theorem rg1_snd {o : Op} {n : Str} {p p2 p3 pos : Pos} {io : Bool} {ia : IE} {a : Expr} (c : Cok G cf cn X C W) (hb : btB C n = true) (hb2 : btB C "range" = true) (h1 : rgB o n = true) (hs : notStar a = true) (ha : PE X a (tArg G cf lk cn W ia)) :
    PE X (.Call (.Name n p) [.Call (.Name "range" p2) [a] [] p3] [] pos) (tE G cf lk cn W (.op o (.cons io ia .nil))) := by
  obtain ⟨g, m, d, e⟩ := c.blt hb
  obtain ⟨g2, m2, _, _⟩ := c.blt hb2
  cases o <;> first | (cases h1; done) | skip
  all_goals (have h1 := blt_const h1; subst h1)
  · refine PE.imp (pe_listRg c.calm g m (prg_1 g2 m2 ha (star_cons hs))) fun σ H Q q => ?_
    refine tArg_mono σ H _ _ (fun x H1 ⟨Fz, d, ob, sub, hx, ho, r⟩ => ?_) (op1_tE q)
    obtain ⟨i, j, e1, e2, h3, h4⟩ := listR_snd (x := .int 0) sub (.fz (.int 0)) hx ho r
    cases e1
    exact ⟨j, e2, h3, h4⟩
  · refine PE.imp (pe_tupRg c.calm g m (prg_1 g2 m2 ha (star_cons hs))) fun σ H Q q => ?_
    refine tArg_mono σ H _ _ (fun x H1 ⟨Fz, d, ob, sub, hx, ho, r⟩ => ?_) (op1_tE q)
    obtain ⟨i, j, e1, e2, h3, h4⟩ := tupR_snd (x := .int 0) sub (.fz (.int 0)) hx ho r
    cases e1
    exact ⟨j, e2, h3, h4⟩
theorem rg2_snd {o : Op} {n : Str} {p p2 p3 pos : Pos} {i1 i2 : Bool} {ia ib : IE} {a b : Expr} (c : Cok G cf cn X C W) (hb : btB C n = true) (hb2 : btB C "range" = true) (h1 : rgB o n = true) (hs : notStar a = true) (hs2 : notStar b = true) (ha : PE X a (tArg G cf lk cn W ia)) (hb' : PE X b (tArg G cf lk cn W ib)) :
    PE X (.Call (.Name n p) [.Call (.Name "range" p2) [a, b] [] p3] [] pos) (tE G cf lk cn W (.op o (.cons i1 ia (.cons i2 ib .nil)))) := by
  obtain ⟨g, m, d, e⟩ := c.blt hb
  obtain ⟨g2, m2, _, _⟩ := c.blt hb2
  have hst : starEach [a, b] X.env = (false, eval a X.env) :: starEach [b] X.env := star_cons hs
  have hst2 : starEach [b] X.env = (false, eval b X.env) :: starEach [] X.env := star_cons hs2
  have hno : (starEach [b] X.env).any (·.1) = false := star_no (by rw [List.all_cons, hs2]; rfl)
  cases o <;> first | (cases h1; done) | skip
  all_goals (have h1 := blt_const h1; subst h1)
  · refine PE.imp (pe_listRg c.calm g m (prg_2 g2 m2 ha hb' hst hst2 (backTo_no hno))) fun σ H Q q => ?_
    refine tArg_mono σ H _ _ (fun x H1 q => tArg_mono σ H1 _ _ (fun y H2 ⟨Fz, d, e, ob, sub, hx, hy, ho, r⟩ => ?_) q) (op2_tE q)
    exact listR_snd sub hx hy ho r
  · refine PE.imp (pe_tupRg c.calm g m (prg_2 g2 m2 ha hb' hst hst2 (backTo_no hno))) fun σ H Q q => ?_
    refine tArg_mono σ H _ _ (fun x H1 q => tArg_mono σ H1 _ _ (fun y H2 ⟨Fz, d, e, ob, sub, hx, hy, ho, r⟩ => ?_) q) (op2_tE q)
    exact tupR_snd sub hx hy ho r

/-- an operation of one argument -/
theorem un1_snd {o : Op} {e x : Expr} {io : Bool} {ia : IE} (c : Cok G cf cn X C W) (h : un1 C o e = some x) (ha : PE X x (tArg G cf lk cn W ia)) : Snd G cf lk cn W X e (.op o (.cons io ia .nil)) := by
  unfold un1 at h
  split at h
  · split at h
    · rename_i ho; subst ho; cases h
      exact .of c.K (tE_neg c.K ha) rfl rfl
    · cases h
  · split at h
    · rename_i ho; subst ho; cases h
      exact .of c.K (tE_slice0 c.K ha) rfl rfl
    · cases h
  · split at h
    · rename_i ho; subst ho; cases h
      exact .of c.K (tE_rev c.K ha) rfl rfl
    · cases h
  · split at h
    · rename_i ho; cases h
      simp only [Bool.and_eq_true] at ho
      obtain ⟨⟨⟨⟨h1, h2⟩, h3⟩, h4⟩, h5⟩ := ho
      have h3 := blt_const h3
      subst h3
      exact .of c.K (rg1_snd c h1 h2 h4 h5 ha) rfl rfl
    · split at h
      · rename_i ho; cases h
        simp only [Bool.and_eq_true] at ho
        obtain ⟨⟨⟨⟨h1, h2⟩, h3⟩, h4⟩, h5⟩ := ho
        have h3 := blt_const h3
        subst h3
        exact .of c.K (sb_snd c h1 h2 h4 h5 ha) rfl rfl
      · split at h
        · rename_i ho; cases h
          simp only [Bool.and_eq_true] at ho
          exact .of c.K (b1_snd c ho.1 ho.2 rfl ha) rfl rfl
        · cases h
  · split at h
    · rename_i ho; cases h
      simp only [Bool.and_eq_true] at ho
      exact .of c.K (b1_snd c ho.1.1 ho.1.2 ho.2 ha) rfl rfl
    · cases h
  · split at h
    · rename_i ho; cases h
      simp only [Bool.and_eq_true] at ho
      obtain ⟨⟨⟨⟨h1, h2⟩, h3⟩, h4⟩, h5⟩ := ho
      have h1 := blt_const h1
      subst h1
      exact .of c.K (t1_snd c h2 h3 h4 h5 ha) rfl rfl
    · cases h
  · split at h
    · rename_i ho; cases h
      simp only [Bool.and_eq_true] at ho
      obtain ⟨⟨⟨⟨⟨h1, h2⟩, h3⟩, h4⟩, h5⟩, h6⟩ := ho
      have h1 := blt_const h1
      subst h1
      exact .of c.K (t2_snd c h2 h3 h4 h5 h6 ha) rfl rfl
    · cases h
  · cases h
theorem bi2_snd {o : Op} {e x y : Expr} {i1 i2 : Bool} {ia ib : IE} (c : Cok G cf cn X C W) (h : bi2 C o e = some (x, y)) (ha : PE X x (tArg G cf lk cn W ia)) (hb : PE X y (tArg G cf lk cn W ib)) : Snd G cf lk cn W X e (.op o (.cons i1 ia (.cons i2 ib .nil))) := by
  unfold bi2 at h
  split at h
  · split at h
    · rename_i ho; cases h
      exact .of c.K (tE_bin c.K ho ha hb) rfl rfl
    · cases h
  · split at h
    · rename_i ho; cases h
      simp only [Bool.and_eq_true, decide_eq_true_eq] at ho
      obtain ⟨rfl, hs⟩ := ho
      exact .of2 (tE_cmp c.K c.units _ ha hb hs) rfl (tT_cmp c.K c.units _ ha hb hs) rfl
    · cases h
  · split at h
    · rename_i ho; subst ho; cases h
      exact .of c.K (tE_sliceL c.K ha hb) rfl rfl
    · cases h
  · split at h
    · rename_i ho; subst ho; cases h
      exact .of c.K (tE_sliceU c.K ha hb) rfl rfl
    · cases h
  · split at h
    · rename_i ho; cases h
      simp only [Bool.and_eq_true, decide_eq_true_eq] at ho
      obtain ⟨rfl, hs⟩ := ho
      exact .of c.K (tE_idx c.K ha hb hs) rfl rfl
    · cases h
  · split at h
    · rename_i ho; cases h
      simp only [Bool.and_eq_true] at ho
      obtain ⟨⟨⟨⟨⟨h1, h2⟩, h3⟩, h4⟩, h5⟩, h6⟩ := ho
      have h3 := blt_const h3
      subst h3
      exact .of c.K (rg2_snd c h1 h2 h4 h5 h6 ha hb) rfl rfl
    · cases h
  · split at h
    · rename_i ho; cases h
      simp only [Bool.and_eq_true] at ho
      obtain ⟨⟨⟨h1, h2⟩, h3⟩, h4⟩ := ho
      exact .of c.K (b2_snd c h1 h2 h3 h4 ha hb) rfl rfl
    · cases h
  · cases h
end
end Pv
-- PvKw
set_option maxRecDepth 100000
namespace Pv
open PySem L2

theorem lookup_append_none {α : Type} : ∀ {a b : List (Str × α)} {n : Str}, a.lookup n = none → (a ++ b).lookup n = b.lookup n
  | [], _, _, _ => rfl
  | (m, v) :: a, b, n, h => by
    rw [List.lookup_cons] at h
    rw [List.cons_append, List.lookup_cons]
    by_cases q : (n == m) = true
    · rw [q] at h; cases h
    · have q : (n == m) = false := by simpa using q
      rw [q] at h ⊢
      exact lookup_append_none h
theorem lookup_none_of {α : Type} : ∀ {a : List (Str × α)} {n : Str}, n ∉ a.map (·.1) → a.lookup n = none
  | [], _, _ => rfl
  | (m, v) :: a, n, h => by
    rw [List.lookup_cons]
    have : (n == m) = false := by
      rw [beq_eq_false_iff_ne]
      exact fun e => h (by rw [e]; exact List.mem_cons_self)
    rw [this]
    exact lookup_none_of fun z => h (List.mem_cons_of_mem _ z)
def plainArgs (a : Arguments) : Bool := match a with
  | ⟨[], _, none, [], [], none, []⟩ => true
  | _ => false
/-- the loop over the keywords -/
theorem kw_loop {γ : Type} (ps : List Str) (fn : Str × Value → List (Str × Value) × γ → Sem (ForInStep (List (Str × Value) × γ)))
    (hf : ∀ k v sl ex, ps.contains k = true → sl.lookup k = none → fn (k, v) (sl, ex) = pure (.yield (sl ++ [(k, v)], ex))) :
    ∀ (kw sl : List (Str × Value)) (ex : γ), (kw.map (·.1)).Nodup → (∀ k ∈ kw.map (·.1), ps.contains k = true) → (∀ k ∈ kw.map (·.1), k ∉ sl.map (·.1)) → forIn kw (sl, ex) fn = pure (sl ++ kw, ex)
  | [], sl, ex, _, _, _ => by rw [List.forIn_nil, List.append_nil]
  | (k, v) :: kw, sl, ex, nd, h1, h2 => by
    obtain ⟨n1, n2⟩ := List.nodup_cons.mp nd
    rw [List.forIn_cons, hf k v sl ex (h1 k List.mem_cons_self) (lookup_none_of (h2 k List.mem_cons_self)), pure_bind]
    show forIn kw _ fn = _
    rw [kw_loop ps fn hf kw (sl ++ [(k, v)]) ex n2 (fun q hq => h1 q (List.mem_cons_of_mem _ hq)) fun q hq z => ?_]
    · rw [List.append_assoc]; rfl
    · rw [List.map_append, List.mem_append] at z
      rcases z with z | z
      · exact h2 q (List.mem_cons_of_mem _ hq) z
      · have : q = k := by simpa using z
        rw [this] at hq
        exact n1 hq
theorem bind_of {α β : Type} {t t' : Sem α} {k : α → Sem β} (h : t = t') : t >>= k = t' >>= k := by rw [h]
theorem binds_kw {x qual : Str} {p : Arguments} {body : List Stmt} {scope : Scope} {kV doc pm cdv ct : Value} {an : Option Addr} {kw : List (Str × Value)} (hp : plainArgs p = true)
    (nd : (kw.map (·.1)).Nodup) (h1 : ∀ k ∈ kw.map (·.1), (p.args.map (·.arg)).contains k = true) (h2 : ∀ n ∈ p.args.map (·.arg), n ∈ kw.map (·.1)) :
    bindArgs (PySem.W.fnOf x qual p body scope .none kV doc pm an cdv ct) ⟨[], kw⟩ = pure ((p.args.map (·.arg)).filterMap fun n => (kw.lookup n).map (n, ·)) := by
  obtain ⟨a1, a2, a3, a4, a5, a6, a7⟩ := p
  unfold plainArgs at hp
  split at hp
  · rename_i heq
    cases heq
    simp only at h1 h2 ⊢
    have hmiss : ((a2.map (·.arg)).filter fun n => (kw.lookup n).isNone) = [] := by
      rw [List.filter_eq_nil_iff]
      intro n hn
      have hk := h2 n hn
      clear nd h1 h2 hn
      induction kw with
      | nil => cases hk
      | cons q kw ih =>
        obtain ⟨m, v⟩ := q
        rw [List.lookup_cons]
        by_cases e : (n == m) = true
        · rw [e]; simp
        · have e' : (n == m) = false := by simpa using e
          rw [e']
          rcases List.mem_cons.mp hk with z | z
          · have z : n = m := z
            rw [z] at e; simp at e
          · exact ih z
    unfold bindArgs
    simp only [PySem.W.fnOf, List.map_nil, List.nil_append, List.append_nil, List.forIn_nil, gt_iff_lt, List.length_nil, Nat.not_lt_zero, List.zip_nil_right]
    refine (bind_of (kw_loop (a2.map (·.arg)) _ (fun k v sl ex hc hl => ?_) kw [] [] nd h1 (fun _ _ z => by cases z))).trans ?_
    · simp only [hc, hl, Bool.true_or, if_true, Option.isSome_none, Bool.false_eq_true, if_false]
    · rw [show seqItems? Value.none = pure none from rfl]
      simp only [pure_bind, Option.getD_none, List.length_nil, List.drop_nil, Nat.sub_zero, List.take_length, List.nil_append, hmiss, List.isEmpty_nil, List.zip_nil_right, List.forIn_nil, decide_false, Bool.false_and, Bool.not_true, Bool.false_eq_true, if_false]
  · cases hp

section
variable {G : Gx} {cf : Nat → List Ob → CR} {lk : List Nat} {cn : Nat → Str} {X : Cx} {C : CI} {W : WX}
theorem PK.imp {kws : List Keyword} {t t' : TA} (h : PK X kws t) (i : ∀ σ H Q, t' σ H Q → t σ H Q) : PK X kws t' := ⟨fun pos pins s σ H Q I q => h.run pos pins s σ H Q I (i σ H Q q)⟩
theorem kfs_nil : PK X [] (tFs G cf lk cn W .nil) := PK.imp pk_nil fun σ H Q ⟨env, Fz, s, p⟩ => by
  rw [evF] at p
  exact p.ok s [] .nil
theorem kfs_cons {n : Option Str} {e : Expr} {kp : Pos} {kws : List Keyword} {io : Bool} {ia : IE} {irs : IEs} (ha : PE X e (tFz G cf lk cn W ia)) (hr : PK X kws (tFs G cf lk cn W irs)) :
    PK X (⟨n, e, kp⟩ :: kws) (tFs G cf lk cn W (.cons io ia irs)) := by
  refine PK.imp (pk_cons ha hr) fun σ H Q ⟨env, Fz, s, p⟩ => ?_
  rw [evF_cons] at p
  refine ⟨env, Fz, s, p.split0.mono fun d env1 Fz1 H1 s1 f1 q x r => ?_⟩
  refine ⟨env1, Fz1, s1, (q.split0.shift f1).mono fun ds env2 Fz2 H2 s2 f2 q xs rs => ?_⟩
  exact q Fz2 H2 s2 (f1.trans f2) (x :: xs) (.cons (r.mono f2.ff) rs)
theorem kw_names : ∀ {kws : List Keyword} {env : Env} {pos : Pos}, kws.all (fun k => k.arg.isSome) = true →
    (backToKw pos (keywordEach kws env)).all (·.1.isSome) = true ∧ (backToKw pos (keywordEach kws env)).filterMap (·.1) = kws.filterMap (·.arg) ∧ (backToKw pos (keywordEach kws env)).any (·.1.isNone) = false
  | [], _, _, _ => ⟨rfl, rfl, rfl⟩
  | ⟨n, e, kp⟩ :: kws, env, pos, h => by
    rw [List.all_cons, Bool.and_eq_true] at h
    obtain ⟨h1, h2, h3⟩ := kw_names (env := env) (pos := pos) h.2
    cases n with
    | none => cases h.1
    | some n =>
      refine ⟨?_, ?_, ?_⟩
      · show ((some n).isSome && (backToKw pos (keywordEach kws env)).all (·.1.isSome)) = true
        rw [h1]; rfl
      · show n :: (backToKw pos (keywordEach kws env)).filterMap (·.1) = n :: kws.filterMap (·.arg)
        rw [h2]
      · show ((some n).isNone || (backToKw pos (keywordEach kws env)).any (·.1.isNone)) = false
        rw [h3]; rfl
/-- the picked values -/
theorem picked {Fz H : Hp} {ds : List PV} {zs : List V} {ws : List Value} (r : RFs G.K Fz zs ds) (rz : Vals zs ws) : ∀ {perm : List Nat} {args : List PV}, pickD ds perm = some args →
    ∃ vs us, Vals vs us ∧ Paired (fun (x : V) (o : Ob) => RO G Fz H o x) vs (args.map .v) ∧ perm.map (fun i => ws[i]?) = us.map some
  | [], args, h => by
    rw [pickD] at h; cases h
    exact ⟨[], [], .nil, .nil, rfl⟩
  | i :: perm, args, h => by
    rw [pickD] at h
    split at h
    · rename_i d l e1 e2
      cases h
      obtain ⟨vs, us, h1, h2, h3⟩ := picked (H := H) r rz e2
      obtain ⟨v, e3, rv⟩ := r.get e1
      obtain ⟨u, e4, ru⟩ := rz.get e3
      exact ⟨v :: vs, u :: us, .cons ru h1, .cons (.v rv) h2, by rw [List.map_cons, List.map_cons, e4, h3]⟩
    · cases h
theorem zip_look {ks : List Str} (nd : ks.Nodup) : ∀ {i : Nat} {n : Str} {ws : List Value} {u : Value}, ks[i]? = some n → ws[i]? = some u → (ks.zip ws).lookup n = some u := by
  induction ks with
  | nil => intro i n ws u h; simp at h
  | cons k ks ih =>
    intro i n ws u h1 h2
    obtain ⟨n1, n2⟩ := List.nodup_cons.mp nd
    cases ws with
    | nil => simp at h2
    | cons w ws =>
      rw [List.zip_cons_cons, List.lookup_cons]
      cases i with
      | zero =>
        simp at h1 h2
        subst h1 h2
        simp
      | succ i =>
        have h1 : ks[i]? = some n := by simpa using h1
        have h2 : ws[i]? = some u := by simpa using h2
        have : (n == k) = false := by
          rw [beq_eq_false_iff_ne]
          exact fun e => n1 (e ▸ List.mem_of_getElem? h1)
        rw [this]
        exact ih n2 h1 h2
theorem bound_is {ks : List Str} (nd : ks.Nodup) {ws : List Value} : ∀ {perm : List Nat} {ps : List Str} {us : List Value}, perm.map (fun i => ks[i]?) = ps.map some → perm.map (fun i => ws[i]?) = us.map some →
    (ps.filterMap fun n => ((ks.zip ws).lookup n).map (n, ·)) = ps.zip us
  | [], [], us, _, _ => by simp
  | [], _ :: _, _, h, _ => by simp at h
  | _ :: _, [], _, h, _ => by simp at h
  | _ :: _, _ :: _, [], _, h => by simp at h
  | i :: perm, p :: ps, u :: us, h1, h2 => by
    simp only [List.map_cons, List.cons.injEq] at h1 h2
    rw [List.filterMap_cons, zip_look nd h1.1 h2.1, List.zip_cons_cons]
    simp only [Option.map_some]
    rw [bound_is nd h1.2 h2.2]
/-- f(k = e, ..) -/
theorem callk_snd {n : Str} {f : Nat} {p pos : Pos} {perm : List Nat} {irs : IEs} {kws : List Keyword} {ps : List Str} (c : Cok G cf cn X C W) (hn : C.nm[f]? = some n) (hg : glB C n = true) (hps : C.kp[f]? = some ps) (hperm : permB ps (kws.filterMap (·.arg)) perm = true)
    (hall : kws.all (fun k => k.arg.isSome) = true) (ha : PK X kws (tFs G cf lk cn W irs)) : PE X (.Call (.Name n p) [] kws pos) (tE G cf lk cn W (.callk f perm irs)) := by
  obtain ⟨a, k, fd, ps', ⟨hps', hkb⟩, hm, hr, hk, hb, F, hl⟩ := c.fn f n hn
  rw [hps] at hps'
  cases hps'
  obtain ⟨g, d, _⟩ := c.gl hg
  obtain ⟨n1, n2, n3⟩ := kw_names (env := X.env) (pos := pos) hall
  unfold permB at hperm
  simp only [Bool.and_eq_true, decide_eq_true_eq] at hperm
  obtain ⟨⟨p1, p2, p3⟩, p4⟩ := hperm
  refine ⟨fun pins s σ H Q I h => ?_⟩
  refine wpAny_Call_Name_kw (ld_glob I g hm ?_ d)
  obtain ⟨env, Fz, st, p⟩ := h
  rw [evE] at p
  have p := p.split0
  refine PySem.W.callWith_KW0 I.ok.mod.kin hk n1 (thn (ha.run pos pins s σ H (fun zs H1 => ∃ env1 Fz1 ds, StOk G env1 σ Fz1 H1 ∧ FrO (Own env σ) (Own env1 σ) Fz H Fz1 H1 ∧ RFs G.K Fz1 zs ds ∧ PostE G cn W env σ Fz H (doCallK cf f perm ds env1) (KV' G Q env σ H)) I
    ⟨env, Fz, st, p.mono fun ds env1 Fz1 H1 s1 f1 q xs rs => ⟨env1, Fz1, ds, s1, f1, rs, q⟩⟩) fun ws s2 ⟨zs, H2, I2, rz, q2⟩ => ⟨I2.kIn, ?_⟩) (by rw [n3]; rfl)
  rw [n2]
  obtain ⟨env1, Fz1, ds, s1, f1, rs, q⟩ := q2
  rw [doCallK] at q
  split at q
  · rename_i args hargs
    split at q
    · rename_i hlen
      have hlen : ds.length = perm.length := by simpa using hlen
      obtain ⟨vs, us, r2, ro, e3⟩ := picked (H := H2) rs rz hargs
      have hkl : (kws.filterMap (·.arg)).length = ws.length := by
        have e1 := rz.length
        have e2 := rs.length
        have e4 := congrArg List.length p4
        rw [List.length_map, List.length_map] at e4
        omega
      have hb2 : BindsTo s2 fd ⟨[], (kws.filterMap (·.arg)).zip ws⟩ (ps.zip us) := by
        have z := hkb s2 ((kws.filterMap (·.arg)).zip ws) (by rw [List.map_fst_zip (by omega)]; exact p1) (fun q hq => by
          rw [List.map_fst_zip (by omega)] at hq
          rw [List.all_eq_true] at p2
          exact p2 q hq) (fun q hq => by
          rw [List.map_fst_zip (by omega)]
          have hq : some q ∈ perm.map (fun i => (kws.filterMap (·.arg))[i]?) := by rw [p4]; exact List.mem_map.mpr ⟨q, hq, rfl⟩
          obtain ⟨i, _, hi⟩ := List.mem_map.mp hq
          exact List.mem_of_getElem? hi)
        rw [bound_is p1 p4 e3] at z
        exact z
      have hcp : CallPost G cn Fz1 H2 (args.map .v) vs (cf f (args.map .v)) Q (fun cls d H' => W cls d σ H') := by
        have nom : ∀ a, ¬ OwnA (args.map Ob.v) vs a := fun a ⟨j, o, h1, h2, _⟩ => by
          rw [List.getElem?_map, Option.map_eq_some_iff] at h1
          obtain ⟨w, _, e⟩ := h1
          subst e
          cases h2
        have ext : ∀ {Fz' H' : Hp}, Same Fz' H' → FrO (OwnA (args.map Ob.v) vs) (OwnA (args.map Ob.v) vs) Fz1 H2 Fz' H' → Ext Fz1 H2 Fz' H' := fun sub g => ⟨fun a o h => g.hh a o h (nom a), g.ff, sub, fun a h z => g.nw a h (nom a) z⟩
        cases e : cf f (args.map .v) with
        | no => rw [e] at q; exact q
        | exc c ys =>
          rw [e] at q
          exact fun cls d Fz' H' sub g x => q cls d Fz' H' (s1.ext (ext sub g)) (f1.trans (.of_ext (ext sub g))) x
        | ret o outs =>
          rw [e, endCall] at q
          intro v Fz' H' sub r ho g fsh
          split at q
          · rename_i env' he
            have : env' = env1 := by
              cases outs with
              | nil => rw [putBack] at he; cases he; rfl
              | cons _ _ => rw [putBack] at he; cases he; all_goals simp
            subst this
            exact opEnd s1 f1 q v Fz' H' (ext sub g) r fsh
          · exact q.elim
      have hsp : spF G cf cn ps.length f vs H2 Q (WE W σ) := by
        refine ⟨?_, Fz1, args.map .v, s1.sub, ro, fun i j a oi oj _ h1 _ m1 => ?_, hcp⟩
        · rw [ro.length]
          exact hl _ fun e => by rw [e] at hcp; exact hcp.elim
        · rw [List.getElem?_map, Option.map_eq_some_iff] at h1
          obtain ⟨w, _, e⟩ := h1
          subst e
          cases m1
      refine wpAny_call (codeAny_mono (F.run X.A X.stack s2 H2 _ us vs Q (WE W σ) hr I2.env0 hb2 r2 hsp) fun r s' hq => ?_)
      cases r with
      | error e => exact passAt c.tk σ pins H2 s2 e s' I2 hq
      | ok fl =>
        cases fl with
        | ret u => exact I2.after hq
        | next => exact False.elim hq
        | brk => exact False.elim hq
        | cont => exact False.elim hq
    · exact q.elim
  · exact q.elim
end
end Pv
-- PvStar
set_option maxRecDepth 100000
namespace Pv
open PySem L2
section
variable {X : Cx} {G : Gx} {cf : Nat → List Ob → CR} {lk : List Nat} {cn : Nat → Str} {C : CI} {W : WX}
theorem RFs.obs {Fz H : Hp} : ∀ {vs : List V} {ds : List PV}, RFs G.K Fz vs ds → Paired (fun (x : V) (o : Ob) => RO G Fz H o x) vs (ds.map .v)
  | _, _, .nil => .nil
  | _, _, .cons a b => .cons (.v a) (RFs.obs b)
/-- a call of values that never change -/
theorem frozen_call {f np : Nat} {env env1 : En} {σ : St} {Fz H Fz1 H1 : Hp} {Q : VK} {vs : List V} {ds : List PV} (hl : ∀ obs, cf f obs ≠ .no → obs.length = np) (s1 : StOk G env1 σ Fz1 H1) (f1 : FrO (Own env σ) (Own env1 σ) Fz H Fz1 H1)
    (ro : Paired (fun (x : V) (o : Ob) => RO G Fz1 H1 o x) vs (ds.map .v)) (q : PostE G cn W env σ Fz H (endCall [] env1 (cf f (ds.map .v))) (KV' G Q env σ H)) : spF G cf cn np f vs H1 Q (WE W σ) := by
  have nom : ∀ a, ¬ OwnA (ds.map Ob.v) vs a := fun a ⟨j, o, h1, h2, _⟩ => by
    rw [List.getElem?_map, Option.map_eq_some_iff] at h1
    obtain ⟨w, _, e⟩ := h1
    subst e
    cases h2
  have ext : ∀ {Fz' H' : Hp}, Same Fz' H' → FrO (OwnA (ds.map Ob.v) vs) (OwnA (ds.map Ob.v) vs) Fz1 H1 Fz' H' → Ext Fz1 H1 Fz' H' := fun sub g => ⟨fun a o h => g.hh a o h (nom a), g.ff, sub, fun a h z => g.nw a h (nom a) z⟩
  have hcp : CallPost G cn Fz1 H1 (ds.map .v) vs (cf f (ds.map .v)) Q (fun cls d H' => W cls d σ H') := by
    cases e : cf f (ds.map .v) with
    | no => rw [e] at q; exact q
    | exc c ys =>
      rw [e] at q
      exact fun cls d Fz' H' sub g x => q cls d Fz' H' (s1.ext (ext sub g)) (f1.trans (.of_ext (ext sub g))) x
    | ret o outs =>
      rw [e, endCall] at q
      intro v Fz' H' sub r ho g fsh
      split at q
      · rename_i env' he
        have : env' = env1 := by
          cases outs with
          | nil => rw [putBack] at he; cases he; rfl
          | cons _ _ => rw [putBack] at he; cases he; all_goals simp
        subst this
        exact opEnd s1 f1 q v Fz' H' (ext sub g) r fsh
      · exact q.elim
  refine ⟨?_, Fz1, ds.map .v, s1.sub, ro, fun i j a oi oj _ h1 _ m1 => ?_, hcp⟩
  · rw [ro.length]
    exact hl _ fun e => by rw [e] at hcp; exact hcp.elim
  · rw [List.getElem?_map, Option.map_eq_some_iff] at h1
    obtain ⟨w, _, e⟩ := h1
    subst e
    cases m1
theorem calls_snd {n : Str} {f : Nat} {p pos sp : Pos} {ia : IE} {x : Expr} (c : Cok G cf cn X C W) (hn : C.nm[f]? = some n) (hg : glB C n = true) (hx : PE X x (tFz G cf lk cn W ia)) : PE X (.Call (.Name n p) [.Starred x sp] [] pos) (tE G cf lk cn W (.calls f ia)) := by
  obtain ⟨a, k, fd, ps, _, hm, hr, hk, hb, F, hl⟩ := c.fn f n hn
  obtain ⟨g, d, _⟩ := c.gl hg
  refine ⟨fun pins s σ H Q I ⟨env, Fz, st, h⟩ => ?_⟩
  rw [evE] at h
  have h : PostE G cn W env σ Fz H ((evZ cf lk ia env).bind fun d env => doCallS cf f d env) (KV' G Q env σ H) := by
    rw [← Rs.assoc] at h
    exact h
  have h := h.split0
  refine wpAny_Call_Name_kw (ld_glob I g hm ?_ d)
  refine PySem.W.callWith_S (h₀ := X.base) I.ok.mod.kin hk (thn (hx.run pins s σ H (fun y H1 => ∃ (b : Addr) (xs : List V), y = V.ref b ∧ (SqT X.K H1 b xs ∨ SqL X.K H1 b xs) ∧ spF G cf cn ps.length f xs H1 Q (WE W σ)) I
    ⟨env, Fz, st, h.mono fun d env1 Fz1 H1 s1 f1 q y ry => ?_⟩) fun v s1 ⟨y, H1, I1, r1, b, xs, e, hs, q⟩ => ?_) rfl
  · unfold doCallS at q
    split at q
    · rename_i ds hd
      cases d <;> first | (cases hd; done) | skip
      · cases hd
        cases ry with
        | lst ha hr => exact ⟨_, _, rfl, .inr (SqL.of (s1.sub _ _ ha)), frozen_call hl s1 f1 hr.obs q⟩
      · cases hd
        cases ry with
        | tup ha hr => exact ⟨_, _, rfl, .inl (c.K ▸ SqT.mono s1.sub ha), frozen_call hl s1 f1 hr.obs q⟩
    · exact q.elim
  · subst e
    obtain rfl : v = Value.ref b := r1
    exact StX.star_any I1 hs fun us s2 I2 rv => ⟨I2.kIn, run_fnS F hr hb (passAt c.tk σ) I2 rv q⟩
end
end Pv
-- PvCallF
set_option maxRecDepth 100000
namespace Pv
open PySem L2 PyProof.Rows
section
variable {X : Cx} {G : Gx} {cf : Nat → List Ob → CR} {lk : List Nat} {cn : Nat → Str} {C : CI} {W : WX}
theorem few_oneF {e : Expr} {cpos : Pos} {env : Env} (h : notStar e = true) : ((backTo cpos (starEach [e] env)).all (fun x => !x.1) && (backToKw cpos (keywordEach [] env)).all (fun x => x.1.isSome)
      && decide (([e] : List Expr).length + ([] : List Keyword).length + (if ([] : List Keyword).isEmpty then 0 else 1) < 30)) = true := by
  rw [star_cons h]
  rfl
theorem RFs.eraseIdx {K : PySem.W.Frag} {H : Hp} {ds : List PV} {vs : List V} (h : RFs K H vs ds) (j : Nat) : RFs K H (vs.eraseIdx j) (ds.eraseIdx j) := by
  rw [List.eraseIdx_eq_take_drop_succ, List.eraseIdx_eq_take_drop_succ]
  exact (h.take _).append (h.drop _)
/-- x.pop(k) -/
theorem popi_snd {n : Str} {i : Nat} {x : Expr} {ir : IE} {p apos cpos : Pos} (c : Cok G cf cn X C W) (h : visB C n i = true) (hl : (apos.endLine == cpos.line) = true) (hs : notStar x = true) (he : PE X x (tE G cf lk cn W ir)) :
    PE X (.Call (.Attribute (.Name n p) "pop" apos) [x] [] cpos) (tE G cf lk cn W (.popi i ir)) := by
  refine PE.imp (pe_bm PySem.F.plainAttrs_list PySem.F.slot_list_pop PySem.F.type_list_pop mt_popAt (c.var h) (pa_cons (fz_of he) pa_nil (star_cons hs)) rfl (few_oneF hs) hl (star_cons hs) rfl) fun σ H Q ⟨env, Fz, s, p⟩ => ?_
  rw [evE] at p
  split at p
  · rename_i hm
    obtain ⟨xs0, h0⟩ : ∃ xs, env[i]? = some (some (.ml xs)) := by
      unfold isMl at hm
      split at hm
      · rename_i xs e; exact ⟨xs, e⟩
      · cases hm
    obtain ⟨v0, h1, h2⟩ := s.rep i _ h0
    cases h2 with
    | @ml a vs0 _ ha0 hr0 hf0 =>
      rw [← Rs.assoc] at p
      have p : PostE G cn W env σ Fz H ((evZ cf lk ir env).bind fun d env => popAt i d env) (KV' G Q env σ H) := p
      refine ⟨.ref a, h1, .inl ⟨rfl, _, SqL.of ha0⟩, env, Fz, s, p.split0.mono fun d env1 Fz1 H1 s1 f1 q y r => ?_⟩
      unfold popAt at q
      split at q
      · rename_i xs k ho
        split at q
        · rename_i hz
          split at q
          · rename_i j hj
            split at q
            · rename_i d' hd
              obtain ⟨v, g1, g2⟩ := s1.rep i _ ho
              rw [h1] at g1
              cases g1
              cases g2 with
              | @ml _ vs _ ha hr hf =>
                obtain ⟨w, w1, w2⟩ := hr.get hd
                obtain ⟨k1, k2, k3, k4⟩ := ixN_seq hj
                rw [lim, sizeLine_eq] at hz
                cases r
                refine ⟨a, vs, k, j, w, rfl, rfl, ha, ?_, ?_, by rw [hr.length]; exact k1, w1, ?_⟩
                · omega
                · omega
                · obtain ⟨s', f'⟩ := upL s1 ho h1 ha hf (hr.eraseIdx j)
                  exact q _ _ s' (f1.trans f') _ (.v w2) (nmut_fsh rfl)
            · exact q.elim
          · exact q.elim
        · exact q.elim
      · exact q.elim
  · exact p.elim
/-- the defs that a row of names names -/
theorem names_pa (c : Cok G cf cn X C W) : ∀ (fs : List Nat) (es : List Expr), namesB C fs es = true → ∃ as : List Addr, as.length = fs.length ∧ (∀ (j f : Nat), fs[j]? = some f → ∃ a n, as[j]? = some a ∧ C.nm[f]? = some n ∧ X.mg n = some (.ref a)) ∧ PA X es (fun σ H Q => Q (as.map V.ref) H)
  | [], [], _ => ⟨[], rfl, fun j f h => (by cases h), pa_nil⟩
  | [], _ :: _, h => by cases h
  | _ :: _, [], h => by cases h
  | f :: fs, e :: es, h => by
    rw [namesB.eq_def] at h
    simp only at h
    split at h
    · rename_i n p
      rw [Bool.and_eq_true, Bool.and_eq_true] at h
      obtain ⟨⟨h1, h2⟩, h3⟩ := h
      have h1 := of_decide_eq_true h1
      obtain ⟨as, l, g, ha⟩ := names_pa c fs es h3
      obtain ⟨a, _, _, _, _, hm, _⟩ := c.fn f n h1
      obtain ⟨gl, d, _⟩ := c.gl h2
      refine ⟨a :: as, by rw [List.length_cons, List.length_cons, l], fun j f' hj => ?_, ?_⟩
      · cases j with
        | zero => cases hj; exact ⟨a, n, rfl, h1, hm⟩
        | succ j => exact g j f' hj
      · exact PA.imp (pa_cons (pe_glob gl hm (show RelV (.ref a) (.ref a) from rfl) d) ha (star_cons rfl)) fun σ H Q q => q
    · cases h
/-- [f, g][i](..) -/
theorem callf_snd {fs : List Nat} {ns : List Expr} {x : Str} {i : Nat} {irs : IEs} {args : List Expr} {lp xp sp pos : Pos} (c : Cok G cf cn X C W) (hn : namesB C fs ns = true) (hl10 : fs.length ≤ 10) (hv : visB C x i = true) (hne : (!args.isEmpty) = true)
    (hs : (args.all notStar) = true) (ha : PA X args (tFs G cf lk cn W irs)) : PE X (.Call (.Subscript (.List ns lp) (.Name x xp) sp) args [] pos) (tE G cf lk cn W (.callf fs i irs)) := by
  obtain ⟨as, la, hg, hpa⟩ := names_pa c fs ns hn
  match args, hne, hs, ha with
  | e :: es, _, hs, ha =>
    rw [List.all_cons, Bool.and_eq_true] at hs
    refine ⟨fun pins s σ H Q I ⟨env, Fz, st, h⟩ => ?_⟩
    rw [evE] at h
    split at h
    · rename_i j hj
      split at h
      · rename_i f hf
        obtain ⟨j', hj1, hj2, hj3, hj4, hj5⟩ := atI_get hf
        obtain ⟨a, n, ha1, hcn, hm⟩ := hg j' f hj2
        obtain ⟨a', k, fd, ps, _, hm', hr, hk, hb, F, hl⟩ := c.fn f n hcn
        rw [hm] at hm'
        cases hm'
        obtain ⟨v, e1, e2⟩ := st.rep i _ hj
        have hat : atI (as.map V.ref) j = some (V.ref a) := by
          unfold atI at hf ⊢
          rw [List.length_map, la]
          cases hx : ixN fs.length j with
          | none => simp [hx] at hf
          | some m =>
            simp only [hx, Option.bind_some] at hf ⊢
            obtain ⟨a2, n2, q1, q2, q3⟩ := hg m f hf
            rw [hcn] at q2
            cases q2
            rw [hm] at q3
            cases q3
            rw [List.getElem?_map, q1]; rfl
        have hfe : PE X (.Subscript (.List ns lp) (.Name x xp) sp) (tOp (rIxL X.K) (tLst (fun σ H Q => Q (as.map V.ref) H)) (tVar i)) := pe_ix ix_list (pe_lst hpa) (c.var hv) (notSlice_ix rfl)
        refine Call_ (thn (hfe.run pins s σ H (fun y H1 => y = V.ref a ∧ ∃ p, H p = none ∧ H1 = upd H p (.lst (as.map V.ref))) I ⟨by rw [List.length_map, la, sizeLine_eq]; omega, fun p hp => ⟨v, e1, ?_⟩⟩) fun u s1 ⟨y, H1, I1, ry, ey, p, hp, eH⟩ => ?_) rfl
        · cases e2 with
          | v rf =>
            cases rf
            exact ⟨p, _, j, _, rfl, rfl, SqL.of upd_same, hat, rfl, p, hp, rfl⟩
        · subst ey
          subst eH
          obtain rfl : u = Value.ref a := ry
          have ex : Ext Fz H Fz (upd H p (.lst (as.map V.ref))) := Ext.newL st.sub hp
          have f0 : FrO (Own env σ) (Own env σ) Fz H Fz (upd H p (.lst (as.map V.ref))) := .of_ext ex
          refine PySem.W.callWith_K (h₀ := X.base) I1.ok.mod.kin hk (thn (ha.run pos pins s1 σ _ (fun vs H2 => spF G cf cn ps.length f vs H2 Q (WE W σ)) I1 ⟨env, Fz, st.ext ex, (h.split0.shift f0).mono fun ds env1 Fz1 H1 s2 f2 q xs rs => ?_⟩) fun us s2 ⟨vs, H2, I2, r, q⟩ => ⟨I2.kIn, ?_⟩) (star_cons hs.1) (backTo_no (star_no hs.2))
          · exact frozen_call hl s2 (f0.trans f2) rs.obs q
          · exact run_fnS F hr hb (passAt c.tk σ) I2 r q
      · exact h.elim
    · exact h.elim
end
end Pv
-- PvSnd3
set_option maxRecDepth 100000
set_option maxHeartbeats 4000000
namespace Pv
open PySem L2
section
variable {G : Gx} {cf : Nat → List Ob → CR} {lk : List Nat} {cn : Nat → Str}

theorem and2 {a b : Bool} (h : (a && b) = true) : a = true ∧ b = true := by simpa using h
theorem mEs_star {C : CI} : ∀ {irs : IEs} {es : List Expr}, mEs C irs es = true → es.all notStar = true ∧ (es = [] → irs = .nil)
  | .nil, es, h => by
    rw [mEs] at h
    cases es with
    | nil => exact ⟨rfl, fun _ => rfl⟩
    | cons e r => cases h
  | .cons io a r, [], h => by rw [mEs] at h; cases h
  | .cons io a r, e :: es, h => by
    rw [mEs] at h
    obtain ⟨h1, h2⟩ := and2 h
    obtain ⟨h3, h4⟩ := and2 h1
    rw [List.all_cons, h3, (mEs_star h2).1]
    exact ⟨rfl, fun q => by cases q⟩
theorem glob_snd {X : Cx} {C : CI} {W : WX} {n : Str} {d d' : PV} {pos : Pos} (c : Cok G cf cn X C W) (hg : glB C n = true) (hl : C.gc.lookup n = some d') (h : pvEq d d' = true) : PE X (.Name n pos) (tE G cf lk cn W (.c d)) := by
  obtain ⟨u, v, h1, h2, h3⟩ := c.gc n d' hl
  obtain ⟨g, db, _⟩ := c.gl hg
  rw [pvEq_ok h]
  exact tE_c (pe_glob g h1 h2 db) h3

theorem base_ok {o : Expr} {n : Str} {env : Env} (h : baseB o = true) : attributeBase o n env (eval o env) = eval o env := by
  cases o <;> first | rfl | (cases h; done) | skip
  rename_i f args kws pos
  cases args with
  | nil => cases h
  | cons a r => cases f <;> rfl
theorem meth_snd {X : Cx} {C : CI} {W : WX} {m : Mt} {io : Bool} {a : IE} {es : IEs} {o : Expr} {n : Str} {apos cpos : Pos} {args : List Expr} (c : Cok G cf cn X C W) (h0 : (n == (mtName m : Str)) = true) (hb : baseB o = true) (hl : (apos.endLine == cpos.line) = true)
    (hone : (if mtOne m then (match args with
          | [x] => notStar x
          | _ => false) else args.isEmpty) = true) (ha : Snd G cf lk cn W X o a) (hA : PA X args (tFs G cf lk cn W es)) (hz : args = [] → es = .nil) (hes : mEs C es args = true) :
    Snd G cf lk cn W X (.Call (.Attribute o n apos) args [] cpos) (.meth m (.cons io a .nil) es) := by
  have h0 := blt_const h0
  subst h0
  refine .of c.K ?_ rfl rfl
  by_cases h1 : mtOne m = true
  · rw [if_pos h1] at hone
    split at hone
    · exact meth1_snd c.K c.units h1 ha.pa hA hone (base_ok hb) hl
    · cases hone
  · rw [if_neg h1] at hone
    have : args = [] := by simpa using hone
    subst this
    cases hz rfl
    cases m <;> first | (exfalso; exact h1 rfl; done) | skip
    exact words_snd c.K ha.pa (base_ok hb) hl
mutual
theorem mE_ok {X : Cx} {C : CI} {W : WX} (ir : IE) (c : Cok G cf cn X C W) (e : Expr) (h : mE C ir e = true) : Snd G cf lk cn W X e ir := by
  cases ir with
  | c d =>
    rw [mE.eq_def] at h
    simp only at h
    split at h
    · split at h
      · rw [of_decide_eq_true h]
        exact .of c.K (tE_c pe_int fun _ => .int _) rfl rfl
      · cases h
    · split at h
      · obtain ⟨h1, h2⟩ := and2 h
        rw [← of_decide_eq_true h1]
        exact .of c.K (tE_c pe_str fun _ => .str h2) rfl rfl
      · cases h
    · split at h
      · rw [of_decide_eq_true h]
        exact .of c.K (tE_c pe_bl fun _ => .bl _) rfl rfl
      · cases h
    · cases d <;> first | (cases h; done) | skip
      exact .of c.K (tE_c pe_non fun _ => .non) rfl rfl
    · obtain ⟨h1, h2⟩ := and2 h
      split at h2
      · rename_i d' hd
        exact .of c.K (glob_snd c h1 hd h2) rfl rfl
      · cases h2
    · cases h
  | x i =>
    rw [mE.eq_def] at h
    simp only at h
    split at h
    · have hv := c.var h (pos := ‹Pos›)
      exact ⟨tE_x hv, arg_x hv, tT_of c.K (tE_x hv) (plainT_eq rfl), fun q => by cases q⟩
    · cases h
  | f k =>
    rw [mE.eq_def] at h
    simp only at h
    split at h
    · obtain ⟨h1, h2⟩ := and2 h
      obtain ⟨a, _, _, _, _, hm, _⟩ := c.fn k _ (of_decide_eq_true h2)
      obtain ⟨g, d, _⟩ := c.gl h1
      refine .of c.K (tE_f (pe_glob g hm (show RelV (.ref a) (.ref a) from rfl) d) ?_) rfl rfl
      rw [c.nm _ _ (of_decide_eq_true h2), ← c.mg]
      exact hm
    · cases h
  | tup es =>
    rw [mE.eq_def] at h
    simp only at h
    split at h
    · exact .of c.K (tE_tup (mEs_ok es c _ h).2) rfl rfl
    · cases h
  | lst es =>
    rw [mE.eq_def] at h
    simp only at h
    split at h
    · exact .of c.K (tE_lst (mEs_ok es c _ h).2) rfl rfl
    · cases h
  | op o es =>
    rw [mE.eq_def] at h
    simp only at h
    split at h
    · rename_i io a
      split at h
      · rename_i x hx
        exact un1_snd c hx (mE_ok a c x h).pa
      · cases h
    · rename_i i1 a i2 b
      split at h
      · rename_i x y hx
        obtain ⟨h1, h2⟩ := and2 h
        exact bi2_snd c hx (mE_ok a c x h1).pa (mE_ok b c y h2).pa
      · cases h
    · cases h
  | and a b =>
    rw [mE.eq_def] at h
    simp only at h
    split at h
    · obtain ⟨h1, h2⟩ := and2 h
      have ha := mE_ok a c _ h1
      have hb := mE_ok b c _ h2
      have w := tT_and ha.pt (pw_and1 (pos := ‹Pos›) hb.pt)
      have p := tE_and c.K ha.pe (pe_one (op := .And) (pos := ‹Pos›) hb.pe)
      exact ⟨p, arg_of p rfl, w.pt, fun _ => w⟩
    · obtain ⟨h1, h2⟩ := and2 h
      have ha := mE_ok a c _ h1
      have hb := mE_ok b c _ h2
      have w := tT_and ha.pt (hb.pw rfl)
      have p := tE_and c.K ha.pe hb.pe
      exact ⟨p, arg_of p rfl, w.pt, fun _ => w⟩
    · cases h
  | or a b =>
    rw [mE.eq_def] at h
    simp only at h
    split at h
    · obtain ⟨h1, h2⟩ := and2 h
      have ha := mE_ok a c _ h1
      have hb := mE_ok b c _ h2
      have w := tT_or ha.pt (pw_or1 (pos := ‹Pos›) hb.pt)
      have p := tE_or c.K ha.pe (pe_one (op := .Or) (pos := ‹Pos›) hb.pe)
      exact ⟨p, arg_of p rfl, w.pt, fun _ => w⟩
    · obtain ⟨h1, h2⟩ := and2 h
      have ha := mE_ok a c _ h1
      have hb := mE_ok b c _ h2
      have w := tT_or ha.pt (hb.pw rfl)
      have p := tE_or c.K ha.pe hb.pe
      exact ⟨p, arg_of p rfl, w.pt, fun _ => w⟩
    · cases h
  | not a =>
    rw [mE.eq_def] at h
    simp only at h
    split at h
    · have ha := mE_ok a c _ h
      exact .of2 (tE_not c.K ha.pe) rfl (tT_not ha.pt) rfl
    · cases h
  | ite k a b =>
    rw [mE.eq_def] at h
    simp only at h
    split at h
    · obtain ⟨h1, h2⟩ := and2 h
      obtain ⟨h2, h3⟩ := and2 h2
      have hk := mE_ok k c _ h1
      have ha := mE_ok a c _ h2
      have hb := mE_ok b c _ h3
      exact .of2 (tE_ite hk.pt ha.pe hb.pe) rfl (tT_ite hk.pt ha.pt hb.pt) rfl
    · cases h
  | chain o1 o2 a b d =>
    rw [mE.eq_def] at h
    simp only at h
    split at h
    · obtain ⟨h0, h⟩ := and2 h
      obtain ⟨h1, h2⟩ := and2 h
      obtain ⟨h2, h3⟩ := and2 h2
      obtain ⟨q1, q3⟩ := and2 h0
      obtain ⟨q1, q2⟩ := and2 q1
      have q1 := of_decide_eq_true q1
      have q2 := of_decide_eq_true q2
      subst q1 q2
      have ha := mE_ok a c _ h1
      have hb := mE_ok b c _ h2
      have hd := mE_ok d c _ h3
      exact .of2 (tE_chain c.K c.units _ _ ha.pe hb.pe hd.pe q3) rfl (tT_chain c.K c.units _ _ ha.pe hb.pe hd.pe q3) rfl
    · cases h
  | sl2 as lo hi =>
    rw [mE.eq_def] at h
    simp only at h
    split at h
    · rename_i io a
      split at h
      · obtain ⟨h1, h2⟩ := and2 h
        obtain ⟨h2, h3⟩ := and2 h2
        exact .of c.K (tE_sl2 c.K (mE_ok a c _ h1).pa (mE_ok lo c _ h2).pe (mE_ok hi c _ h3).pe) rfl rfl
      · cases h
    · cases h
  | meth m as es =>
    rw [mE.eq_def] at h
    simp only at h
    split at h
    · rename_i io a
      split at h
      · obtain ⟨h0, h⟩ := and2 h
        obtain ⟨h1, h2⟩ := and2 h
        obtain ⟨h0, h3⟩ := and2 h0
        obtain ⟨h0, h4⟩ := and2 h0
        obtain ⟨h0, h5⟩ := and2 h0
        exact meth_snd c h0 h5 h4 h3 (mE_ok a c _ h1) (mEs_ok es c _ h2).2 (mEs_star h2).2 h2
      · cases h
    · cases h
  | call f es =>
    rw [mE.eq_def] at h
    simp only at h
    split at h
    · obtain ⟨h0, h⟩ := and2 h
      obtain ⟨q1, q2⟩ := and2 h0
      obtain ⟨s1, s2⟩ := mEs_star h
      exact .of c.K (call_snd c (of_decide_eq_true q1) q2 s1 s2 (mEs_ok es c _ h).1) rfl rfl
    · cases h
  | callk f perm es =>
    rw [mE.eq_def] at h
    simp only at h
    split at h
    · obtain ⟨h0, h⟩ := and2 h
      obtain ⟨q1, q2⟩ := and2 h0
      obtain ⟨h1, h2⟩ := and2 h
      split at h1
      · rename_i ps hps
        obtain ⟨k1, k2⟩ := mKw_ok es c _ h2
        exact .of c.K (callk_snd c (of_decide_eq_true q1) q2 hps h1 k2 k1) rfl rfl
      · cases h1
    · cases h
  | callx i es => rw [mE.eq_def] at h; cases h
  | calls f a =>
    rw [mE.eq_def] at h
    simp only at h
    split at h
    · obtain ⟨h0, h1⟩ := and2 h
      obtain ⟨h2, h3⟩ := and2 h0
      exact .of c.K (calls_snd c (of_decide_eq_true h2) h3 (fz_of (mE_ok a c _ h1).pe)) rfl rfl
    · cases h
  | callf fs i es =>
    rw [mE.eq_def] at h
    simp only at h
    split at h
    · obtain ⟨h0, h⟩ := and2 h
      obtain ⟨h1, h2⟩ := and2 h0
      obtain ⟨q1, q2⟩ := and2 h1
      obtain ⟨q3, q4⟩ := and2 h2
      obtain ⟨s1, s2⟩ := mEs_star h
      exact .of c.K (callf_snd c q1 (of_decide_eq_true q2) q3 q4 s1 (mEs_ok es c _ h).2) rfl rfl
    · cases h
  | popi i a =>
    rw [mE.eq_def] at h
    simp only at h
    split at h
    · obtain ⟨h0, h9⟩ := and2 h
      obtain ⟨h1, h2⟩ := and2 h0
      obtain ⟨q1, q2⟩ := and2 h1
      obtain ⟨q3, q4⟩ := and2 h2
      have q1 := eq_of_beq q1
      subst q1
      exact .of c.K (popi_snd c q2 q3 q4 (mE_ok a c _ h9).pe) rfl rfl
    · cases h
  | pop i =>
    rw [mE.eq_def] at h
    simp only at h
    split at h
    · obtain ⟨h0, h1⟩ := and2 h
      obtain ⟨h2, h3⟩ := and2 h0
      have h2 := blt_const h2
      subst h2
      exact .of c.K (pop_snd c h3 h1) rfl rfl
    · cases h
  | lc own tg it cond elt =>
    rw [mE.eq_def] at h
    simp only at h
    split at h
    · split at h
      · rename_i ow how
        obtain ⟨h0, h⟩ := and2 h
        obtain ⟨hb, h0⟩ := and2 h0
        obtain ⟨ht, ho⟩ := and2 h0
        obtain ⟨hs, h⟩ := and2 h
        obtain ⟨hi, h⟩ := and2 h
        obtain ⟨hc, he⟩ := and2 h
        refine .of c.K (lc_snd c how hb ht ?_ hs (mIt_ok it c _ _ hi) ?_ fun X' c' => (mE_ok elt c' _ he).pe) rfl rfl
        · intro i hi
          cases tg with
          | inr j =>
            have : i = j := by simpa [tgNames] using hi
            subst this
            simpa using ho
          | inl is =>
            have hi : i ∈ is := hi
            have ho : is.all own.contains = true := ho
            rw [List.all_eq_true] at ho
            simpa using ho i hi
        · intro X' c'
          cases cond with
          | nil =>
            have hc : List.isEmpty _ = true := hc
            rw [List.isEmpty_iff] at hc
            subst hc
            refine ⟨fun pins s σ H Q I hw => pts_nil.run pins s σ H Q I ?_⟩
            obtain ⟨env, Fz, st, p⟩ := hw
            rw [evK] at p
            exact p.ok st
          | cons io k r =>
            cases r with
            | cons _ _ _ => simp only at hc; cases hc
            | nil =>
              simp only at hc
              split at hc
              · refine ⟨fun pins s σ H Q I hw => (pts_one (mE_ok k c' _ hc).pt).run pins s σ H Q I ?_⟩
                obtain ⟨env, Fz, st, p⟩ := hw
                rw [evK] at p
                exact ⟨env, Fz, st, p⟩
              · cases hc
      · cases h
    · cases h
theorem mEs_ok {X : Cx} {C : CI} {W : WX} (irs : IEs) (c : Cok G cf cn X C W) (es : List Expr) (h : mEs C irs es = true) : PA X es (tArgs G cf lk cn W irs) ∧ PA X es (tFs G cf lk cn W irs) := by
  cases irs with
  | nil =>
    rw [mEs] at h
    cases es with
    | nil => exact ⟨args_nil, fs_nil⟩
    | cons e r => cases h
  | cons io a r =>
    cases es with
    | nil => rw [mEs] at h; cases h
    | cons e es =>
      rw [mEs] at h
      obtain ⟨h1, h2⟩ := and2 h
      obtain ⟨h3, h4⟩ := and2 h1
      have ha := mE_ok a c e h4
      obtain ⟨r1, r2⟩ := mEs_ok r c es h2
      exact ⟨args_cons (argC_of ha.pe ha.pa) r1 (star_cons h3), fs_cons (fz_of ha.pe) r2 (star_cons h3)⟩
theorem mKw_ok {X : Cx} {C : CI} {W : WX} (irs : IEs) (c : Cok G cf cn X C W) (kws : List Keyword) (h : mKw C irs kws = true) : PK X kws (tFs G cf lk cn W irs) ∧ kws.all (fun k => k.arg.isSome) = true := by
  cases irs with
  | nil =>
    rw [mKw] at h
    cases kws with
    | nil => exact ⟨kfs_nil, rfl⟩
    | cons e r => cases h
  | cons io a r =>
    cases kws with
    | nil => rw [mKw] at h; cases h
    | cons e es =>
      rw [mKw] at h
      obtain ⟨h1, h2⟩ := and2 h
      obtain ⟨h3, h4⟩ := and2 h1
      obtain ⟨n, v, kp⟩ := e
      have ha := mE_ok a c v h4
      obtain ⟨r1, r2⟩ := mKw_ok r c es h2
      exact ⟨kfs_cons (fz_of ha.pe) r1, by rw [List.all_cons, r2]; simpa using h3⟩
theorem mIt_ok {X : Cx} {C : CI} {W : WX} (it : IT) (c : Cok G cf cn X C W) (t e : Expr) (h : mIt C it t e = true) : PI X t e (tIt G cf lk cn W it) := by
  cases it with
  | seq a =>
    rw [mIt.eq_def] at h
    exact it_seq c.K (fz_of (mE_ok a c e h).pe)
  | enum a =>
    rw [mIt.eq_def] at h
    simp only at h
    split at h
    · split at h
      · obtain ⟨h0, h1⟩ := and2 h
        obtain ⟨h0, h2⟩ := and2 h0
        obtain ⟨h0, h3⟩ := and2 h0
        have h0 := blt_const h0
        subst h0
        obtain ⟨g, m, _, _⟩ := c.blt h3
        exact it_enum c.K g m (fz_of (mE_ok a c _ h1).pe) h2
      · cases h
    · cases h
  | zip a b =>
    rw [mIt.eq_def] at h
    simp only at h
    split at h
    · split at h
      · obtain ⟨h0, h1⟩ := and2 h
        obtain ⟨h0, h2⟩ := and2 h0
        obtain ⟨h0, h3⟩ := and2 h0
        obtain ⟨h4, h5⟩ := and2 h2
        obtain ⟨h6, h7⟩ := and2 h1
        have h0 := blt_const h0
        subst h0
        obtain ⟨g, m, _, _⟩ := c.blt h3
        exact it_zip c.K g m (fz_of (mE_ok a c _ h6).pe) (fz_of (mE_ok b c _ h7).pe) h4 h5
      · cases h
    · cases h
  | range es =>
    rw [mIt.eq_def] at h
    simp only at h
    split at h
    · rename_i i1 a
      split at h
      · obtain ⟨h0, h1⟩ := and2 h
        obtain ⟨h0, h2⟩ := and2 h0
        obtain ⟨h0, h3⟩ := and2 h0
        have h0 := blt_const h0
        subst h0
        obtain ⟨g, m, _, _⟩ := c.blt h3
        exact it_range1 g m (fz_of (mE_ok a c _ h1).pe) h2
      · cases h
    · rename_i i1 a i2 b
      split at h
      · obtain ⟨h0, h1⟩ := and2 h
        obtain ⟨h0, h2⟩ := and2 h0
        obtain ⟨h0, h3⟩ := and2 h0
        obtain ⟨h4, h5⟩ := and2 h2
        obtain ⟨h6, h7⟩ := and2 h1
        have h0 := blt_const h0
        subst h0
        obtain ⟨g, m, _, _⟩ := c.blt h3
        exact it_range2 g m (fz_of (mE_ok a c _ h6).pe) (fz_of (mE_ok b c _ h7).pe) h4 h5
      · cases h
    · rename_i i1 a i2 b i3 d
      split at h
      · obtain ⟨h0, h1⟩ := and2 h
        obtain ⟨h0, h2⟩ := and2 h0
        obtain ⟨h0, h3⟩ := and2 h0
        obtain ⟨h4, h5⟩ := and2 h2
        obtain ⟨h5, h8⟩ := and2 h5
        obtain ⟨h6, h7⟩ := and2 h1
        obtain ⟨h7, h9⟩ := and2 h7
        have h0 := blt_const h0
        subst h0
        obtain ⟨g, m, _, _⟩ := c.blt h3
        exact it_range3 g m (fz_of (mE_ok a c _ h6).pe) (fz_of (mE_ok b c _ h7).pe) (fz_of (mE_ok d c _ h9).pe) h4 h5 h8
      · cases h
    · cases h
end
end
end Pv
-- PvStm
set_option maxRecDepth 100000
namespace Pv
open PySem L2

theorem PS.imp {X : Cx} {e : Stmt} {t t' : TS} (h : PS X e t) (i : ∀ D σ H, t' D σ H → t D σ H) : PS X e t' := ⟨fun pins s σ H Q I q => h.run pins s σ H Q I (i Q σ H q)⟩
theorem PSs.imp {X : Cx} {e : List Stmt} {t t' : TS} (h : PSs X e t) (i : ∀ D σ H, t' D σ H → t D σ H) : PSs X e t' := ⟨fun pins s σ H Q I q => h.run pins s σ H Q I (i Q σ H q)⟩

/-- the locked slots stay -/
def Lk (lk : List Nat) (σ σ' : St) : Prop := σ'.length = σ.length ∧ ∀ i ∈ lk, σ'[i]? = σ[i]?
theorem Lk.refl {lk : List Nat} {σ : St} : Lk lk σ σ := ⟨rfl, fun _ _ => rfl⟩
theorem Lk.trans {lk : List Nat} {σ σ1 σ2 : St} (a : Lk lk σ σ1) (b : Lk lk σ1 σ2) : Lk lk σ σ2 := ⟨b.1.trans a.1, fun i h => (b.2 i h).trans (a.2 i h)⟩
theorem Lk.set {lk : List Nat} {σ : St} {i : Nat} {v : Option V} (h : free lk i = true) : Lk lk σ (σ.set i v) := ⟨List.length_set .., fun j hj => by
  have : i ≠ j := fun e => by
    subst e
    unfold free at h
    simp only [Bool.not_eq_true', List.contains_eq_mem, decide_eq_false_iff_not] at h
    exact h hj
  rw [List.getElem?_set_ne this]⟩

/-- what a row of statements says, seen from (env, σ, Fz, H) -/
def PostS (G : Gx) (lk : List Nat) (cn : Nat → Str) (W : WX) (env : En) (σ : St) (Fz H : Hp) (r : Rs Fl) (D : Ends) : Prop := match r with
  | .ok .nx env' => ∀ σ' Fz' H', StOk G env' σ' Fz' H' → FrO (Own env σ) (Own env' σ') Fz H Fz' H' → Lk lk σ σ' → D.nx σ' H'
  | .ok .bk env' => ∀ σ' Fz' H', StOk G env' σ' Fz' H' → FrO (Own env σ) (Own env' σ') Fz H Fz' H' → Lk lk σ σ' → D.bk σ' H'
  | .ok .ct env' => ∀ σ' Fz' H', StOk G env' σ' Fz' H' → FrO (Own env σ) (Own env' σ') Fz H Fz' H' → Lk lk σ σ' → D.ct σ' H'
  | .ok (.rt o) env' => ∀ v σ' Fz' H', StOk G env' σ' Fz' H' → FrO (Own env σ) (Own env' σ') Fz H Fz' H' → Lk lk σ σ' → RO G Fz' H' o v →
      (o.mut = true → ∃ a, v = .ref a ∧ ¬ Own env' σ' a ∧ (Own env σ a ∨ H a = none)) → D.rt v H'
  | .ex c as env' => ∀ cls d σ' Fz' H', StOk G env' σ' Fz' H' → FrO (Own env σ) (Own env' σ') Fz H Fz' H' → Lk lk σ σ' → ExR G cn c as cls d H' → W cls d σ' H'
  | .no => False

section
variable {G : Gx} {lk : List Nat} {cn : Nat → Str} {W : WX} {α : Type}
theorem own_none {env : En} {σ : St} {a : Addr} {Fz H : Hp} (s : StOk G env σ Fz H) (h : Own env σ a) : H a ≠ none := by
  obtain ⟨i, o, e1, e2, e3⟩ := h
  obtain ⟨v, w1, w2⟩ := s.rep i o e1
  rw [e3] at w1
  cases w1
  cases w2 with
  | ml ha _ _ => rw [ha]; simp
  | v _ => cases e2
  | ro _ _ => cases e2
  | fn _ => cases e2
theorem FrO.back {O1 O2 : Addr → Prop} {O : Addr → Prop} {Fz H Fz1 H1 Fz2 H2 : Hp} (f : FrO O O1 Fz H Fz1 H1) (g : FrO O1 O2 Fz1 H1 Fz2 H2) {a : Addr} (h : O1 a ∨ H1 a = none) : O a ∨ H a = none :=
  h.elim (f.ow a) fun z => by
    by_cases q : H a = none
    · exact .inr q
    · exact absurd z (f.dm a q)
/-- seen from a later state -/
theorem PostS.shift {env env1 : En} {σ σ1 : St} {Fz H Fz1 H1 : Hp} (f : FrO (Own env σ) (Own env1 σ1) Fz H Fz1 H1) (l : Lk lk σ σ1) {r : Rs Fl} {D : Ends} (p : PostS G lk cn W env σ Fz H r D) : PostS G lk cn W env1 σ1 Fz1 H1 r D := by
  cases r with
  | ok a env2 =>
    cases a with
    | nx => exact fun σ2 Fz2 H2 s2 f2 l2 => p σ2 Fz2 H2 s2 (f.trans f2) (l.trans l2)
    | bk => exact fun σ2 Fz2 H2 s2 f2 l2 => p σ2 Fz2 H2 s2 (f.trans f2) (l.trans l2)
    | ct => exact fun σ2 Fz2 H2 s2 f2 l2 => p σ2 Fz2 H2 s2 (f.trans f2) (l.trans l2)
    | rt o =>
      intro v σ2 Fz2 H2 s2 f2 l2 r2 m2
      refine p v σ2 Fz2 H2 s2 (f.trans f2) (l.trans l2) r2 fun m => ?_
      obtain ⟨a, h1, h2, h3⟩ := m2 m
      exact ⟨a, h1, h2, f.back f2 h3⟩
  | ex c as env2 => exact fun cls d σ2 Fz2 H2 s2 f2 l2 => p cls d σ2 Fz2 H2 s2 (f.trans f2) (l.trans l2)
  | no => exact p
/-- an expression ahead -/
theorem PostS.expr {env : En} {σ : St} {Fz H : Hp} {r : Rs α} {k : α → En → Rs Fl} {D : Ends} (p : PostS G lk cn W env σ Fz H (r.bind k) D) :
    PostE G cn W env σ Fz H r (fun a env1 _ _ => PostS G lk cn W env σ Fz H (k a env1) D) := by
  cases r with
  | ok a env1 => exact fun _ _ _ _ => p
  | ex c as env1 => exact fun cls d Fz' H' s f e => p cls d σ Fz' H' s f .refl e
  | no => exact p

theorem StOk.putO {env : En} {σ : St} {Fz H : Hp} (s : StOk G env σ Fz H) {i : Nat} {o : Ob} {x : V} (r : RO G Fz H o x) (n : o.mut = true → ∃ a, x = .ref a ∧ ¬ Own env σ a) : StOk G (env.set i (some o)) (σ.set i (some x)) Fz H := by
  refine ⟨by rw [List.length_set, List.length_set]; exact s.len, s.sub, fun j o h => ?_, fun j k a oj ok hne h1 h2 m1 m2 e1 e2 => ?_⟩
  · by_cases e : i = j
    · subst e
      have hl : i < env.length := by
        have := (List.getElem?_eq_some_iff.mp h).1
        rwa [List.length_set] at this
      rw [List.getElem?_set_self hl] at h
      cases h
      exact ⟨x, by rw [List.getElem?_set_self (s.len ▸ hl)], r⟩
    · rw [List.getElem?_set_ne e] at h ⊢
      exact s.rep j _ h
  · have g : ∀ (j : Nat) (o' : Ob) (a : Addr), (env.set i (some o))[j]? = some (some o') → (σ.set i (some x))[j]? = some (some (.ref a)) → (i = j ∧ o' = o ∧ x = .ref a) ∨ (i ≠ j ∧ env[j]? = some (some o') ∧ σ[j]? = some (some (.ref a))) := fun j o' a h e => by
      by_cases q : i = j
      · subst q
        have hl : i < env.length := by
          have := (List.getElem?_eq_some_iff.mp h).1
          rwa [List.length_set] at this
        rw [List.getElem?_set_self hl] at h
        rw [List.getElem?_set_self (s.len ▸ hl)] at e
        cases h; cases e
        exact .inl ⟨rfl, rfl, rfl⟩
      · rw [List.getElem?_set_ne q] at h e
        exact .inr ⟨q, h, e⟩
    rcases g j oj a h1 e1 with ⟨p0, p1, p2⟩ | ⟨p0, p1, p2⟩
    · rcases g k ok a h2 e2 with ⟨q0, q1, q2⟩ | ⟨q0, q1, q2⟩
      · exact hne (p0.symm.trans q0)
      · obtain ⟨b, eb, nb⟩ := n (p1 ▸ m1)
        rw [p2] at eb; cases eb
        exact nb ⟨k, ok, q1, m2, q2⟩
    · rcases g k ok a h2 e2 with ⟨q0, q1, q2⟩ | ⟨q0, q1, q2⟩
      · obtain ⟨b, eb, nb⟩ := n (q1 ▸ m2)
        rw [q2] at eb; cases eb
        exact nb ⟨j, oj, p1, m1, p2⟩
      · exact s.sep j k a oj ok hne p1 q1 m1 m2 p2 q2
theorem own_putO {env : En} {σ : St} {i : Nat} {o : Ob} {x : V} {a : Addr} (hl : env.length = σ.length) (h : Own (env.set i (some o)) (σ.set i (some x)) a) : Own env σ a ∨ (o.mut = true ∧ x = .ref a) := by
  obtain ⟨j, o', h1, h2, h3⟩ := h
  by_cases q : i = j
  · subst q
    have hlt : i < env.length := by
      have := (List.getElem?_eq_some_iff.mp h1).1
      rwa [List.length_set] at this
    rw [List.getElem?_set_self hlt] at h1
    rw [List.getElem?_set_self (hl ▸ hlt)] at h3
    cases h1; cases h3
    exact .inr ⟨h2, rfl⟩
  · rw [List.getElem?_set_ne q] at h1 h3
    exact .inl ⟨j, o', h1, h2, h3⟩
/-- a slot emptied in the machine -/
theorem StOk.drop {env : En} {σ : St} {Fz H : Hp} (s : StOk G env σ Fz H) (i : Nat) : StOk G (env.set i none) σ Fz H := s.wipe [i]
theorem own_drop {env : En} {σ : St} {i : Nat} {a : Addr} (h : Own (env.set i none) σ a) : Own env σ a := wipeL_own (l := [i]) h
/-- behind a store -/
theorem store_fr {env0 env : En} {σ : St} {Fz0 H0 Fz H : Hp} (s : StOk G env σ Fz H) (f : FrO (Own env0 σ) (Own env σ) Fz0 H0 Fz H) {i : Nat} {o : Ob} {x : V} (r : RO G Fz H o x) (n : Fsh o x env σ H0) :
    StOk G (env.set i (some o)) (σ.set i (some x)) Fz H ∧ FrO (Own env0 σ) (Own (env.set i (some o)) (σ.set i (some x))) Fz0 H0 Fz H := by
  refine ⟨s.putO r fun m => ?_, ⟨f.hh, f.dm, f.ff, f.nw, fun a h => ?_⟩⟩
  · obtain ⟨a, e, _, q⟩ := n m
    exact ⟨a, e, q⟩
  · rcases own_putO s.len h with h | ⟨m, e⟩
    · exact f.ow a h
    · obtain ⟨b, eb, hb, _⟩ := n m
      rw [e] at eb; cases eb
      exact .inr hb
end

section
variable (G : Gx) (cf : Nat → List Ob → CR) (lk : List Nat) (cn : Nat → Str) (W : WX)
def tS (ir : IS) : TS := fun D σ H => ∃ env Fz, StOk G env σ Fz H ∧ PostS G lk cn W env σ Fz H (evS cf lk ir env) D
def tSs (ir : ISs) : TS := fun D σ H => ∃ env Fz, StOk G env σ Fz H ∧ PostS G lk cn W env σ Fz H (evSs cf lk ir env) D
end
section
variable {G : Gx} {cf : Nat → List Ob → CR} {lk : List Nat} {cn : Nat → Str} {X : Cx} {C : CI} {W : WX}
theorem ss_nil : PSs X [] (tSs G cf lk cn W .nil) := PSs.imp pss_nil fun D σ H ⟨env, Fz, s, p⟩ => by
  rw [evSs] at p
  exact p σ Fz H s .refl .refl
/-- statements in a row -/
theorem PostS.seq {env : En} {σ : St} {Fz H : Hp} {a : Rs Fl} {k : Fl → En → Rs Fl} {D : Ends} (hk : ∀ fl env', fl ≠ .nx → k fl env' = .ok fl env') (p : PostS G lk cn W env σ Fz H (a.bind k) D) :
    PostS G lk cn W env σ Fz H a { D with nx := fun σ' H' => ∃ env' Fz', StOk G env' σ' Fz' H' ∧ PostS G lk cn W env' σ' Fz' H' (k .nx env') D } := by
  cases a with
  | ok fl env1 =>
    cases fl with
    | nx => exact fun σ1 Fz1 H1 s1 f1 l1 => ⟨env1, Fz1, s1, PostS.shift f1 l1 p⟩
    | rt o =>
      rw [Rs.bind_ok, hk _ _ (by simp)] at p
      exact p
    | bk =>
      rw [Rs.bind_ok, hk _ _ (by simp)] at p
      exact p
    | ct =>
      rw [Rs.bind_ok, hk _ _ (by simp)] at p
      exact p
  | ex c as env1 => exact p
  | no => exact p
theorem ss_cons {st : Stmt} {rest : List Stmt} {a : IS} {r : ISs} (h1 : PS X st (tS G cf lk cn W a)) (h2 : PSs X rest (tSs G cf lk cn W r)) : PSs X (st :: rest) (tSs G cf lk cn W (.cons a r)) :=
  PSs.imp (pss_cons h1 h2) fun D σ H ⟨env, Fz, s, p⟩ => by
    rw [evSs] at p
    refine ⟨env, Fz, s, ?_⟩
    refine PostS.seq (k := fun fl env => match fl with
      | .nx => evSs cf lk r env
      | fl => .ok fl env) (fun fl env' hn => ?_) p
    cases fl <;> first | rfl | exact absurd rfl hn
theorem s_pass {pos : Pos} : PS X (.Pass pos) (tS G cf lk cn W .pass) := PS.imp ps_pass fun D σ H ⟨env, Fz, s, p⟩ => by
  rw [evS] at p
  exact p σ Fz H s .refl .refl
theorem s_brk {pos : Pos} : PS X (.Break pos) (tS G cf lk cn W .brk) := PS.imp ps_break fun D σ H ⟨env, Fz, s, p⟩ => by
  rw [evS] at p
  exact p σ Fz H s .refl .refl
theorem s_cnt {pos : Pos} : PS X (.Continue pos) (tS G cf lk cn W .cnt) := PS.imp ps_continue fun D σ H ⟨env, Fz, s, p⟩ => by
  rw [evS] at p
  exact p σ Fz H s .refl .refl
theorem s_never {st : Stmt} : PS X st (tS G cf lk cn W .never) := PS.imp ps_never fun D σ H ⟨env, Fz, s, p⟩ => by
  rw [evS] at p
  exact p
/-- what has come, given away if one says so -/
theorem fz_if {env0 env : En} {σ : St} {Fz0 H0 Fz H : Hp} {z : Bool} {o : Ob} {v : V} (s : StOk G env σ Fz H) (f : FrO (Own env0 σ) (Own env σ) Fz0 H0 Fz H) (r : RO G Fz H o v) (fs : Fsh o v env σ H0) :
    ∃ Fz', StOk G env σ Fz' H ∧ FrO (Own env0 σ) (Own env σ) Fz0 H0 Fz' H ∧ RO G Fz' H (fzIf z o) v ∧ Fsh (fzIf z o) v env σ H0 := by
  cases z with
  | false => exact ⟨Fz, s, f, r, fs⟩
  | true =>
    cases o with
    | v d => exact ⟨Fz, s, f, r, fs⟩
    | fn d => exact ⟨Fz, s, f, r, fs⟩
    | ml xs =>
      obtain ⟨Fz', s', f', rr⟩ := freezeTmp s f r fs
      exact ⟨Fz', s', f', .v rr, nmut_fsh rfl⟩
/-- name = e, with what comes told -/
theorem asg_tS {z : Bool} {i : Nat} {ir : IE} {D : Ends} {σ : St} {H : Hp} (h : tS G cf lk cn W (.asg z i ir) D σ H) : tE G cf lk cn W ir σ H fun x H1 => gName i x σ H1 D.nx := by
  obtain ⟨env, Fz, s, p⟩ := h
  rw [evS] at p
  split at p
  · rename_i hf
    refine ⟨env, Fz, s, p.expr.mono fun o env1 Fz1 H1 s1 f1 q v r fs => ?_⟩
    obtain ⟨Fz', s', f', r', fs'⟩ := fz_if (z := z) s1 f1 r fs
    obtain ⟨s2, f2⟩ := store_fr s' f' (i := i) r' fs'
    exact q _ _ _ s2 f2 (.set hf)
  · exact p.elim
theorem s_ex {e : Expr} {ir : IE} {pos : Pos} (h : PE X e (tE G cf lk cn W ir)) (hs : swapsWith e none pos.line X.env = pure false) : PS X (.Expr e pos) (tS G cf lk cn W (.ex ir)) :=
  PS.imp (ps_expr h hs) fun D σ H ⟨env, Fz, s, p⟩ => by
    rw [evS] at p
    exact ⟨env, Fz, s, p.expr.mono fun o env1 Fz1 H1 s1 f1 q v r fs => q _ _ _ s1 f1 .refl⟩
theorem s_retn {pos : Pos} : PS X (.Return none pos) (tS G cf lk cn W .retn) := PS.imp ps_retN fun D σ H ⟨env, Fz, s, p⟩ => by
  rw [evS] at p
  exact p .non σ Fz H s .refl .refl (.v .non) fun m => by cases m
theorem s_ite {c : Expr} {a b : List Stmt} {ic : IE} {ia ib : ISs} {pos : Pos} (hc : PT X c (tT G cf lk cn W ic)) (ha : PSs X a (tSs G cf lk cn W ia)) (hb : PSs X b (tSs G cf lk cn W ib)) : PS X (.If c a b pos) (tS G cf lk cn W (.ite ic ia ib)) :=
  PS.imp (ps_if hc ha hb) fun D σ H ⟨env, Fz, s, p⟩ => by
    rw [evS] at p
    refine ⟨env, Fz, s, p.expr.mono fun k env1 Fz1 H1 s1 f1 q => ?_⟩
    cases k with
    | true => exact ⟨env1, Fz1, s1, PostS.shift f1 .refl q⟩
    | false => exact ⟨env1, Fz1, s1, PostS.shift f1 .refl q⟩
/-- a value given back -/
theorem s_ret {e : Expr} {ir : IE} {pos : Pos} (h : PE X e (tE G cf lk cn W ir)) (hx : ir.isX = none) : PS X (.Return (some e) pos) (tS G cf lk cn W (.ret ir)) :=
  PS.imp (ps_ret h) fun D σ H ⟨env, Fz, s, p⟩ => by
    rw [evS, retO, hx] at p
    refine ⟨env, Fz, s, p.expr.mono fun o env1 Fz1 H1 s1 f1 q v r fs => ?_⟩
    refine q v σ Fz1 H1 s1 f1 .refl r fun m => ?_
    obtain ⟨a, h1, h2, h3⟩ := fs m
    exact ⟨a, h1, h3, .inr h2⟩
theorem s_retX {e : Expr} {i : Nat} {pos : Pos} (hv : PE X e (tVar i)) : PS X (.Return (some e) pos) (tS G cf lk cn W (.ret (.x i))) := by
  have old : ∀ D σ H env Fz, StOk G env σ Fz H → PostS G lk cn W env σ Fz H ((readX env i).bind fun o env => .ok (.rt o) env) D → tVar i σ H D.rt := fun D σ H env Fz s p => by
    rw [readX] at p
    split at p
    · rename_i o ho
      cases o with
      | v d =>
        obtain ⟨v, h1, h2⟩ := s.rep i _ ho
        exact ⟨v, h1, p v σ Fz H s .refl .refl h2 fun m => by cases m⟩
      | fn f =>
        obtain ⟨v, h1, h2⟩ := s.rep i _ ho
        exact ⟨v, h1, p v σ Fz H s .refl .refl h2 fun m => by cases m⟩
      | ml xs =>
        obtain ⟨a, vs, h1, ha, hr, s', f', rr⟩ := freezeSt s ho
        exact ⟨_, h1, p _ σ _ _ s' f' .refl (.v rr) fun m => by cases m⟩
    · exact p.elim
  refine PS.imp (ps_ret hv) fun D σ H ⟨env, Fz, s, p⟩ => ?_
  rw [evS, retO] at p
  simp only [IE.isX] at p
  split at p
  · rename_i o ho
    split at p
    · rename_i hm
      obtain ⟨hfr, hmut⟩ := and2 hm
      obtain ⟨v, h1, h2⟩ := s.rep i o ho
      refine ⟨v, h1, p v σ Fz H (s.drop i) (.same fun a h => own_drop h) .refl h2 fun m => ?_⟩
      cases h2 with
      | @ml a vs xs ha hr hf =>
        refine ⟨a, rfl, ?_, .inl ⟨i, _, ho, rfl, h1⟩⟩
        rintro ⟨j, o', q1, q2, q3⟩
        have hlt : i < env.length := (List.getElem?_eq_some_iff.mp ho).1
        by_cases e : i = j
        · subst e
          rw [List.getElem?_set_self hlt] at q1
          cases q1
        · rw [List.getElem?_set_ne e] at q1
          exact s.sep i j a _ o' e ho q1 rfl q2 h1 q3
      | v _ => cases m
      | ro _ _ => cases m
      | fn _ => cases m
    · exact old D σ H env Fz s p
  · exact p.elim
end
end Pv
-- PvStm2
set_option maxRecDepth 100000
namespace Pv
open PySem L2

/-- values in a row, new lists apart -/
inductive Rows (G : Gx) (env : En) (σ : St) (Fz H H0 : Hp) : List Ob → List V → Prop
  | nil : Rows G env σ Fz H H0 [] []
  | cons {o : Ob} {x : V} {os : List Ob} {xs : List V} : RO G Fz H o x → Fsh o x env σ H0 → (∀ a, o.mut = true → x = .ref a → ¬ OwnA os xs a) → Rows G env σ Fz H H0 os xs → Rows G env σ Fz H H0 (o :: os) (x :: xs)
section
variable {G : Gx} {cf : Nat → List Ob → CR} {lk : List Nat} {cn : Nat → Str} {X : Cx} {C : CI} {W : WX}
theorem OwnA.cons {o : Ob} {x : V} {os : List Ob} {xs : List V} {a : Addr} (h : OwnA (o :: os) (x :: xs) a) : (o.mut = true ∧ x = .ref a) ∨ OwnA os xs a := by
  obtain ⟨j, o', h1, h2, h3⟩ := h
  cases j with
  | zero => simp at h1 h3; subst h1 h3; exact .inl ⟨h2, rfl⟩
  | succ j => exact .inr ⟨j, o', by simpa using h1, h2, by simpa using h3⟩
theorem Rows.own {env : En} {σ : St} {Fz H H0 : Hp} : ∀ {os : List Ob} {xs : List V} {a : Addr}, Rows G env σ Fz H H0 os xs → OwnA os xs a → H0 a = none ∧ ¬ Own env σ a
  | _, _, a, .nil, ⟨j, o, h, _, _⟩ => by simp at h
  | _, _, a, .cons r f d t, h => by
    rcases h.cons with ⟨m, e⟩ | h
    · obtain ⟨b, eb, hb, nb⟩ := f m
      rw [e] at eb; cases eb
      exact ⟨hb, nb⟩
    · exact Rows.own t h
theorem Rows.older {env0 env1 env : En} {σ : St} {Fz H Fz1 H1 Fz2 H2 : Hp} (f : FrO (Own env0 σ) (Own env1 σ) Fz H Fz1 H1) : ∀ {os : List Ob} {xs : List V}, Rows G env σ Fz2 H2 H1 os xs → Rows G env σ Fz2 H2 H os xs
  | _, _, .nil => .nil
  | _, _, .cons r fs d t => .cons r (fs.older f) d (Rows.older f t)
section
variable (G : Gx) (cf : Nat → List Ob → CR) (lk : List Nat) (cn : Nat → Str) (W : WX)
def tOs (irs : IEs) : TA := fun σ H Q => ∃ env Fz, StOk G env σ Fz H ∧ PostE G cn W env σ Fz H (evO cf lk irs env) fun os env' Fz' H' => ∀ xs, Rows G env' σ Fz' H' H os xs → Q xs H'
end
theorem os_nil : PA X [] (tOs G cf lk cn W .nil) := PA.imp pa_nil fun σ H Q ⟨env, Fz, s, p⟩ => by
  rw [evO] at p
  exact p.ok s [] .nil
theorem os_cons {e : Expr} {es : List Expr} {io : Bool} {ia : IE} {irs : IEs} (ha : PE X e (tE G cf lk cn W ia)) (hr : PA X es (tOs G cf lk cn W irs)) (hs : starEach (e :: es) X.env = (false, eval e X.env) :: starEach es X.env) :
    PA X (e :: es) (tOs G cf lk cn W (.cons io ia irs)) := by
  refine PA.imp (pa_cons ha hr hs) fun σ H Q ⟨env, Fz, s, p⟩ => ?_
  rw [evO] at p
  refine ⟨env, Fz, s, p.split0.mono fun o env1 Fz1' H1 s1 f1 q x r fs => ?_⟩
  obtain ⟨Fz1, s1, f1, r, fs⟩ := fz_if (z := io) s1 f1 r fs
  refine ⟨env1, Fz1, s1, (q.split0.shift f1).mono fun os env2 Fz2 H2 s2 f2 q xs rs => ?_⟩
  refine q Fz2 H2 s2 (f1.trans f2) (x :: xs) (.cons (r.keep fs f2) (fun m => ?_) (fun a m e t => ?_) (rs.older f1))
  · obtain ⟨a, e, h0, n⟩ := fs m
    refine ⟨a, e, h0, fun q => (f2.ow a q).elim n fun z => ?_⟩
    rw [e] at r
    generalize fzIf io o = o' at r m
    cases r with
    | ml ha _ _ => rw [ha] at z; cases z
    | v _ => cases m
    | ro _ _ => cases m
    | fn _ => cases m
  · have z := (rs.own t).1
    rw [e] at r
    generalize fzIf io o = o' at r m
    cases r with
    | ml ha _ _ => rw [ha] at z; cases z
    | v _ => cases m
    | ro _ _ => cases m
    | fn _ => cases m
/-- stored one after another -/
def setVs (σ : St) : List Nat → List V → St
  | i :: is, x :: xs => setVs (σ.set i (some x)) is xs
  | _, _ => σ
theorem row_fr {Fz H H0 Fz0 : Hp} {O : Addr → Prop} : ∀ {is : List Nat} {os : List Ob} {xs : List V} {env env' : En} {σ : St}, (∀ i ∈ is, free lk i = true) → StOk G env σ Fz H → FrO O (Own env σ) Fz0 H0 Fz H → Rows G env σ Fz H H0 os xs → setObs env is os = some env' →
    StOk G env' (setVs σ is xs) Fz H ∧ FrO O (Own env' (setVs σ is xs)) Fz0 H0 Fz H ∧ Lk lk σ (setVs σ is xs)
  | [], os, xs, env, env', σ, hl, s, f, r, h => by
    cases r with
    | nil => rw [setObs] at h; cases h; exact ⟨s, f, .refl⟩
    | cons _ _ _ _ => rw [setObs] at h; cases h; all_goals simp
  | i :: is, os, xs, env, env', σ, hl, s, f, r, h => by
    cases r with
    | nil => rw [setObs] at h; cases h; all_goals simp
    | @cons o x os xs r fs d t =>
      rw [setObs] at h
      rw [setVs]
      have hown : ∀ a, Own (env.set i (some o)) (σ.set i (some x)) a → Own env σ a ∨ (o.mut = true ∧ x = .ref a) := fun a => own_putO s.len
      have s2 : StOk G (env.set i (some o)) (σ.set i (some x)) Fz H := s.putO r fun m => by
        obtain ⟨a, e, _, q⟩ := fs m
        exact ⟨a, e, q⟩
      have f2 : FrO O (Own (env.set i (some o)) (σ.set i (some x))) Fz0 H0 Fz H := ⟨f.hh, f.dm, f.ff, f.nw, fun a h => by
        rcases hown a h with h | ⟨m, e⟩
        · exact f.ow a h
        · obtain ⟨b, eb, hb, _⟩ := fs m
          rw [e] at eb; cases eb
          exact .inr hb⟩
      have t2 : Rows G (env.set i (some o)) (σ.set i (some x)) Fz H H0 os xs := by
        clear h
        induction t with
        | nil => exact .nil
        | @cons o' x' os' xs' r' fs' d' t' ih =>
          refine .cons r' (fun m => ?_) d' (ih fun a m e h => d a m e ?_)
          · obtain ⟨b, eb, hb, nb⟩ := fs' m
            refine ⟨b, eb, hb, fun z => ?_⟩
            rcases hown b z with z | ⟨m2, e2⟩
            · exact nb z
            · exact d b m2 e2 ⟨0, o', rfl, m, by rw [eb]; rfl⟩
          · obtain ⟨j, p, h1, h2, h3⟩ := h
            exact ⟨j + 1, p, by simpa using h1, h2, by simpa using h3⟩
      obtain ⟨a1, a2, a3⟩ := row_fr (fun j hj => hl j (List.mem_cons_of_mem _ hj)) s2 f2 t2 h
      exact ⟨a1, a2, (Lk.set (hl i List.mem_cons_self)).trans a3⟩
theorem setObs_len : ∀ {is : List Nat} {os : List Ob} {env env' : En}, setObs env is os = some env' → os.length = is.length
  | [], [], _, _, _ => rfl
  | [], _ :: _, _, _, h => by rw [setObs] at h; cases h; all_goals simp
  | _ :: _, [], _, _, h => by rw [setObs] at h; cases h; all_goals simp
  | _ :: is, _ :: os, _, _, h => by
    rw [setObs] at h
    rw [List.length_cons, List.length_cons, setObs_len h]
theorem Rows.length {env : En} {σ : St} {Fz H H0 : Hp} : ∀ {os : List Ob} {xs : List V}, Rows G env σ Fz H H0 os xs → xs.length = os.length
  | _, _, .nil => rfl
  | _, _, .cons _ _ _ t => by rw [List.length_cons, List.length_cons, Rows.length t]
theorem par_tS {is : List Nat} {es : IEs} {D : Ends} {σ : St} {H : Hp} (h : tS G cf lk cn W (.par is es) D σ H) : is.Nodup ∧ tOs G cf lk cn W es σ H fun xs H1 => xs.length = is.length ∧ D.nx (setVs σ is xs) H1 := by
  obtain ⟨env, Fz, s, p⟩ := h
  rw [evS] at p
  split at p
  · rename_i hf
    obtain ⟨hf, hn⟩ := and2 hf
    refine ⟨of_decide_eq_true hn, env, Fz, s, ?_⟩
    refine p.expr.mono fun os env1 Fz1 H1 s1 f1 q xs rs => ?_
    cases e : setObs env1 is os with
    | none => rw [e] at q; exact q.elim
    | some env2 =>
      rw [e] at q
      have q : PostS G lk cn W env σ Fz H (.ok .nx env2) D := q
      obtain ⟨a1, a2, a3⟩ := row_fr (lk := lk) (by simpa using hf) s1 f1 rs e
      exact ⟨rs.length.trans (setObs_len e), q _ _ _ a1 a2 a3⟩
  · exact p.elim

theorem sw2 {x y : Str} {px py pt : Pos} {a b : Expr} {kt k2 : Nat} {pt2 : Pos} {env : Env} (hk : env.blockKind = .function) (hx : env.kindOf x = some .local) (hy : env.kindOf y = some .local) (hl : (py.line == px.line) = true) (hne : (x == y) = false)
    (h1 : notStar a = true) (h2 : notStar b = true) (hf : [a, b].all (foldedForSure 8) = false) (hc : [a, b].all (constantsAlone 8) = false) :
    swappedStores [.Tuple [.Name x px, .Name y py] kt pt] (.Tuple [a, b] k2 pt2) env = pure (some [x, y]) := by
  have hne' : (y == x) = false := by
    rw [beq_eq_false_iff_ne] at hne ⊢
    exact fun e => hne e.symm
  unfold swappedStores
  simp only [hk, hf, hc, hx, hy, hl]
  simp [List.filterMap, hx, hy, hl, Expr.pos, List.eraseDups, List.eraseDupsBy, List.eraseDupsBy.loop, hne, hne']
  intro h
  rcases h with h | h
  · cases a <;> first | (cases h1; done) | (cases h; done)
  · cases b <;> first | (cases h2; done) | (cases h; done)
theorem sw3 {x y z : Str} {px py pz pt : Pos} {a b c : Expr} {kt k2 : Nat} {pt2 : Pos} {env : Env} (hk : env.blockKind = .function) (hx : env.kindOf x = some .local) (hy : env.kindOf y = some .local) (hz : env.kindOf z = some .local) (hl : (py.line == px.line) = true) (hl2 : (pz.line == px.line) = true)
    (n1 : (x == y) = false) (n2 : (x == z) = false) (n3 : (y == z) = false)
    (h1 : notStar a = true) (h2 : notStar b = true) (h3 : notStar c = true) (hf : [a, b, c].all (foldedForSure 8) = false) (hc : [a, b, c].all (constantsAlone 8) = false) :
    swappedStores [.Tuple [.Name x px, .Name y py, .Name z pz] kt pt] (.Tuple [a, b, c] k2 pt2) env = pure (some [x, y, z]) := by
  have m1 : (y == x) = false := by
    rw [beq_eq_false_iff_ne] at n1 ⊢
    exact fun e => n1 e.symm
  have m2 : (z == x) = false := by
    rw [beq_eq_false_iff_ne] at n2 ⊢
    exact fun e => n2 e.symm
  have m3 : (z == y) = false := by
    rw [beq_eq_false_iff_ne] at n3 ⊢
    exact fun e => n3 e.symm
  unfold swappedStores
  simp only [hk, hf, hc, hx, hy, hz, hl]
  simp [List.filterMap, hx, hy, hz, hl, hl2, Expr.pos, List.eraseDups, List.eraseDupsBy, List.eraseDupsBy.loop, n1, n2, n3, m1, m2, m3]
  intro h
  rcases h with h | h | h
  · cases a <;> first | (cases h1; done) | (cases h; done)
  · cases b <;> first | (cases h2; done) | (cases h; done)
  · cases c <;> first | (cases h3; done) | (cases h; done)
/-- no change of places -/
def notLoc (sc : Scope) : Expr → Bool
  | .Name n _ => !(sc.names.lookup n == some .local)
  | _ => false
def swNo (sc : Scope) (ts : List Expr) : Expr → Bool
  | .Tuple vs _ _ => (!(ts.length == 2 || ts.length == 3) || (vs.length != ts.length) || vs.all (foldedForSure 8)) || ts.any (notLoc sc)
  | _ => true
theorem not_of' {b : Bool} (h : (!b) = true) : b = false := by simpa using h
theorem fm_len {α β : Type} {f : α → Option β} : ∀ (l : List α), (l.filterMap f).length ≤ l.length ∧ ((∃ a ∈ l, f a = none) → (l.filterMap f).length < l.length)
  | [] => ⟨Nat.le_refl _, fun ⟨_, h, _⟩ => by cases h⟩
  | a :: l => by
    obtain ⟨h1, h2⟩ := fm_len (f := f) l
    rw [List.filterMap_cons]
    cases e : f a with
    | none =>
      simp only [List.length_cons]
      exact ⟨by omega, fun _ => by omega⟩
    | some b =>
      simp only [List.length_cons]
      refine ⟨by omega, fun ⟨c, hc, e2⟩ => ?_⟩
      rcases List.mem_cons.mp hc with q | q
      · rw [q, e] at e2; cases e2
      · have := h2 ⟨c, q, e2⟩
        omega
theorem swN {ts : List Expr} {v : Expr} {k : Nat} {p : Pos} {env : Env} (h : swNo env.scope ts v = true) : swappedStores [.Tuple ts k p] v env = pure none := by
  cases v <;> first | rfl | skip
  rename_i vs k2 p2
  unfold swNo at h
  rw [Bool.or_eq_true] at h
  unfold swappedStores
  rcases h with h | hany
  case inr =>
    rw [List.any_eq_true] at hany
    obtain ⟨t, ht, hn⟩ := hany
    have hlt := (fm_len (f := fun x => match x with
        | Expr.Name id pos => if (env.kindOf id == some NameKind.local && pos.line == (Option.map (fun x => x.pos.line) ts.head?).getD 0) = true then some id else none
        | x => none) ts).2 ⟨t, ht, by
          cases t <;> first | (cases hn; done) | skip
          rename_i n q
          have : (env.kindOf n == some NameKind.local) = false := by
            unfold notLoc at hn
            exact not_of' hn
          simp only [this, Bool.false_and, Bool.false_eq_true, if_false]⟩
    simp only
    split
    · rfl
    · split
      · rfl
      · split
        · rfl
        · rename_i hq
          exfalso
          apply hq
          rw [Bool.or_eq_true]
          left
          simp only [bne_iff_ne, ne_eq]
          intro hh
          exact absurd hh (Nat.ne_of_lt hlt)
  by_cases h1 : (!(ts.length == 2 || ts.length == 3) || vs.length != ts.length || env.blockKind != .function) = true
  · simp only [h1]; rfl
  · have hf : vs.all (foldedForSure 8) = true := by
      simp only [Bool.or_eq_true] at h h1
      rcases h with h | h
      · exact absurd (.inl h) h1
      · exact h
    have h1 : (!(ts.length == 2 || ts.length == 3) || vs.length != ts.length || env.blockKind != .function) = false := by simpa using h1
    simp only [h1, hf, if_true, ite_self, Bool.false_eq_true, if_false]
theorem Rows.ext {env : En} {σ : St} {Fz H H0 Fz' H' : Hp} (e : Ext Fz H Fz' H') : ∀ {os : List Ob} {xs : List V}, Rows G env σ Fz H H0 os xs → Rows G env σ Fz' H' H0 os xs
  | _, _, .nil => .nil
  | _, _, .cons r fs d t => .cons (by
      cases r with
      | v r => exact .v (r.mono e.ff)
      | ro a b => exact .ro (SqL.mono e.ff a) (b.mono e.ff)
      | ml a b c => exact .ml (e.hh _ _ a) (b.mono e.ff) (e.nw _ (ne_of_some a) c)
      | fn a => exact .fn a) fs d (Rows.ext e t)
theorem gTgs_set {Q : St → Hp → Prop} {H : Hp} : ∀ {is : List Nat} {xs : List V} {σ : St}, xs.length = is.length → Q (setVs σ is xs) H → gTgs is xs σ H Q
  | [], [], σ, _, q => ⟨rfl, q⟩
  | [], _ :: _, _, h, _ => by cases h
  | _ :: _, [], _, h, _ => by cases h
  | i :: is, x :: xs, σ, h, q => ⟨x, xs, rfl, gTgs_set (by simpa using h) q⟩
/-- names = values, one after another -/
theorem s_parT {ts es : List Expr} {is : List Nat} {irs : IEs} {k k2 : Nat} {p p2 pos : Pos} (c : Cok G cf cn X C W) (hl : is.length = ts.length) (ht : ((is.zip ts).all fun p => match p.2 with
    | .Name n _ => asB C n p.1
    | _ => false) = true) (hw : swNo X.env.scope ts (.Tuple es k2 p2) = true) (hsz : is.length ≤ lim) (ha : PA X es (tOs G cf lk cn W irs)) :
    PS X (.Assign [.Tuple ts k p] (.Tuple es k2 p2) pos) (tS G cf lk cn W (.par is irs)) := by
  obtain ⟨h1, h2⟩ := pgs_names c hl ht
  refine PS.imp (ps_asg (pe_tup ha) (pg_tup c.calm h1 (n := is.length) (by rw [asEach_len]; exact hl.symm) (asEach_no _ _ h2)) rfl (swN hw) rfl) fun D σ H ⟨env, Fz, s, p⟩ => ?_
  rw [evS] at p
  split at p
  · rename_i hf
    obtain ⟨hf, _⟩ := and2 hf
    refine ⟨env, Fz, s, p.expr.mono fun os env1 Fz1 H1 s1 f1 q xs rs => ?_⟩
    cases e : setObs env1 is os with
    | none => rw [e] at q; exact q.elim
    | some env2 =>
      rw [e] at q
      have q : PostS G lk cn W env σ Fz H (.ok .nx env2) D := q
      have hlen : xs.length = is.length := rs.length.trans (setObs_len e)
      refine ⟨by rw [hlen]; exact hsz, fun a ha => ?_⟩
      have ex : Ext Fz1 H1 Fz1 (upd H1 a (.tup xs)) := Ext.newL s1.sub ha
      obtain ⟨a1, a2, a3⟩ := row_fr (lk := lk) (by simpa using hf) (s1.ext ex) (f1.trans (.of_ext ex)) (rs.ext ex) e
      exact ⟨a, xs, rfl, SqT.of upd_same, hlen, gTgs_set hlen (q _ _ _ a1 a2 a3)⟩
  · exact p.elim
end
end Pv
-- PvStm3
set_option maxRecDepth 100000
namespace Pv
open PySem L2
section
variable {G : Gx} {cf : Nat → List Ob → CR} {lk : List Nat} {cn : Nat → Str} {X : Cx} {C : CI} {W : WX}
theorem s_whl {c : Expr} {b : List Stmt} {ic : IE} {ib : ISs} {pos : Pos} (hp : PassesOwn (model X.prog X.w) X.A X.env X.xe) (hc : PT X c (tT G cf lk cn W ic)) (hb : PSs X b (tSs G cf lk cn W ib)) : PS X (.While c b [] pos) (tS G cf lk cn W (.whl ic ib)) :=
  PS.imp (ps_while hp hc hb) fun D σ H ⟨env, Fz, s, p⟩ => by
    rw [evS] at p
    refine ⟨fun m σ' H' => ∃ env' Fz', StOk G env' σ' Fz' H' ∧ PostS G lk cn W env' σ' Fz' H' (whileN (fun env => evT cf lk ic env) (fun env => evSs cf lk ib env) m env') D, ⟨wfuel, env, Fz, s, p⟩, ?_⟩
    rintro m σ' H' ⟨env', Fz', s', p'⟩
    cases m with
    | zero => rw [whileN] at p'; exact p'.elim
    | succ m =>
      rw [whileN] at p'
      refine ⟨env', Fz', s', p'.expr.mono fun k env1 Fz1 H1 s1 f1 q => ?_⟩
      have q := q.shift f1 .refl
      cases k with
      | false => exact q σ' Fz1 H1 s1 .refl .refl
      | true =>
        simp only [if_true] at q ⊢
        refine ⟨_, fun σ2 H2 h => ⟨m, Nat.lt_succ_self m, h⟩, env1, Fz1, s1, ?_⟩
        cases e : evSs cf lk ib env1 with
        | ok fl env2 =>
          rw [e] at q
          cases fl with
          | nx => exact fun σ2 Fz2 H2 s2 f2 l2 => ⟨env2, Fz2, s2, PostS.shift f2 l2 q⟩
          | ct => exact fun σ2 Fz2 H2 s2 f2 l2 => ⟨env2, Fz2, s2, PostS.shift f2 l2 q⟩
          | bk => exact q
          | rt o => exact q
        | ex c as env2 => rw [e] at q; exact q
        | no => rw [e] at q; exact q
theorem free_tg {tg : List Nat ⊕ Nat} (h : freeTg lk tg = true) : ∀ i ∈ lk, i ∉ tgNames tg := fun i hi ht => by
  cases tg with
  | inr j =>
    have : i = j := by simpa [tgNames] using ht
    subst this
    have h : free lk i = true := h
    unfold free at h
    simp [hi] at h
  | inl is =>
    have ht : i ∈ is := ht
    have h : is.all (free lk) = true := h
    rw [List.all_eq_true] at h
    have := h i ht
    unfold free at this
    simp [hi] at this
theorem s_for {tg iter : Expr} {b : List Stmt} {it : IT} {itg : List Nat ⊕ Nat} {ib : ISs} {pos : Pos} (hK : X.K = G.K) (hp : PassesOwn (model X.prog X.w) X.A X.env X.xe) (hc : X.calm = true) (hi : PI X tg iter (tIt G cf lk cn W it)) (hg : PG X tg (gTg X.K itg)) (hb : PSs X b (tSs G cf lk cn W ib))
    (hs : notSet iter = true) : PS X (.For tg iter b [] pos) (tS G cf lk cn W (.for_ itg it ib)) := by
  refine PS.imp (ps_for hp hc hi hg hb (fun x => by cases iter <;> first | rfl | (cases hs))) fun D σ H ⟨env, Fz, s, p⟩ => ?_
  rw [evS] at p
  split at p
  · rename_i hfr
    refine ⟨env, Fz, s, p.expr.mono fun ds env1 Fz1 H1 s1 f1 q J w => ?_⟩
    have q := q.shift f1 .refl
    refine for_it w (fun i σ' H' => ∃ env' Fz', StOk G env' σ' Fz' H' ∧ Same Fz1 Fz' ∧ PostS G lk cn W env' σ' Fz' H' (forL (fun d env => match setTg env itg d with
      | some env => evSs cf lk ib env
      | none => .no) (ds.drop i) env') D) ⟨env1, Fz1, s1, .refl _, q⟩ (fun i σ' H' hi ⟨env', Fz', s', ss, _⟩ => fun a o h => s'.sub a o (ss a o h)) ?_ ?_
    · rintro i x σ' H' H2 hi ⟨env', Fz', s', ss, p'⟩ y
      obtain ⟨Fz3, e, d, hd, r⟩ := y Fz' ss s'.sub
      have s3 := s'.ext e
      rw [drop_cons hd, forL] at p'
      cases hset : setTg env' itg d with
      | none => rw [hset] at p'; exact p'.elim
      | some env2 =>
        rw [hset] at p'
        simp only at p'
        rw [hK]
        refine gTg_ok s3 r hset fun σ2 s2 ho hl hk => ⟨env2, Fz3, s2, ?_⟩
        have f2 : FrO (Own env' σ') (Own env2 σ2) Fz' H' Fz3 H2 := (FrO.of_ext e).trans (.same ho)
        have l2 : Lk lk σ' σ2 := ⟨hl, fun j hj => hk j (free_tg hfr j hj)⟩
        have p' := p'.shift f2 l2
        have ss3 : Same Fz1 Fz3 := fun a o h => e.ff a o (ss a o h)
        cases e4 : evSs cf lk ib env2 with
        | ok fl env3 =>
          rw [e4] at p'
          cases fl with
          | nx => exact fun σ4 Fz4 H4 s4 f4 l4 => ⟨env3, Fz4, s4, fun a o h => f4.ff a o (ss3 a o h), PostS.shift f4 l4 p'⟩
          | ct => exact fun σ4 Fz4 H4 s4 f4 l4 => ⟨env3, Fz4, s4, fun a o h => f4.ff a o (ss3 a o h), PostS.shift f4 l4 p'⟩
          | bk => exact p'
          | rt o => exact p'
        | ex c as env3 => rw [e4] at p'; exact p'
        | no => rw [e4] at p'; exact p'
    · rintro σ' H' ⟨env', Fz', s', ss, p'⟩
      rw [List.drop_length, forL] at p'
      exact p' σ' Fz' H' s' .refl .refl
  · exact p.elim

theorem ml_at {env : En} {i : Nat} (h : isMl env i = true) : ∃ xs, env[i]? = some (some (.ml xs)) := by
  unfold isMl at h
  split at h
  · rename_i xs e; exact ⟨xs, e⟩
  · cases h
theorem few_one {e : Expr} {cpos : Pos} {env : Env} (h : notStar e = true) : ((backTo cpos (starEach [e] env)).all (fun x => !x.1) && (backToKw cpos (keywordEach [] env)).all (fun x => x.1.isSome)
      && decide (([e] : List Expr).length + ([] : List Keyword).length + (if ([] : List Keyword).isEmpty then 0 else 1) < 30)) = true := by
  rw [star_cons h]
  rfl
theorem s_ap {n : Str} {i : Nat} {e : Expr} {ir : IE} {p apos cpos pos : Pos} (hv : PE X (.Name n p) (tVar i)) (he : PE X e (tE G cf lk cn W ir)) (hs : notStar e = true) (hl : (apos.endLine == cpos.line) = true) :
    PS X (.Expr (.Call (.Attribute (.Name n p) "append" apos) [e] [] cpos) pos) (tS G cf lk cn W (.ap i ir)) := by
  refine PS.imp (ps_expr (pe_bm PySem.F.plainAttrs_list PySem.F.slot_list_append PySem.F.type_list_append mt_append hv (pa_cons (fz_of he) pa_nil (star_cons hs)) rfl (few_one hs) hl (star_cons hs) rfl) rfl) fun D σ H ⟨env, Fz, s, p⟩ => ?_
  rw [evS] at p
  split at p
  · rename_i hm
    obtain ⟨xs0, h0⟩ := ml_at hm
    obtain ⟨v0, h1, h2⟩ := s.rep i _ h0
    cases h2 with
    | @ml a vs0 _ ha0 hr0 hf0 =>
      rw [← Rs.assoc] at p
      refine ⟨.ref a, h1, .inl ⟨rfl, _, SqL.of ha0⟩, env, Fz, s, ?_⟩
      refine PostE.mono (PostS.expr (r := evZ cf lk ir env) p) fun d env1 Fz1 H1 s1 f1 q x r => ?_
      split at q
      · rename_i xs ho
        split at q
        · rename_i hlen
          obtain ⟨v, e1, e2⟩ := s1.rep i _ ho
          rw [h1] at e1
          cases e1
          cases e2 with
          | @ml _ vs _ ha hr hf =>
            refine ⟨a, vs, x, rfl, rfl, ha, by rw [hr.length]; exact hlen, ?_⟩
            obtain ⟨s', f'⟩ := upL s1 ho h1 ha hf (hr.append (.one r))
            exact q σ _ _ s' (f1.trans f') .refl
        · exact q.elim
      · exact q.elim
  · exact p.elim
theorem s_ext {n : Str} {i : Nat} {e : Expr} {ir : IE} {p apos cpos pos : Pos} (hv : PE X (.Name n p) (tVar i)) (he : PE X e (tE G cf lk cn W ir)) (hs : notStar e = true) (hl : (apos.endLine == cpos.line) = true) :
    PS X (.Expr (.Call (.Attribute (.Name n p) "extend" apos) [e] [] cpos) pos) (tS G cf lk cn W (.ext i ir)) := by
  refine PS.imp (ps_expr (pe_bm PySem.F.plainAttrs_list PySem.F.slot_list_extend PySem.F.type_list_extend mt_extend hv (pa_cons he pa_nil (star_cons hs)) rfl (few_one hs) hl (star_cons hs) rfl) rfl) fun D σ H ⟨env, Fz, s, p⟩ => ?_
  rw [evS] at p
  split at p
  · rename_i hm
    obtain ⟨xs0, h0⟩ := ml_at hm
    obtain ⟨v0, h1, h2⟩ := s.rep i _ h0
    cases h2 with
    | @ml a vs0 _ ha0 hr0 hf0 =>
      refine ⟨.ref a, h1, .inl ⟨rfl, _, SqL.of ha0⟩, env, Fz, s, ?_⟩
      refine p.expr.mono fun o env1 Fz1 H1 s1 f1 q x r fs => ?_
      split at q
      · rename_i xs ys ho hv
        split at q
        · rename_i hlen
          obtain ⟨v, e1, e2⟩ := s1.rep i _ ho
          rw [h1] at e1
          cases e1
          cases e2 with
          | @ml _ vs _ ha hr hf =>
            obtain ⟨b, ws, rfl, hb, hrs⟩ := (r.view hv).list s1.sub
            refine ⟨a, b, vs, ws, rfl, rfl, ha, hb, by rw [hr.length, hrs.length]; exact hlen, ?_⟩
            obtain ⟨s', f'⟩ := upL s1 ho h1 ha hf (hr.append hrs)
            exact q σ _ _ s' (f1.trans f') .refl
        · exact q.elim
      · exact q.elim
  · exact p.elim
end
end Pv
-- PvStm4
set_option maxRecDepth 100000
namespace Pv
open PySem L2
def notComp : Expr → Bool
  | .ListComp _ _ _ _ => false
  | .SetComp _ _ _ _ => false
  | .DictComp _ _ _ _ _ => false
  | _ => true
section
variable {G : Gx} {cf : Nat → List Ob → CR} {lk : List Nat} {cn : Nat → Str} {X : Cx} {C : CI} {W : WX}
theorem sw_not {e : Expr} {t : Option Expr} {l : Nat} {env : Env} (h : notComp e = true) : swapsWith e t l env = pure false := by
  cases e <;> first | rfl | (cases h)
theorem sw_lc {elt : Expr} {gs : List Comprehension} {scope : Scope} {pos py : Pos} {y : Str} {l : Nat} {env : Env} : swapsWith (.ListComp elt gs scope pos) (some (.Name y py)) l env =
    pure (env.blockKind == .function && env.kindOf y == some .local && py.line == pos.line && !(scope.names.any fun (n, k) => n == y && (k == .local || k == .cell))) := rfl
theorem s_asg {z : Bool} {n : Str} {i : Nat} {e : Expr} {ir : IE} {p pos : Pos} (c : Cok G cf cn X C W) (ha : asB C n i = true) (hs : swapsWith e (some (.Name n p)) pos.line X.env = pure false) (he : PE X e (tE G cf lk cn W ir)) :
    PS X (.Assign [.Name n p] e pos) (tS G cf lk cn W (.asg z i ir)) := by
  obtain ⟨h1, h2, h3⟩ := c.as ha
  exact PS.imp (ps_set c.nd h1 h2 he hs h3) fun D σ H h => asg_tS h
theorem s_asgLc {z : Bool} {y : Str} {i : Nat} {own : List Nat} {tg : List Nat ⊕ Nat} {it : IT} {cond : IEs} {elt : IE} {el t iter : Expr} {ifs : List Expr} {scope : Scope} {py pos spos : Pos} {ow : List (Str × Nat)} (c : Cok G cf cn X C W) (ha : asB C y i = true)
    (hsw : swapsWith (.ListComp el [⟨t, iter, ifs, 0⟩] scope pos) (some (.Name y py)) spos.line X.env = pure true) (hyl : X.env.scope.names.lookup y = some .local) (h1 : ownB C own = some ow) (h2 : blkC C.N C.sc scope ow = true)
    (h3 : tgB (C.blk scope) tg t = true) (h4 : ∀ i ∈ tgNames tg, i ∈ own) (hs : notSet iter = true) (hi : PI X t iter (tIt G cf lk cn W it))
    (hc : ∀ X', Cok G cf cn X' (C.blk scope) WF → PTs X' ifs (tK G cf lk cn WF cond)) (he : ∀ X', Cok G cf cn X' (C.blk scope) WF → PE X' el (tE G cf lk cn WF elt)) :
    PS X (.Assign [.Name y py] (.ListComp el [⟨t, iter, ifs, 0⟩] scope pos) spos) (tS G cf lk cn W (.asg z i (.lc own tg it cond elt))) := by
  obtain ⟨q1, q2, q3⟩ := c.as ha
  have eo := ownB_ok h1
  have ok : BlkOk X.N X.env.scope scope ow := by rw [c.N, c.sc]; exact blkOk_by h2
  refine PS.imp (ps_setLc (g := gTg X.K tg) (tt := tK G cf lk cn WF cond) (te := tFz G cf lk cn WF elt) c.calm c.nd q1 hyl hsw hi ok (fun s H D cl fp => tg_snd (c.blk s H scope D cl fp) h3) (fun s H D cl fp => hc _ (c.blk s H scope D cl fp))
    (fun s H D cl fp => fz_of (he _ (c.blk s H scope D cl fp))) (fun x => ?_)) fun D σ H q => ?_
  · cases iter <;> first | rfl | (cases hs)
  · rw [eo]
    have q := asg_tS q
    exact lc_ok c.K h4 q
/-- x[i] = e -/
theorem s_sub {n : Str} {i : Nat} {e ix : Expr} {ir ii : IE} {p p2 pos : Pos} (hv : PE X (.Name n p) (tVar i)) (he : PE X e (tE G cf lk cn W ir)) (hi : PE X ix (tE G cf lk cn W ii)) (hs : notSlice ix = true) :
    PS X (.Assign [.Subscript (.Name n p) ix p2] e pos) (tS G cf lk cn W (.sub i ii ir)) := by
  refine PS.imp (ps_asg (fz_of he) (pg_sub hv hi set_list (fun v => ?_)) (by cases e <;> rfl) (by cases e <;> rfl)) fun D σ H ⟨env, Fz, s, p⟩ => ?_
  · cases ix <;> first | rfl | (cases hs)
  · rw [evS, ← Rs.assoc] at p
    refine ⟨env, Fz, s, (PostS.expr (r := evZ cf lk ir env) p).mono fun d env1 Fz1 H1 s1 f1 q x r => ?_⟩
    have q := q.shift f1 .refl
    split at q
    · rename_i hm
      obtain ⟨xs0, h0⟩ := ml_at hm
      obtain ⟨v0, h1, h2⟩ := s1.rep i _ h0
      cases h2 with
      | @ml a vs0 _ ha0 hr0 hf0 =>
        refine ⟨.ref a, h1, env1, Fz1, s1, q.expr.mono fun oi env2 Fz2 H2 s2 f2 q y ri fi => ?_⟩
        split at q
        · rename_i xs k ho
          split at q
          · rename_i j hj
            obtain ⟨v, e1, e2⟩ := s2.rep i _ ho
            rw [h1] at e1
            cases e1
            cases e2 with
            | @ml _ vs _ ha hr hf =>
              have hy : y = .int k := (ri.view rfl).int
              refine ⟨a, vs, k, j, rfl, hy, ha, by rw [hr.length]; exact hj, ?_⟩
              obtain ⟨s', f'⟩ := upL s2 ho h1 ha hf (hr.set (r.mono f2.ff) j)
              exact q σ _ _ s' (f2.trans f') .refl
          · exact q.elim
        · exact q.elim
    · exact q.elim
/-- x[ix] = a value, seen from the layer -/
theorem stI_ok {i : Nat} {ii : IE} {env : En} {σ : St} {Fz H : Hp} {d : PV} {x : V} {Q : St → Hp → Prop} (s : StOk G env σ Fz H) (r : RF G.K Fz x d) (p : PostE G cn W env σ Fz H (stI cf lk i ii d env) fun _ _ _ H' => Q σ H') :
    gSub (tVar i) (tE G cf lk cn W ii) rSetL x σ H Q := by
  unfold stI at p
  split at p
  · rename_i hm
    obtain ⟨xs0, h0⟩ := ml_at hm
    obtain ⟨v0, h1, h2⟩ := s.rep i _ h0
    cases h2 with
    | @ml a vs0 _ ha0 hr0 hf0 =>
      refine ⟨.ref a, h1, env, Fz, s, p.split.mono fun oi env2 Fz2 H2 s2 f2 q y ri fi => ?_⟩
      split at q
      · rename_i xs k ho
        split at q
        · rename_i j hj
          obtain ⟨v, e1, e2⟩ := s2.rep i _ ho
          rw [h1] at e1
          cases e1
          cases e2 with
          | @ml _ vs _ ha hr hf =>
            have hy : y = .int k := (ri.view rfl).int
            refine ⟨a, vs, k, j, rfl, hy, ha, by rw [hr.length]; exact hj, ?_⟩
            obtain ⟨s', f'⟩ := upL s2 ho h1 ha hf (hr.set (r.mono f2.ff) j)
            exact q _ _ s' f'
        · exact q.elim
      · exact q.elim
  · exact p.elim
theorem sw_sub {a b a2 b2 v : Expr} {k : Nat} {p p2 pt : Pos} {env : Env} : swappedStores [.Tuple [.Subscript a b p, .Subscript a2 b2 p2] k pt] v env = pure none := by
  cases v <;> first | rfl | skip
  unfold swappedStores
  simp
/-- x[i], x[j] = values -/
theorem s_swp {n : Str} {i : Nat} {a b x1 x2 : Expr} {e1 e2 i1 i2 : IE} {p1 p2 p3 p4 p5 p6 pos : Pos} {k k2 : Nat} (hc : X.calm = true) (hK : X.K = G.K) (hv1 : PE X (.Name n p1) (tVar i)) (hv2 : PE X (.Name n p2) (tVar i)) (ha : PA X [a, b] (tFs G cf lk cn W (.cons false e1 (.cons false e2 .nil)))) (h1 : PE X x1 (tE G cf lk cn W i1)) (h2 : PE X x2 (tE G cf lk cn W i2)) (hs1 : notSlice x1 = true) (hs2 : notSlice x2 = true) :
    PS X (.Assign [.Tuple [.Subscript (.Name n p1) x1 p3, .Subscript (.Name n p2) x2 p4] k p5] (.Tuple [a, b] k2 p6) pos) (tS G cf lk cn W (.swp i i1 i2 e1 e2)) := by
  refine PS.imp (ps_asg (pe_tup ha) (pg_tup hc (pgs_cons (pg_sub hv1 h1 set_list (fun v => ?_)) (pgs_cons (pg_sub hv2 h2 set_list (fun v => ?_)) pgs_nil))) rfl sw_sub) fun D σ H ⟨env, Fz, s, p⟩ => ?_
  · cases x1 <;> first | rfl | (cases hs1)
  · cases x2 <;> first | rfl | (cases hs2)
  · rw [evS] at p
    refine ⟨env, Fz, s, (PostS.expr p).mono fun ds env1 Fz1 H1 s1 f1 q xs rs => ?_⟩
    split at q
    · rename_i d1 d2
      cases rs with
      | cons r1 rs =>
        cases rs with
        | cons r2 rs =>
          cases rs
          rename_i v1 v2
          refine ⟨by rw [sizeLine_eq]; simp, fun q0 hq0 => ?_⟩
          have ex : Ext Fz1 H1 Fz1 (upd H1 q0 (.tup [v1, v2])) := Ext.newL s1.sub hq0
          refine ⟨q0, [v1, v2], rfl, SqT.of upd_same, rfl, v1, [v2], rfl, ?_⟩
          have s1' := s1.ext ex
          have q := q.shift (f1.trans (.of_ext ex)) .refl
          refine stI_ok s1' r1 ((PostS.expr q).split.mono fun _ env2 Fz2 H2 s2 f2 q => ⟨v2, [], rfl, ?_⟩)
          refine stI_ok s2 (r2.mono f2.ff) (q.mono fun _ env3 Fz3 H3 s3 f3 q => ⟨rfl, ?_⟩)
          exact q σ Fz3 H3 s3 (f2.trans f3) .refl
    · exact q.elim
/-- names = a tuple -/
theorem s_unp {es : List Expr} {e : Expr} {is : List Nat} {ir : IE} {k : Nat} {p pos : Pos} (hc : X.calm = true) (c : Cok G cf cn X C W) (hl : is.length = es.length) (ht : ((is.zip es).all fun p => match p.2 with
    | .Name n _ => asB C n p.1
    | _ => false) = true) (hw : swNo X.env.scope es e = true) (he : PE X e (tE G cf lk cn W ir)) :
    PS X (.Assign [.Tuple es k p] e pos) (tS G cf lk cn W (.unp is ir)) := by
  obtain ⟨h1, h2⟩ := pgs_names c hl ht
  refine PS.imp (ps_asg he (pg_tup c.calm h1 (n := is.length) (by rw [asEach_len]; exact hl.symm) (asEach_no _ _ h2)) (by cases e <;> rfl) (swN hw) rfl) fun D σ H ⟨env, Fz, s, p⟩ => ?_
  rw [evS] at p
  split at p
  · rename_i hf
    refine ⟨env, Fz, s, p.expr.mono fun o env1 Fz1 H1 s1 f1 q v r fs => ?_⟩
    have q := q.shift f1 .refl
    split at q
    · rename_i ds _
      cases e1 : setTgs env1 is ds with
      | none => rw [e1] at q; exact q.elim
      | some env2 =>
        rw [e1] at q
        cases r with
        | v r =>
          show gTup X.K is.length (gTgs is) v σ H1 D.nx
          rw [c.K]
          refine gTg_ok (tg := .inl is) (d := .tuple ds) s1 r e1 fun σ' s' ho hl' hk => ?_
          exact q σ' Fz1 H1 s' (.same ho) ⟨hl', fun j hj => hk j fun hin => free_tg (tg := .inl is) hf j hj hin⟩
    · exact q.elim
  · exact p.elim
/-- a, (b, ..) = a pair -/
theorem s_unpn {es : List Expr} {e : Expr} {a : Str} {i : Nat} {is : List Nat} {ir : IE} {k k2 : Nat} {p p1 p2 pos : Pos} (c : Cok G cf cn X C W) (ha : asB C a i = true) (hl : is.length = es.length) (ht : ((is.zip es).all fun p => match p.2 with
    | .Name n _ => asB C n p.1
    | _ => false) = true) (hw : swNo X.env.scope [.Name a p1, .Tuple es k2 p2] e = true) (he : PE X e (tE G cf lk cn W ir)) :
    PS X (.Assign [.Tuple [.Name a p1, .Tuple es k2 p2] k p] e pos) (tS G cf lk cn W (.unpn i is ir)) := by
  obtain ⟨h1, h2⟩ := pgs_names c hl ht
  have g2 : PG X (.Tuple es k2 p2) (gTup X.K is.length (gTgs is)) := pg_tup c.calm h1 (n := is.length) (by rw [asEach_len]; exact hl.symm) (asEach_no _ _ h2)
  refine PS.imp (ps_asg he (pg_tup c.calm (pgs_cons (c.pgName ha) (pgs_cons g2 pgs_nil)) (n := 2)) (by cases e <;> rfl) (swN hw) rfl) fun D σ H ⟨env, Fz, s, p⟩ => ?_
  rw [evS] at p
  split at p
  · rename_i hf
    rw [Bool.and_eq_true] at hf
    refine ⟨env, Fz, s, p.expr.mono fun o env1 Fz1 H1 s1 f1 q v r fs => ?_⟩
    have q := q.shift f1 .refl
    split at q
    · rename_i d ds _
      cases e1 : setTgs (env1.set i (some (.v d))) is ds with
      | none => rw [e1] at q; exact q.elim
      | some env2 =>
        rw [e1] at q
        cases r with
        | v r =>
          cases r with
          | @tup A ws _ sq rs =>
            cases rs with
            | cons r1 rs =>
              cases rs with
              | cons r2 rs =>
                cases rs
                rename_i v1 v2
                refine ⟨_, _, rfl, c.K ▸ SqT.mono s1.sub sq, rfl, v1, [v2], rfl, v2, [], rfl, ?_⟩
                rw [c.K]
                refine gTg_ok (tg := .inl is) (d := .tuple ds) (s1.put (.v r1)) r2 e1 fun σ' s' ho hl' hk => ⟨rfl, ?_⟩
                refine q σ' Fz1 H1 s' (.same fun b ob => own_put s1.len (ho b ob)) ⟨by rw [hl', List.length_set], fun j hj => ?_⟩
                rw [hk j fun hin => free_tg (tg := .inl is) hf.2 j hj hin, List.getElem?_set_ne fun e => ?_]
                subst e
                have := hf.1
                unfold free at this
                rw [Bool.not_eq_true'] at this
                simp [hj] at this
    · exact q.elim
  · exact p.elim
/-- names = values, side by side -/
theorem s_par2 {x y : Str} {i j : Nat} {a b : Expr} {es : IEs} {px py pt pt2 pos : Pos} {kt k2 : Nat} (c : Cok G cf cn X C W) (hk : X.env.blockKind = .function) (hi : X.N[i]? = some x) (hj : X.N[j]? = some y) (hx : X.env.scope.names.lookup x = some .local) (hy : X.env.scope.names.lookup y = some .local)
    (hl : (py.line == px.line) = true) (hne : (x == y) = false) (h1 : notStar a = true) (h2 : notStar b = true) (hf : [a, b].all (foldedForSure 8) = false) (hc : [a, b].all (constantsAlone 8) = false) (ha : PA X [a, b] (tOs G cf lk cn W es)) :
    PS X (.Assign [.Tuple [.Name x px, .Name y py] kt pt] (.Tuple [a, b] k2 pt2) pos) (tS G cf lk cn W (.par [i, j] es)) := by
  have hij : i ≠ j := fun e => by
    subst e
    rw [hi] at hj
    cases hj
    simp at hne
  refine PS.imp (ps_par c.calm c.nd hi hj hij hx hy ha (sw2 hk hx hy hl hne h1 h2 hf hc) rfl) fun D σ H h => ?_
  obtain ⟨env, Fz, s, p⟩ := (par_tS h).2
  refine ⟨env, Fz, s, p.mono fun os env1 Fz1 H1 s1 f1 q xs r => ?_⟩
  obtain ⟨h1, h2⟩ := q xs r
  match xs, h1 with
  | [v, w], _ => exact ⟨v, w, rfl, h2⟩
theorem s_par3 {x y z : Str} {i j l : Nat} {a b d : Expr} {es : IEs} {px py pz pt pt2 pos : Pos} {kt k2 : Nat} (c : Cok G cf cn X C W) (hk : X.env.blockKind = .function) (hi : X.N[i]? = some x) (hj : X.N[j]? = some y) (hz : X.N[l]? = some z) (hx : X.env.scope.names.lookup x = some .local) (hy : X.env.scope.names.lookup y = some .local) (hzl : X.env.scope.names.lookup z = some .local)
    (hl : (py.line == px.line) = true) (hl2 : (pz.line == px.line) = true) (n1 : (x == y) = false) (n2 : (x == z) = false) (n3 : (y == z) = false) (h1 : notStar a = true) (h2 : notStar b = true) (h3 : notStar d = true) (hf : [a, b, d].all (foldedForSure 8) = false) (hc : [a, b, d].all (constantsAlone 8) = false) (ha : PA X [a, b, d] (tOs G cf lk cn W es)) :
    PS X (.Assign [.Tuple [.Name x px, .Name y py, .Name z pz] kt pt] (.Tuple [a, b, d] k2 pt2) pos) (tS G cf lk cn W (.par [i, j, l] es)) := by
  have ne : ∀ {i j : Nat} {x y : Str}, X.N[i]? = some x → X.N[j]? = some y → (x == y) = false → i ≠ j := fun hi hj hne e => by
    subst e
    rw [hi] at hj
    cases hj
    simp at hne
  refine PS.imp (ps_par3 c.calm c.nd hi hj hz (ne hi hj n1) (ne hi hz n2) (ne hj hz n3) hx hy hzl ha (sw3 hk hx hy hzl hl hl2 n1 n2 n3 h1 h2 h3 hf hc) rfl) fun D σ H h => ?_
  obtain ⟨env, Fz, s, p⟩ := (par_tS h).2
  refine ⟨env, Fz, s, p.mono fun os env1 Fz1 H1 s1 f1 q xs r => ?_⟩
  obtain ⟨h1, h2⟩ := q xs r
  match xs, h1 with
  | [u, v, w], _ => exact ⟨u, v, w, rfl, h2⟩
end
end Pv
-- PvExc0
set_option maxRecDepth 100000
namespace Pv
open PySem L2 PySem.Spec PyProof.Rows
section
variable {X : Cx} {C : Addr} {bmB : List Value} {B newId initId : String} {x : Str} {p pos : Pos}
theorem mk0 (F : ExcBaseFacts B newId initId bmB) (q : PySem.W.excIn X.K C bmB newId = true) (gC : X.mg x = some (.ref C)) (kC : PySem.W.keepIn X.K (.ref C) = true) (r : Raises X (.ref C)) (hg : Gl X x) (hd : (x == ("__debug__" : Str)) = false) :
    PMk X (.Call (.Name x p) [] [] pos) (fun _ H Q => Q (.ref C) none H) := fun pins s σ H Q I h => by
  refine wpAny_Call_Name_kw (ld_glob I hg gC (PySem.W.callWith_K0 I.kIn kC ?_) hd)
  obtain ⟨bm, N, nm, qn, bs, hdct, sn, sub, ab, col, dd, k0, k1, k2, k3, k5, mN, e1, e2, e3, e4⟩ := exc_obj I.kIn q
  have le : ([] : List Value).length ≤ sizeLine := by simp
  exact wpAny_call_exc_subT F e4 e1 e2 e3 (fun h' a hm => mk_of I hm r h (I.hok.gone hm.new)) le
variable {G : Gx} {cf : Nat → List Ob → CR} {lk : List Nat} {cn : Nat → Str} {W : WX}
/-- raise C() -/
theorem s_raise {c : Nat} {pos2 : Pos} (hc : X.calm = true) (tk : Takes X W) (hG : G.mg (cn c) = some (.ref C)) (he : PMk X (.Call (.Name x p) [] [] pos) (fun _ H Q => Q (.ref C) none H)) :
    PS X (.Raise (some (.Call (.Name x p) [] [] pos)) none pos2) (tS G cf lk cn W (.raise c .nil)) :=
  PS.imp (ps_raise hc tk he) fun D σ H ⟨env, Fz, s, q⟩ => by
    rw [evS, evF] at q
    exact q (.ref C) none σ Fz H s .refl .refl ⟨C, rfl, hG, rfl, rfl⟩
end
end Pv
-- PvExc1
set_option maxRecDepth 100000
namespace Pv
open PySem L2 PySem.Spec PyProof.Rows
section
variable {X : Cx} {a D : Addr} {oe : Obj} {pn : List (Addr × Obj)} {n m : Str} {i j : Nat} {p1 p2 p3 p4 p5 p6 p7 : Pos}
theorem ps_heard (c : ExcC X.K D) (hz : Zc (.ref D) none oe) (hf : ∃ vs, oe.data = .fields vs) (hk : PySem.W.kitOne X.K (.ref D) (.type "ValueError") = some true)
    (hN : X.N[i]? = some n) (hv : Vis X.env.scope n) (hd : (n == ("__debug__" : Str)) = false) (hcd : (n == ("__classdict__" : Str)) = false)
    (g1 : Gl X "isinstance") (m1 : X.mg "isinstance" = none) (g2 : Gl X "ValueError") (m2 : X.mg "ValueError" = none) :
    PSs (X.suite a ((a, oe) :: pn)) [.Return (some (.List [.Constant (.str m) j p1, .Call (.Name "isinstance" p2) [.Name n p3, .Name "ValueError" p4] [] p5] p6)) p7]
      (fun E σ H => σ[i]? = some (some (.ref a)) ∧ ∀ q, H q = none → E.rt (.ref q) (upd H q (.lst [.str m, .bl true]))) := by
  have e1 : PE (X.suite a ((a, oe) :: pn)) (.Name n p3) (tVar i) := pe_var hN hv hd hcd
  have e2 : PE (X.suite a ((a, oe) :: pn)) (.Name "ValueError" p4) (tC (.ty "ValueError")) := pe_bltn g2 m2 PyProof.Rows.Boot.«ValueError» rfl
  have e3 : PE (X.suite a ((a, oe) :: pn)) (.Call (.Name "isinstance" p2) [.Name n p3, .Name "ValueError" p4] [] p5) _ := pe_callB (call_isE c hz hf) g1 m1 PyProof.Rows.Boot.«isinstance» (pa_cons e1 (pa_cons e2 pa_nil))
  have e4 := pe_lst (pos := p6) (pa_cons (pe_str (x := m) (j := j) (pos := p1)) (pa_cons e3 pa_nil))
  refine PSs.imp (pss_one (ps_ret e4)) fun E σ H ⟨h1, h2⟩ => ?_
  refine ⟨.ref a, h1, .ty "ValueError", .type "ValueError", true, rfl, fun u r => r, hk, ?_, fun q hq => h2 q hq⟩
  simp [sizeLine_eq]
end
end Pv
-- PvExc2
set_option maxRecDepth 100000
namespace Pv
open PySem L2 PySem.Spec PyProof.Rows
section
variable {G : Gx} {cf : Nat → List Ob → CR} {lk : List Nat} {cn : Nat → Str} {X : Cx} {W : WX} {D : Addr} {n m x : Str} {i j nc c : Nat} {b : ISs} {body : List Stmt} {p1 p2 p3 p4 p5 p6 p7 pos pos2 pos3 : Pos}
def tTry (nc c i : Nat) (m : Str) (b : ISs) : TS := fun E σ H => ∃ env Fz, StOk G env σ Fz H ∧ PostS G lk cn W env σ Fz H (resTry nc c i m (evSs cf lk b env)) E
theorem less {env : En} {i k : Nat} {o : Ob} (h1 : (env.set i none)[k]? = some (some o)) : env[k]? = some (some o) := by
  by_cases e : i = k
  · subst e
    rw [List.getElem?_set] at h1
    split at h1
    · split at h1 <;> cases h1
    · exact h1
  · rw [List.getElem?_set_ne e] at h1
    exact h1
theorem own_less {env : En} {σ : L2.St} {a : Addr} (h : Own (env.set i none) σ a) : Own env σ a := by
  obtain ⟨k, o, h1, h2, h3⟩ := h
  refine ⟨k, o, ?_, h2, h3⟩
  by_cases e : i = k
  · subst e
    rw [List.getElem?_set] at h1
    split at h1
    · split at h1 <;> cases h1
    · exact h1
  · rw [List.getElem?_set_ne e] at h1
    exact h1
theorem s_try (hs : X.stack = X.env :: X.outer) (hf : X.env.frame = some X.env.locals) (hNd : X.N.Nodup) (hN : X.N[i]? = some n) (hln : X.env.kindOf n = some .local) (hv : Vis X.env.scope n) (hd : (n == ("__debug__" : Str)) = false) (hcd : (n == ("__classdict__" : Str)) = false)
    (tk : Takes X W) (hx : Names X x (.ref D)) (ec : ExcC X.K D) (hk : PySem.W.kitOne X.K (.ref D) (.type "ValueError") = some true) (hm : PyData.strOk m = true)
    (hcl : ∀ c' C', c' < nc → G.mg (cn c') = some (.ref C') → PySem.W.exmOne X.K (.ref C') (.ref D) = some (decide (c' = c))) (hcn : c < nc) (hD : ∀ C', G.mg (cn c) = some (.ref C') → C' = D)
    (g1 : Gl X "isinstance") (m1 : X.mg "isinstance" = none) (g2 : Gl X "ValueError") (m2 : X.mg "ValueError" = none)
    (hb : ∀ (W' : WX) (pn : List (Addr × Obj)) (xe : Value → Shared → Prop), Takes (X.tr pn xe) W' → PassesOwn (model X.prog X.w) X.A X.env xe → PSs (X.tr pn xe) body (tSs G cf lk cn W' b)) :
    PS X (.Try body [.ExceptHandler (some (.Name x pos2)) (some n) [.Return (some (.List [.Constant (.str m) j p1, .Call (.Name "isinstance" p2) [.Name n p3, .Name "ValueError" p4] [] p5] p6)) p7] pos3] [] [] pos)
      (tTry (G := G) (cf := cf) (lk := lk) (cn := cn) (W := W) nc c i m b) := by
  let ts : Addr → Value → Option Addr → TS := fun a cls d => fun E σ H => (cls = .ref D ∧ d = none) ∧ σ[i]? = some (some (.ref a)) ∧ ∀ q, H q = none → E.rt (.ref q) (upd H q (.lst [.str m, .bl true]))
  have hsu : ∀ (a : Addr) (oe : Obj) (cls : Value) (d : Option Addr) (pn : List (Addr × Obj)), Zc cls d oe → (∃ vs, oe.data = .fields vs) → PSs (X.suite a ((a, oe) :: pn)) [.Return (some (.List [.Constant (.str m) j p1, .Call (.Name "isinstance" p2) [.Name n p3, .Name "ValueError" p4] [] p5] p6)) p7] (ts a cls d) := fun a oe cls d pn hz hvs => by
    refine ⟨fun pins s σ H E I h => ?_⟩
    obtain ⟨⟨rfl, rfl⟩, h⟩ := h
    exact (ps_heard ec hz hvs hk hN hv hd hcd g1 m1 g2 m2).run pins s σ H E I h
  refine ⟨fun pins s0 σ H E I ⟨env, Fz, s, p⟩ => (ps_try_as (ts := ts) (tb := fun W' => tSs G cf lk cn W' b) hs hf hNd hN hln hx tk hb hsu).run pins s0 σ H E I ?_⟩
  refine ⟨env, Fz, s, ?_⟩
  cases e : evSs cf lk b env with
  | ok fl env' =>
    rw [e] at p
    cases fl <;> exact p
  | no => rw [e] at p; exact p
  | ex c' as env' =>
    rw [e] at p
    intro cls d σ' Fz' H' s' f' l' hex
    obtain ⟨C', rfl, hmg, has, rfl⟩ := id hex
    by_cases hc : c' = c
    · subst hc
      have p : PostS G lk cn W env σ Fz H (.ok (.rt (.ml [.str m, .bool true])) (env'.set i none)) E := by
        rw [resTry, if_pos rfl] at p
        exact p
      obtain rfl := hD C' hmg
      refine ⟨true, by rw [hcl c' C' hcn hmg]; simp, fun _ a ha => ⟨⟨rfl, rfl⟩, ?_, fun q hq => ?_⟩, fun h => by cases h⟩
      · have hlen : i < σ'.length := by
          rw [l'.1, I.len]
          exact (List.getElem?_eq_some_iff.mp hN).1
        rw [List.getElem?_set_self hlen]
      · have hz : Fz' q = none := by
          cases hF : Fz' q with
          | none => rfl
          | some o =>
            have := s'.sub q o hF
            rw [hq] at this; cases this
        refine p (.ref q) σ' Fz' (upd H' q (.lst [.str m, .bl true])) ?_ ?_ l' (.ml upd_same (.cons (.str hm) (.cons (.bl true) .nil)) hz) fun _ => ⟨q, rfl, ?_, ?_⟩
        · have st : StOk G env' σ' Fz' (upd H' q (.lst [.str m, .bl true])) := s'.ext (Ext.newL s'.sub hq)
          refine ⟨by rw [List.length_set]; exact st.len, st.sub, fun k ob hk => st.rep k ob (less hk), fun k l a oi oj hne h1 h2 => st.sep k l a oi oj hne (less h1) (less h2)⟩
        · refine ⟨fun b o h nb => ?_, fun b h => ?_, f'.ff, f'.nw, fun b h => f'.ow b (own_less h)⟩
          · exact (Same.upd hq) b o (f'.hh b o h nb)
          · have := f'.dm b h
            by_cases e : b = q
            · rw [e, upd_same]; simp
            · rw [upd_ne e]; exact this
        · exact fun h => own_none s' (own_less h) hq
        · by_cases h0 : H q = none
          · exact .inr h0
          · exact absurd hq (f'.dm q h0)
    · have p : PostS G lk cn W env σ Fz H (if c' < nc then .ex c' as env' else .no) E := by
        rw [resTry, if_neg hc] at p
        exact p
      by_cases hn : c' < nc
      · rw [if_pos hn] at p
        refine ⟨false, by rw [hcl c' C' hn hmg]; simp [hc], fun h => (by cases h), fun _ => p (.ref C') none σ' Fz' H' s' f' l' hex⟩
      · rw [if_neg hn] at p
        exact p.elim
end
end Pv
-- PvHook
set_option maxRecDepth 100000
namespace Pv
open PySem L2
/-- class x is a plain exception of the program, a child of ValueError; what asks its instances is the built-in way -/
def xcOk (K : PySem.W.Frag) (x : Str) : Bool :=
  (He.Fa.exc x).ok K && (He.eqO (PySem.W.findIn K (.ref (He.ga K x)) "__getattribute__") (some (some (.builtin "BaseException.__getattribute__"))) &&
  (He.eqO (PySem.W.findIn K (.ref (He.ga K x)) "__getattr__") (some none) && (PySem.W.hasDictIn K (He.ga K x) &&
  (He.eqO (PySem.W.findIn K (.ref (He.ga K x)) "__class__") (some (some (.builtin "object.__class__"))) &&
  (He.eqO (PySem.W.specialIn K (.builtin "object.__class__") "__get__") (some (some (.builtin "getset_descriptor.__get__"))) &&
  (decide (PySem.W.takesIn K (.builtin "object.__class__") = some true) && (decide (PySem.W.mroIn K (He.ga K x) (.type "object") = some true) &&
  decide (PySem.W.kitOne K (.ref (He.ga K x)) (.type "ValueError") = some true))))))))
theorem xc_all {K : PySem.W.Frag} {x : Str} (h : xcOk K x = true) : (He.Fa.exc x).ok K = true ∧ ExcC K (He.ga K x) ∧ PySem.W.kitOne K (.ref (He.ga K x)) (.type "ValueError") = some true := by
  unfold xcOk at h
  obtain ⟨h0, h⟩ := and2 h
  obtain ⟨h1, h⟩ := and2 h
  obtain ⟨h2, h⟩ := and2 h
  obtain ⟨h3, h⟩ := and2 h
  obtain ⟨h4, h⟩ := and2 h
  obtain ⟨h5, h⟩ := and2 h
  obtain ⟨h6, h⟩ := and2 h
  obtain ⟨h7, h8⟩ := and2 h
  exact ⟨h0, ⟨He.eqO_ok h1, He.eqO_ok h2, (He.exc_ok h0).2.2.1, h3, He.eqO_ok h4, He.eqO_ok h5, of_decide_eq_true h6, of_decide_eq_true h7⟩, of_decide_eq_true h8⟩
abbrev AlP : Type := Bool × He.AlD
def obsP (fa : List He.Fa) (fn : List He.DefD) (xs : List Str) (K : PySem.W.Frag) : AlP := (xs.all (xcOk K), He.obsD fa fn K)
def valP (fn : List He.DefD) : AlP := (true, He.valD fn)
def SaysP (fa : List He.Fa) (fn : List He.DefD) (xs : List Str) (K : PySem.W.Frag) : Prop := obsP fa fn xs K = valP fn
theorem SaysP.d {fa : List He.Fa} {fn : List He.DefD} {xs : List Str} {K : PySem.W.Frag} (h : SaysP fa fn xs K) : He.SaysD fa fn K := congrArg (fun z : AlP => z.2) h
theorem SaysP.x {fa : List He.Fa} {fn : List He.DefD} {xs : List Str} {K : PySem.W.Frag} (h : SaysP fa fn xs K) {x : Str} (hx : x ∈ xs) : xcOk K x = true := by
  have h1 : xs.all (xcOk K) = true := congrArg (fun z : AlP => z.1) h
  exact List.all_eq_true.mp h1 x hx
def obsPG (n : Nat) (fa : List He.Fa) (fn : List He.DefD) (xs : List Str) (g : Addr → Option Obj) : AlP := obsP fa fn xs (He.frG g (He.asD g n))
def hookP (n : Nat) (fa : List He.Fa) (fn : List He.DefD) (xs : List Str) : PySem.W.Hook where
  α := AlP
  obs s := obsPG n fa fn xs s.heap.get?
  val _ := valP fn
  says _ h := ∃ K : PySem.W.Frag, K.In h ∧ SaysP fa fn xs K
  of := fun _ _ q => ⟨_, He.frG_in, q⟩
  keeps := fun _ _ _ ⟨K, h1, h2⟩ k => ⟨K, PySem.W.Frag.In.keeps h1 k, h2⟩
theorem obsPG_eq {n : Nat} {fa : List He.Fa} {fn : List He.DefD} {xs : List Str} {g : Addr → Option Obj} {s : Shared} (h : ∀ a, g a = s.heap.get? a) : obsPG n fa fn xs g = (hookP n fa fn xs).obs s := by
  obtain rfl : g = s.heap.get? := funext h
  rfl
end Pv
-- PvSchk
set_option maxRecDepth 100000
set_option maxHeartbeats 4000000
namespace Pv
open PySem L2
def fnK (C : CI) : Bool := match C.sc.kind with
  | .function => true
  | _ => false
def locB (C : CI) (n : Str) : Bool := decide (C.sc.names.lookup n = some .local)
def nAt (C : CI) (n : Str) (i : Nat) : Bool := decide (C.N[i]? = some n) && locB C n
def swB (C : CI) (n : Str) (p p2 : Pos) (scope : Scope) : Bool := locB C n && (p.line == p2.line) && !(scope.names.any fun (m, k) => m == n && (k == .local || k == .cell))
def isLcE : IE → Bool
  | .lc _ _ _ _ _ => true
  | _ => false

def mPT (C : CI) (is : List Nat) (irs : IEs) (st : Stmt) : Bool := match st with
  | .Assign [.Tuple ts _ _] (.Tuple es k p) _ => ((is.length == ts.length) && decide (is.length ≤ 10)) && (((is.zip ts).all fun p => match p.2 with
    | .Name n _ => asB C n p.1
    | _ => false) && (swNo C.sc ts (.Tuple es k p) && mEs C irs es))
  | _ => false
mutual
def mS (C : CI) : IS → Stmt → Bool
  | .asg _ i e, st => (match st with
    | .Assign [.Name n p] v _ => (asB C n i && fnK C) && (match v with
      | .ListComp _ _ scope p2 => (isLcE e || !swB C n p p2 scope) && mE C e v
      | v => notComp v && mE C e v)
    | _ => false)
  | .par is es, st => mPT C is es st || (match st with
    | .Assign [.Tuple [.Name x px, .Name y py] _ _] (.Tuple [a, b] _ _) _ => (match is with
      | [i, j] => (fnK C && nAt C x i && nAt C y j && (py.line == px.line) && !(x == y)) && ((notStar a && notStar b && ![a, b].all (foldedForSure 8) && ![a, b].all (constantsAlone 8)) && mEs C es [a, b])
      | _ => false)
    | .Assign [.Tuple [.Name x px, .Name y py, .Name z pz] _ _] (.Tuple [a, b, c] _ _) _ => (match is with
      | [i, j, l] => (fnK C && nAt C x i && nAt C y j && nAt C z l && (py.line == px.line) && (pz.line == px.line) && !(x == y) && !(x == z) && !(y == z)) && ((notStar a && notStar b && notStar c && ![a, b, c].all (foldedForSure 8) && ![a, b, c].all (constantsAlone 8)) && mEs C es [a, b, c])
      | _ => false)
    | _ => false)
  | .unp is e, st => (match st with
    | .Assign [.Tuple es _ _] v _ => (is.length == es.length) && (((is.zip es).all fun p => match p.2 with
      | .Name n _ => asB C n p.1
      | _ => false) && (swNo C.sc es v && mE C e v))
    | _ => false)
  | .unpn i is e, st => (match st with
    | .Assign [.Tuple [.Name a p1, .Tuple es k2 p2] _ _] v _ => (asB C a i && ((is.length == es.length) && ((is.zip es).all fun p => match p.2 with
      | .Name n _ => asB C n p.1
      | _ => false))) && (swNo C.sc [.Name a p1, .Tuple es k2 p2] v && mE C e v)
    | _ => false)
  | .sub i ix e, st => (match st with
    | .Assign [.Subscript (.Name n _) x _] v _ => (visB C n i && notSlice x) && (mE C ix x && mE C e v)
    | _ => false)
  | .swp i i1 i2 e1 e2, st => (match st with
    | .Assign [.Tuple [.Subscript (.Name n _) x1 _, .Subscript (.Name m _) x2 _] _ _] (.Tuple [a, b] _ _) _ => ((visB C n i && decide (m = n)) && (notSlice x1 && notSlice x2)) && ((mE C i1 x1 && mE C i2 x2) && mEs C (.cons false e1 (.cons false e2 .nil)) [a, b])
    | _ => false)
  | .ap i e, st => (match st with
    | .Expr (.Call (.Attribute (.Name n _) m apos) [x] [] cpos) _ => ((m == ("append" : Str)) && visB C n i && notStar x && (apos.endLine == cpos.line)) && mE C e x
    | _ => false)
  | .ext i e, st => (match st with
    | .Expr (.Call (.Attribute (.Name n _) m apos) [x] [] cpos) _ => ((m == ("extend" : Str)) && visB C n i && notStar x && (apos.endLine == cpos.line)) && mE C e x
    | _ => false)
  | .ex e, st => (match st with
    | .Expr x _ => notComp x && mE C e x
    | _ => false)
  | .ret e, st => (match st with
    | .Return (some x) _ => mE C e x
    | _ => false)
  | .retn, st => (match st with
    | .Return none _ => true
    | _ => false)
  | .ite c a b, st => (match st with
    | .If x p q _ => mE C c x && (mSs C a p && mSs C b q)
    | _ => false)
  | .whl c b, st => (match st with
    | .While x p [] _ => mE C c x && mSs C b p
    | _ => false)
  | .for_ tg it b, st => (match st with
    | .For t iter p [] _ => (notSet iter && tgB C tg t) && (mIt C it t iter && mSs C b p)
    | _ => false)
  | .raise c es, st => (match st with
    | .Raise (some (.Call (.Name x _) [] [] _)) none _ => (match es with
      | .nil => (decide (C.ex[c]? = some x) && glB C x)
      | _ => false)
    | _ => false)
  | .tryr nc c i m b, st => (match st with
    | .Try body [.ExceptHandler (some (.Name x _)) (some n) [.Return (some (.List [.Constant (.str m') _ _, .Call (.Name f _) [.Name n' _, .Name v _] [] _] _)) _] _] [] [] _ =>
      ((decide (C.ex[c]? = some x) && (glB C x && decide (nc = C.ex.length))) && ((nAt C n i && visB C n i) && ((decide (m' = m) && (decide (n' = n) && PyData.strOk m)) && ((decide (f = ("isinstance" : Str)) && decide (v = ("ValueError" : Str))) && (btB C "isinstance" && btB C "ValueError"))))) && mSs C b body
    | _ => false)
  | .brk, st => (match st with
    | .Break _ => true
    | _ => false)
  | .cnt, st => (match st with
    | .Continue _ => true
    | _ => false)
  | .pass, st => (match st with
    | .Pass _ => true
    | .Expr (.Constant (.str _) _ _) _ => true
    | _ => false)
  | .never, _ => true
def mSs (C : CI) : ISs → List Stmt → Bool
  | .nil, sts => sts.isEmpty
  | .cons s r, sts => (match sts with
    | st :: sts => mS C s st && mSs C r sts
    | [] => false)
end

/-- what is known of the exception classes -/
structure ExOk (G : Gx) (cn : Nat → Str) (X : Cx) (C : CI) : Prop where
  st : X.stack = X.env :: X.outer
  fr : X.env.frame = some X.env.locals
  nd : C.ex.Nodup
  nm : ∀ c x, C.ex[c]? = some x → cn c = x
  cl : ∀ x, x ∈ C.ex → ∃ D, X.mg x = some (.ref D) ∧ G.mg x = some (.ref D) ∧ PySem.W.excIn X.K D He.veBase "ValueError.__new__" = true ∧ PySem.W.keepIn X.K (.ref D) = true ∧ Raises X (.ref D) ∧ ExcC X.K D ∧ PySem.W.kitOne X.K (.ref D) (.type "ValueError") = some true
  em : ∀ x y D E, x ∈ C.ex → y ∈ C.ex → G.mg x = some (.ref D) → G.mg y = some (.ref E) → PySem.W.exmOne X.K (.ref D) (.ref E) = some (decide (x = y))
section
variable {G : Gx} {cf : Nat → List Ob → CR} {lk : List Nat} {cn : Nat → Str} {X : Cx} {C : CI} {W : WX}
theorem Cok.blockF (c : Cok G cf cn X C W) (h : fnK C = true) : X.env.blockKind = .function := by
  have : C.sc.kind = .function := by
    unfold fnK at h
    split at h
    · assumption
    · cases h
  unfold Env.blockKind
  rw [c.sc, this]
  rfl
def condB (C : CI) (cond : IEs) (ifs : List Expr) : Bool := match cond with
  | .nil => ifs.isEmpty
  | .cons _ c .nil => (match ifs with
    | [x] => mE C c x
    | _ => false)
  | _ => false
theorem mE_lc {own : List Nat} {tg : List Nat ⊕ Nat} {it : IT} {cond : IEs} {elt : IE} {el : Expr} {gs : List Comprehension} {scope : Scope} {pos : Pos} (h : mE C (.lc own tg it cond elt) (.ListComp el gs scope pos) = true) :
    ∃ t iter ifs ow, gs = [⟨t, iter, ifs, 0⟩] ∧ ownB C own = some ow ∧ blkC C.N C.sc scope ow = true ∧ tgB (C.blk scope) tg t = true ∧ (∀ i ∈ tgNames tg, i ∈ own) ∧ notSet iter = true ∧ mIt C it t iter = true ∧
      condB (C.blk scope) cond ifs = true ∧ mE (C.blk scope) elt el = true := by
  rw [mE.eq_def] at h
  simp only at h
  split at h
  · rename_i el' t iter ifs scope' pos' heq
    cases heq
    split at h
    · rename_i ow how
      obtain ⟨h0, h⟩ := and2 h
      obtain ⟨hb, h0⟩ := and2 h0
      obtain ⟨ht, ho⟩ := and2 h0
      obtain ⟨hs, h⟩ := and2 h
      obtain ⟨hi, h⟩ := and2 h
      obtain ⟨hc, he⟩ := and2 h
      refine ⟨t, iter, ifs, ow, rfl, how, hb, ht, ?_, hs, hi, ?hc, he⟩
      case hc =>
        cases cond with
        | nil => exact hc
        | cons _ c r => cases r <;> exact hc
      intro i hi
      cases tg with
      | inr j =>
        have : i = j := by simpa [tgNames] using hi
        subst this
        simpa using ho
      | inl is =>
        have hi : i ∈ is := hi
        have ho : is.all own.contains = true := ho
        rw [List.all_eq_true] at ho
        simpa using ho i hi
    · cases h
  · cases h
theorem cond_ok (lk : List Nat) {cond : IEs} {ifs : List Expr} {scope : Scope} (hc : condB (C.blk scope) cond ifs = true) (X' : Cx) (c' : Cok G cf cn X' (C.blk scope) WF) : PTs X' ifs (tK G cf lk cn WF cond) := by
  cases cond with
  | nil =>
    have hc : List.isEmpty _ = true := hc
    rw [List.isEmpty_iff] at hc
    subst hc
    refine ⟨fun pins s σ H Q I hw => pts_nil.run pins s σ H Q I ?_⟩
    obtain ⟨env, Fz, st, p⟩ := hw
    rw [evK] at p
    exact p.ok st
  | cons io k r =>
    cases r with
    | cons _ _ _ => cases hc
    | nil =>
      unfold condB at hc
      simp only at hc
      split at hc
      · refine ⟨fun pins s σ H Q I hw => (pts_one (mE_ok (lk := lk) k c' _ hc).pt).run pins s σ H Q I ?_⟩
        obtain ⟨env, Fz, st, p⟩ := hw
        rw [evK] at p
        exact ⟨env, Fz, st, p⟩
      · cases hc
theorem asg_snd {z : Bool} {n : Str} {i : Nat} {v : Expr} {e : IE} {p pos : Pos} (c : Cok G cf cn X C W) (ha : asB C n i = true) (hk : fnK C = true) (h : (match v with
      | .ListComp _ _ scope p2 => (isLcE e || !swB C n p p2 scope) && mE C e v
      | v => notComp v && mE C e v) = true) : PS X (.Assign [.Name n p] v pos) (tS G cf lk cn W (.asg z i e)) := by
  split at h
  · rename_i v el gs scope p2
    obtain ⟨h1, h2⟩ := and2 h
    have hb := c.blockF hk
    by_cases hs : swB C n p p2 scope = true
    · cases e <;> first | (exfalso; simp [isLcE, hs] at h1; done) | skip
      obtain ⟨t, iter, ifs, ow, rfl, g1, g2, g3, g4, g5, g6, g7, g8⟩ := mE_lc h2
      unfold swB at hs
      obtain ⟨q1, q2⟩ := and2 hs
      obtain ⟨q1, q3⟩ := and2 q1
      have hl : X.env.scope.names.lookup n = some .local := by rw [c.sc]; exact of_decide_eq_true q1
      refine s_asgLc c ha ?_ hl g1 g2 g3 g4 g5 (mIt_ok _ c _ _ g6) (cond_ok lk g7) fun X' c' => (mE_ok _ c' _ g8).pe
      rw [sw_lc, hb, show X.env.kindOf n = some .local from hl, q3, q2]
      rfl
    · refine s_asg c ha ?_ (mE_ok e c _ h2).pe
      rw [sw_lc, hb]
      congr 1
      have hs : swB C n p p2 scope = false := by simpa using hs
      unfold swB locB at hs
      show ((ScopeKind.function == ScopeKind.function) && (X.env.scope.names.lookup n == some .local) && (p.line == p2.line) && _) = false
      rw [c.sc]
      by_cases hl : C.sc.names.lookup n = some .local
      · rw [hl] at hs ⊢
        simpa using hs
      · have : (C.sc.names.lookup n == some NameKind.local) = false := by simpa using hl
        rw [this]; rfl
  · obtain ⟨h1, h2⟩ := and2 h
    exact s_asg c ha (sw_not h1) (mE_ok e c _ h2).pe
theorem os_ok : ∀ {irs : IEs} {es : List Expr} (c : Cok G cf cn X C W), mEs C irs es = true → PA X es (tOs G cf lk cn W irs)
  | .nil, es, c, h => by
    rw [mEs] at h
    cases es with
    | nil => exact os_nil
    | cons e r => cases h
  | .cons io a r, [], c, h => by rw [mEs] at h; cases h
  | .cons io a r, e :: es, c, h => by
    rw [mEs] at h
    obtain ⟨h1, h2⟩ := and2 h
    obtain ⟨h3, h4⟩ := and2 h1
    exact os_cons (mE_ok a c e h4).pe (os_ok c h2) (star_cons h3)
theorem Cok.nat (c : Cok G cf cn X C W) {n : Str} {i : Nat} (h : nAt C n i = true) : X.N[i]? = some n ∧ X.env.scope.names.lookup n = some .local := by
  obtain ⟨h1, h2⟩ := and2 h
  exact ⟨by rw [c.N]; exact of_decide_eq_true h1, by rw [c.sc]; exact of_decide_eq_true h2⟩
theorem not_of {b : Bool} (h : (!b) = true) : b = false := by simpa using h
theorem par_snd {is : List Nat} {es : IEs} {st : Stmt} (c : Cok G cf cn X C W) (h : mS C (.par is es) st = true) : PS X st (tS G cf lk cn W (.par is es)) := by
  rw [mS.eq_def] at h
  simp only at h
  rw [Bool.or_eq_true] at h
  rcases h with h | h
  case inl =>
    unfold mPT at h
    split at h
    · obtain ⟨h1, h2⟩ := and2 h
      obtain ⟨h1, h3⟩ := and2 h1
      obtain ⟨h2, h4⟩ := and2 h2
      obtain ⟨h4, h5⟩ := and2 h4
      refine s_parT c (by simpa using h1) h2 (by rw [c.sc]; exact h4) ?_ (os_ok c h5)
      have := of_decide_eq_true h3
      have e : lim = 2 ^ 24 := by unfold lim; exact sizeLine_eq
      omega
    · cases h
  split at h
  · split at h
    · obtain ⟨h1, h2⟩ := and2 h
      obtain ⟨h2, h3⟩ := and2 h2
      obtain ⟨h1, a1⟩ := and2 h1
      obtain ⟨h1, a2⟩ := and2 h1
      obtain ⟨h1, a3⟩ := and2 h1
      obtain ⟨h1, a4⟩ := and2 h1
      obtain ⟨h2, b1⟩ := and2 h2
      obtain ⟨h2, b2⟩ := and2 h2
      obtain ⟨h2, b3⟩ := and2 h2
      obtain ⟨n1, n2⟩ := c.nat a4
      obtain ⟨n3, n4⟩ := c.nat a3
      exact s_par2 c (c.blockF h1) n1 n3 n2 n4 a2 (not_of a1) h2 b3 (not_of b2) (not_of b1) (os_ok c h3)
    · cases h
  · split at h
    · obtain ⟨h1, h2⟩ := and2 h
      obtain ⟨h2, h3⟩ := and2 h2
      obtain ⟨h1, a1⟩ := and2 h1
      obtain ⟨h1, a2⟩ := and2 h1
      obtain ⟨h1, a3⟩ := and2 h1
      obtain ⟨h1, a4⟩ := and2 h1
      obtain ⟨h1, a5⟩ := and2 h1
      obtain ⟨h1, a6⟩ := and2 h1
      obtain ⟨h1, a7⟩ := and2 h1
      obtain ⟨h1, a8⟩ := and2 h1
      obtain ⟨h2, b1⟩ := and2 h2
      obtain ⟨h2, b2⟩ := and2 h2
      obtain ⟨h2, b3⟩ := and2 h2
      obtain ⟨h2, b4⟩ := and2 h2
      obtain ⟨n1, n2⟩ := c.nat a8
      obtain ⟨n3, n4⟩ := c.nat a7
      obtain ⟨n5, n6⟩ := c.nat a6
      exact s_par3 c (c.blockF h1) n1 n3 n5 n2 n4 n6 a5 a4 (not_of a3) (not_of a2) (not_of a1) h2 b4 b3 (not_of b2) (not_of b1) (os_ok c h3)
    · cases h
  · cases h

theorem ExOk.tr (h : ExOk G cn X C) {pn : List (Addr × Obj)} {xe : Value → Shared → Prop} : ExOk G cn (X.tr pn xe) C := ⟨h.st, h.fr, h.nd, h.nm, h.cl, h.em⟩
theorem Cok.tr (c : Cok G cf cn X C W) {W' : WX} {pn : List (Addr × Obj)} {xe : Value → Shared → Prop} (tk : Takes (X.tr pn xe) W') : Cok G cf cn (X.tr pn xe) C W' := ⟨c.K, c.mg, c.N, c.nd, c.sc, c.calm, c.nm, tk, c.rm, c.asg, c.gc, c.bt, c.fn⟩
theorem raise_ok (c : Cok G cf cn X C W) (hx : ExOk G cn X C) {k : Nat} {x : Str} {p pos pos2 : Pos} (h1 : C.ex[k]? = some x) (h2 : glB C x = true) : PS X (.Raise (some (.Call (.Name x p) [] [] pos)) none pos2) (tS G cf lk cn W (.raise k .nil)) := by
  obtain ⟨D, m1, m2, q, kp, r, _, _⟩ := hx.cl x (List.mem_of_getElem? h1)
  obtain ⟨g1, g2, _⟩ := c.gl h2
  exact s_raise c.calm c.tk (by rw [hx.nm k x h1]; exact m2) (mk0 PySem.F.excBase_ValueError q m1 kp r g1 g2)
theorem try_ok (c : Cok G cf cn X C W) (hx : ExOk G cn X C) {k i j : Nat} {x n m : Str} {b : ISs} {body : List Stmt} {p1 p2 p3 p4 p5 p6 p7 pos pos2 pos3 : Pos} (h1 : C.ex[k]? = some x) (h2 : glB C x = true) (hn : nAt C n i = true) (hv : visB C n i = true) (hm : PyData.strOk m = true) (f1 : btB C "isinstance" = true) (f2 : btB C "ValueError" = true)
    (hb : ∀ (W' : WX) (pn : List (Addr × Obj)) (xe : Value → Shared → Prop), Takes (X.tr pn xe) W' → PassesOwn (model X.prog X.w) X.A X.env xe → PSs (X.tr pn xe) body (tSs G cf lk cn W' b)) :
    PS X (.Try body [.ExceptHandler (some (.Name x pos2)) (some n) [.Return (some (.List [.Constant (.str m) j p1, .Call (.Name "isinstance" p2) [.Name n p3, .Name "ValueError" p4] [] p5] p6)) p7] pos3] [] [] pos) (tS G cf lk cn W (.tryr C.ex.length k i m b)) := by
  obtain ⟨D, m1, m2, q, kp, r, ec, hk⟩ := hx.cl x (List.mem_of_getElem? h1)
  obtain ⟨g1, g2, _⟩ := c.gl h2
  obtain ⟨v1, v2, v3, v4⟩ := c.vis hv
  obtain ⟨n1, n2⟩ := c.nat hn
  obtain ⟨i1, i2, _, _⟩ := c.blt f1
  obtain ⟨i3, i4, _, _⟩ := c.blt f2
  have lt : k < C.ex.length := (List.getElem?_eq_some_iff.mp h1).1
  refine PS.imp (s_try (nc := C.ex.length) (c := k) hx.st hx.fr c.nd v1 n2 v2 v3 v4 c.tk ⟨g1, g2, .inl m1⟩ ec hk hm (fun c' C' hc hC' => ?_) lt (fun C' hC' => ?_) i1 i2 i3 i4 hb) fun E σ H ⟨env, Fz, s, p⟩ => ?_
  · have e' : C.ex[c']? = some (C.ex[c']) := List.getElem?_eq_getElem hc
    rw [hx.nm c' _ e'] at hC'
    rw [hx.em _ x C' D (List.mem_of_getElem? e') (List.mem_of_getElem? h1) hC' m2]
    congr 2
    rw [eq_iff_iff]
    constructor
    · intro e
      rw [e] at e'
      exact nodup_ix hx.nd e' h1
    · rintro rfl
      rw [e'] at h1
      exact Option.some.inj h1
  · rw [hx.nm k x h1, m2] at hC'
    cases hC'; rfl
  · rw [evS] at p
    exact ⟨env, Fz, s, p⟩
mutual
theorem mS_ok {X : Cx} {W : WX} (hp : PassesOwn (model X.prog X.w) X.A X.env X.xe) (hx : ExOk G cn X C) (ir : IS) (c : Cok G cf cn X C W) (st : Stmt) (h : mS C ir st = true) : PS X st (tS G cf lk cn W ir) := by
  cases ir with
  | asg z i e =>
    rw [mS.eq_def] at h
    simp only at h
    split at h
    · obtain ⟨h1, h2⟩ := and2 h
      obtain ⟨h1, h3⟩ := and2 h1
      exact asg_snd c h1 h3 h2
    · cases h
  | par is es => exact par_snd c h
  | unp is e =>
    rw [mS.eq_def] at h
    simp only at h
    split at h
    · obtain ⟨h1, h2⟩ := and2 h
      obtain ⟨h2, h3⟩ := and2 h2
      obtain ⟨h3, h4⟩ := and2 h3
      exact s_unp c.calm c (by simpa using h1) h2 (by rw [c.sc]; exact h3) (mE_ok e c _ h4).pe
    · cases h
  | unpn i is e =>
    rw [mS.eq_def] at h
    simp only at h
    split at h
    · obtain ⟨h1, h2⟩ := and2 h
      obtain ⟨h1, h3⟩ := and2 h1
      obtain ⟨h3, h4⟩ := and2 h3
      obtain ⟨h5, h6⟩ := and2 h2
      exact s_unpn c h1 (by simpa using h3) h4 (by rw [c.sc]; exact h5) (mE_ok e c _ h6).pe
    · cases h
  | sub i ix e =>
    rw [mS.eq_def] at h
    simp only at h
    split at h
    · obtain ⟨h1, h2⟩ := and2 h
      obtain ⟨h1, h3⟩ := and2 h1
      obtain ⟨h4, h5⟩ := and2 h2
      exact s_sub (c.var h1) (mE_ok e c _ h5).pe (mE_ok ix c _ h4).pe h3
    · cases h
  | swp i i1 i2 e1 e2 =>
    rw [mS.eq_def] at h
    simp only at h
    split at h
    · obtain ⟨h1, h2⟩ := and2 h
      obtain ⟨h1, h3⟩ := and2 h1
      obtain ⟨h1, h4⟩ := and2 h1
      obtain ⟨h5, h6⟩ := and2 h3
      obtain ⟨h2, h7⟩ := and2 h2
      obtain ⟨h8, h9⟩ := and2 h2
      have h4 := of_decide_eq_true h4
      subst h4
      exact s_swp c.calm c.K (c.var h1) (c.var h1) (mEs_ok _ c _ h7).2 (mE_ok i1 c _ h8).pe (mE_ok i2 c _ h9).pe h5 h6
    · cases h
  | ap i e =>
    rw [mS.eq_def] at h
    simp only at h
    split at h
    · obtain ⟨h1, h2⟩ := and2 h
      obtain ⟨h1, h3⟩ := and2 h1
      obtain ⟨h1, h4⟩ := and2 h1
      obtain ⟨h1, h5⟩ := and2 h1
      have h1 := blt_const h1
      subst h1
      exact s_ap (c.var h5) (mE_ok e c _ h2).pe h4 h3
    · cases h
  | ext i e =>
    rw [mS.eq_def] at h
    simp only at h
    split at h
    · obtain ⟨h1, h2⟩ := and2 h
      obtain ⟨h1, h3⟩ := and2 h1
      obtain ⟨h1, h4⟩ := and2 h1
      obtain ⟨h1, h5⟩ := and2 h1
      have h1 := blt_const h1
      subst h1
      exact s_ext (c.var h5) (mE_ok e c _ h2).pe h4 h3
    · cases h
  | ex e =>
    rw [mS.eq_def] at h
    simp only at h
    split at h
    · obtain ⟨h1, h2⟩ := and2 h
      exact s_ex (mE_ok e c _ h2).pe (sw_not h1)
    · cases h
  | ret e =>
    rw [mS.eq_def] at h
    simp only at h
    split at h
    · cases hx : e.isX with
      | none => exact s_ret (mE_ok e c _ h).pe hx
      | some i =>
        cases e <;> first | (cases hx; done) | skip
        rw [mE.eq_def] at h
        simp only at h
        split at h
        · exact s_retX (c.var h)
        · cases h
    · cases h
  | retn =>
    rw [mS.eq_def] at h
    simp only at h
    split at h
    · exact s_retn
    · cases h
  | ite k a b =>
    rw [mS.eq_def] at h
    simp only at h
    split at h
    · obtain ⟨h1, h2⟩ := and2 h
      obtain ⟨h2, h3⟩ := and2 h2
      exact s_ite (mE_ok k c _ h1).pt (mSs_ok hp hx a c _ h2) (mSs_ok hp hx b c _ h3)
    · cases h
  | whl k b =>
    rw [mS.eq_def] at h
    simp only at h
    split at h
    · obtain ⟨h1, h2⟩ := and2 h
      exact s_whl hp (mE_ok k c _ h1).pt (mSs_ok hp hx b c _ h2)
    · cases h
  | for_ tg it b =>
    rw [mS.eq_def] at h
    simp only at h
    split at h
    · obtain ⟨h1, h2⟩ := and2 h
      obtain ⟨h1, h3⟩ := and2 h1
      obtain ⟨h2, h4⟩ := and2 h2
      exact s_for c.K hp c.calm (mIt_ok it c _ _ h2) (tg_snd c h3) (mSs_ok hp hx b c _ h4) h1
    · cases h
  | raise k es =>
    rw [mS.eq_def] at h
    simp only at h
    split at h
    · split at h
      · obtain ⟨h1, h2⟩ := and2 h
        exact raise_ok c hx (of_decide_eq_true h1) h2
      · cases h
    · cases h
  | tryr nc k i m b =>
    rw [mS.eq_def] at h
    simp only at h
    split at h
    · obtain ⟨h, hb⟩ := and2 h
      obtain ⟨h1, h⟩ := and2 h
      obtain ⟨h2, h⟩ := and2 h
      obtain ⟨h3, h⟩ := and2 h
      obtain ⟨h4, h5⟩ := and2 h
      obtain ⟨a1, h1⟩ := and2 h1
      obtain ⟨a2, a3⟩ := and2 h1
      obtain ⟨b1, b2⟩ := and2 h2
      obtain ⟨c1, h3⟩ := and2 h3
      obtain ⟨c2, c3⟩ := and2 h3
      obtain ⟨d1, d2⟩ := and2 h4
      obtain ⟨f1, f2⟩ := and2 h5
      have c1 := of_decide_eq_true c1
      have c2 := of_decide_eq_true c2
      have d1 := of_decide_eq_true d1
      have d2 := of_decide_eq_true d2
      have a3 := of_decide_eq_true a3
      subst c1 c2 d1 d2 a3
      exact try_ok c hx (of_decide_eq_true a1) a2 b1 b2 c3 f1 f2 fun W' pn xe tk po => mSs_ok (X := X.tr pn xe) (W := W') po hx.tr b (c.tr tk) _ hb
    · cases h
  | brk =>
    rw [mS.eq_def] at h
    simp only at h
    split at h
    · exact s_brk
    · cases h
  | cnt =>
    rw [mS.eq_def] at h
    simp only at h
    split at h
    · exact s_cnt
    · cases h
  | pass =>
    rw [mS.eq_def] at h
    simp only at h
    split at h
    · exact s_pass
    · refine PS.imp ps_doc fun D σ H ⟨env, Fz, s, p⟩ => ?_
      rw [evS] at p
      exact p σ Fz H s .refl .refl
    · cases h
  | never => exact s_never
theorem mSs_ok {X : Cx} {W : WX} (hp : PassesOwn (model X.prog X.w) X.A X.env X.xe) (hx : ExOk G cn X C) (ir : ISs) (c : Cok G cf cn X C W) (st : List Stmt) (h : mSs C ir st = true) : PSs X st (tSs G cf lk cn W ir) := by
  cases ir with
  | nil =>
    rw [mSs] at h
    cases st with
    | nil => exact ss_nil
    | cons e r => cases h
  | cons s r =>
    cases st with
    | nil => rw [mSs] at h; cases h
    | cons e es =>
      rw [mSs] at h
      obtain ⟨h1, h2⟩ := and2 h
      exact ss_cons (mS_ok hp hx s c e h1) (mSs_ok hp hx r c es h2)
end
end
end Pv
-- PvFn
set_option maxRecDepth 100000
namespace Pv
open PySem L2

theorem fm_congr {α β : Type} {f g : α → Option β} : ∀ {l : List α}, (∀ a ∈ l, f a = g a) → l.filterMap f = l.filterMap g
  | [], _ => rfl
  | a :: l, h => by
    rw [List.filterMap_cons, List.filterMap_cons, h a List.mem_cons_self, fm_congr fun b hb => h b (List.mem_cons_of_mem _ hb)]
theorem lookup_zip {α : Type} : ∀ {ps : List Str} {us : List α}, ps.Nodup → us.length = ps.length → (ps.filterMap fun n => ((ps.zip us).lookup n).map (n, ·)) = ps.zip us ∧ (ps.filter fun n => ((ps.zip us).lookup n).isNone) = []
  | [], us, _, h => by
    have : us = [] := List.length_eq_zero_iff.mp h
    subst this
    exact ⟨rfl, rfl⟩
  | p :: ps, [], _, h => by cases h
  | p :: ps, u :: us, nd, h => by
    obtain ⟨h1, h2⟩ := List.nodup_cons.mp nd
    obtain ⟨i1, i2⟩ := lookup_zip h2 (us := us) (by simpa using h)
    have ne : ∀ n ∈ ps, (n == p) = false := fun n hn => by
      rw [beq_eq_false_iff_ne]
      exact fun e => h1 (e ▸ hn)
    constructor
    · rw [List.zip_cons_cons, List.filterMap_cons]
      simp only [List.lookup_cons, beq_self_eq_true, Option.map_some]
      congr 1
      exact (fm_congr fun n hn => by rw [ne n hn]).trans i1
    · rw [List.zip_cons_cons, List.filter_cons]
      simp only [List.lookup_cons, beq_self_eq_true, Option.isNone_some, Bool.false_eq_true, if_false]
      rw [← i2]
      refine List.filter_congr fun n hn => ?_
      rw [ne n hn]
theorem binds_plain {x qual : Str} {p : Arguments} {body : List Stmt} {scope : Scope} {kV doc pm cdv ct : Value} {an : Option Addr} {us : List Value} (hp : plainArgs p = true) (nd : (p.args.map (·.arg)).Nodup) (hl : us.length = (p.args.map (·.arg)).length) :
    bindArgs (PySem.W.fnOf x qual p body scope .none kV doc pm an cdv ct) ⟨us, []⟩ = pure ((p.args.map (·.arg)).zip us) := by
  obtain ⟨a1, a2, a3, a4, a5, a6, a7⟩ := p
  unfold plainArgs at hp
  split at hp
  · rename_i heq
    cases heq
    obtain ⟨l1, l2⟩ := lookup_zip nd hl
    simp only at l1 l2 hl ⊢
    unfold bindArgs
    simp only [PySem.W.fnOf, List.map_nil, List.nil_append, List.append_nil, List.forIn_nil, hl, gt_iff_lt, Nat.lt_irrefl]
    rw [show seqItems? Value.none = pure none from rfl]
    simp only [pure_bind, Option.getD_none, List.length_nil, List.drop_nil, Nat.sub_zero, List.take_length, l1, l2, List.isEmpty_nil, List.zip_nil_right, List.forIn_nil, decide_false, Bool.false_and, Bool.not_true, Bool.false_eq_true, if_false]
  · cases hp

theorem start_get {N : List Str} {vs : List V} {i : Nat} {v : V} (h : (L2.start N vs)[i]? = some (some v)) : vs[i]? = some v := by
  unfold L2.start at h
  by_cases hi : i < vs.length
  · rw [List.getElem?_append_left (by simpa using hi), List.getElem?_map] at h
    cases e : vs[i]? with
    | none => rw [e] at h; cases h
    | some a => rw [e] at h; cases h; rfl
  · rw [List.getElem?_append_right (by simpa using hi), List.getElem?_replicate] at h
    split at h <;> cases h
theorem start_of {N : List Str} {vs : List V} {i : Nat} {v : V} (h : vs[i]? = some v) : (L2.start N vs)[i]? = some (some v) := by
  have hi : i < vs.length := (List.getElem?_eq_some_iff.mp h).1
  unfold L2.start
  rw [List.getElem?_append_left (by simpa using hi), List.getElem?_map, h]
  rfl
theorem env_get {obs : List Ob} {n i : Nat} {o : Ob} (h : (obs.map some ++ List.replicate n none)[i]? = some (some o)) : obs[i]? = some o := by
  by_cases hi : i < obs.length
  · rw [List.getElem?_append_left (by simpa using hi), List.getElem?_map] at h
    cases e : obs[i]? with
    | none => rw [e] at h; cases h
    | some a => rw [e] at h; cases h; rfl
  · rw [List.getElem?_append_right (by simpa using hi), List.getElem?_replicate] at h
    split at h <;> cases h
theorem env_of {obs : List Ob} {n i : Nat} {o : Ob} (h : obs[i]? = some o) : (obs.map some ++ List.replicate n none)[i]? = some (some o) := by
  have hi : i < obs.length := (List.getElem?_eq_some_iff.mp h).1
  rw [List.getElem?_append_left (by simpa using hi), List.getElem?_map, h]
  rfl
section
variable {G : Gx}
theorem own_start {obs : List Ob} {N : List Str} {vs : List V} {n : Nat} {a : Addr} : Own (obs.map some ++ List.replicate n none) (L2.start N vs) a ↔ OwnA obs vs a :=
  ⟨fun ⟨i, o, h1, h2, h3⟩ => ⟨i, o, env_get h1, h2, start_get h3⟩, fun ⟨i, o, h1, h2, h3⟩ => ⟨i, o, env_of h1, h2, start_of h3⟩⟩
theorem paired_get {α β : Type} {R : α → β → Prop} : ∀ {xs : List α} {ys : List β}, Paired R xs ys → ∀ {i : Nat} {y : β}, ys[i]? = some y → ∃ x, xs[i]? = some x ∧ R x y
  | _, _, .nil, i, y, h => by simp at h
  | _, _, .cons r t, 0, y, h => by simp at h; subst h; exact ⟨_, rfl, r⟩
  | _, _, .cons r t, i + 1, y, h => by
    obtain ⟨x, h1, h2⟩ := paired_get t (i := i) (by simpa using h)
    exact ⟨x, by simpa using h1, h2⟩
theorem outs_ok {Fz' H' : Hp} {env' : En} {σ' : St} {io : List Nat} (s' : StOk G env' σ' Fz' H') : ∀ {obs : List Ob} {vs : List V} {i : Nat} {outs : List Ob}, vs.length = obs.length → ioOk io i obs = true →
    (∀ (j : Nat) (v : V), io.contains (i + j) = true → vs[j]? = some v → σ'[i + j]? = some (some v)) →
    outsOf env' ((List.range' i obs.length).filter fun j => io.contains j) = some outs → Outs G Fz' H' obs vs outs
  | [], [], i, outs, _, _, _, h => by
    simp [outsOf] at h
    exact h
  | [], _ :: _, _, _, h, _, _, _ => by cases h
  | _ :: _, [], _, _, h, _, _, _ => by cases h
  | o :: os, v :: vs, i, outs, hl, hi, hs, h => by
    rw [ioOk] at hi
    obtain ⟨h1, h2⟩ := and2 hi
    have h1 : o.mut = io.contains i := by simpa using h1
    rw [Outs_cons]
    have hs2 : ∀ (j : Nat) (w : V), io.contains (i + 1 + j) = true → vs[j]? = some w → σ'[i + 1 + j]? = some (some w) := fun j w hj hw => by
      have := hs (j + 1) w (by rw [show i + (j + 1) = i + 1 + j by omega]; exact hj) (by simpa using hw)
      rwa [show i + (j + 1) = i + 1 + j by omega] at this
    rw [List.length_cons, List.range'_succ, List.filter_cons] at h
    by_cases hm : o.mut = true
    · rw [if_pos hm]
      rw [if_pos (h1 ▸ hm), outsOf] at h
      split at h
      · rename_i out outs' e1 e2
        cases h
        have e3 := hs 0 v (by rw [Nat.add_zero, ← h1]; exact hm) rfl
        rw [Nat.add_zero] at e3
        obtain ⟨w, w1, w2⟩ := s'.rep i out e1
        rw [e3] at w1
        cases w1
        exact ⟨out, outs', rfl, w2, outs_ok s' (by simpa using hl) h2 hs2 e2⟩
      · cases h
    · rw [if_neg hm]
      rw [if_neg (by rw [← h1]; exact hm)] at h
      exact outs_ok s' (by simpa using hl) h2 hs2 h
theorem outs_mut {env' : En} : ∀ {l : List Nat} {outs : List Ob}, outsOf env' l = some outs → outs.all Ob.mut = true → ∀ j ∈ l, ∃ out, env'[j]? = some (some out) ∧ out.mut = true
  | [], _, _, _, j, hj => by cases hj
  | i :: l, outs, h, hm, j, hj => by
    rw [outsOf] at h
    split at h
    · rename_i out outs' e1 e2
      cases h
      rw [List.all_cons] at hm
      obtain ⟨m1, m2⟩ := and2 hm
      rcases List.mem_cons.mp hj with e | hj
      · subst e; exact ⟨out, e1, m1⟩
      · exact outs_mut e2 m2 j hj
    · cases h
theorem io_at {io : List Nat} : ∀ {obs : List Ob} {i j : Nat} {o : Ob}, ioOk io i obs = true → obs[j]? = some o → o.mut = io.contains (i + j)
  | [], _, _, _, _, h => by simp at h
  | o :: os, i, 0, o', hi, h => by
    rw [ioOk] at hi
    simp at h
    subst h
    simpa using (and2 hi).1
  | o :: os, i, j + 1, o', hi, h => by
    rw [ioOk] at hi
    have := io_at (j := j) (and2 hi).2 (by simpa using h)
    rwa [show i + 1 + j = i + (j + 1) by omega] at this
def ioB (d : FD) : Bool := decide (d.io = (List.range' 0 d.np).filter fun j => d.io.contains j)
/-- the body's promise, from the call's -/
theorem body_post {cn : Nat → Str} {cf : Nat → List Ob → CR} {Fz H : Hp} {obs : List Ob} {vs : List V} {N : List Str} {d : FD} {Q : VK} {E : XK} (hio : ioB d = true) (hns : d.ns = N.length) (hlen : vs.length = obs.length) (sub : Same Fz H)
    (rp : Paired (fun (x : V) (o : Ob) => RO G Fz H o x) vs obs)
    (ap : ∀ (i j : Nat) (a : Addr) (oi oj : Ob), i ≠ j → obs[i]? = some oi → obs[j]? = some oj → oi.mut = true → oj.mut = true → vs[i]? = some (.ref a) → vs[j]? = some (.ref a) → False) (hle : d.np ≤ d.ns)
    (p : CallPost G cn Fz H obs vs (if obs.length == d.np && ioOk d.io 0 obs then (match evSs cf d.io d.body (obs.map some ++ List.replicate (d.ns - d.np) none) with
      | .ok fl env => (match outsOf env d.io, fl with
        | some outs, .nx => if outs.all Ob.mut then .ret (.v .none) outs else .no
        | some outs, .rt o => if outs.all Ob.mut then .ret o outs else .no
        | _, _ => .no)
      | .ex c as _ => .exc c as
      | .no => .no) else .no) Q E) :
    tSs G cf d.io cn (fun cls d _ H' => E cls d H') d.body { nx := fun _ H' => Q .non H', rt := Q } (L2.start N vs) H := by
  split at p
  · rename_i hc
    obtain ⟨c1, c2⟩ := and2 hc
    have c1 : obs.length = d.np := by simpa using c1
    have hio : d.io = (List.range' 0 obs.length).filter fun j => d.io.contains j := by rw [c1]; exact of_decide_eq_true hio
    have s : StOk G (obs.map some ++ List.replicate (d.ns - d.np) none) (L2.start N vs) Fz H := by
      refine ⟨?_, sub, fun i o h => ?_, fun i j a oi oj hne h1 h2 m1 m2 e1 e2 => ap i j a oi oj hne (env_get h1) (env_get h2) m1 m2 (start_get e1) (start_get e2)⟩
      · unfold L2.start
        rw [List.length_append, List.length_map, List.length_replicate, List.length_append, List.length_map, List.length_replicate, hns, ← c1, hlen]
      · obtain ⟨v, h1, h2⟩ := paired_get rp (env_get h)
        exact ⟨v, start_of h1, h2⟩
    refine ⟨_, Fz, s, ?_⟩
    have own : ∀ a, Own (obs.map some ++ List.replicate (d.ns - d.np) none) (L2.start N vs) a ↔ OwnA obs vs a := fun a => own_start
    generalize obs.map some ++ List.replicate (d.ns - d.np) none = env0 at p s own ⊢
    have fr : ∀ {O : Addr → Prop} {Fz' H' : Hp}, FrO (Own env0 (L2.start N vs)) O Fz H Fz' H' → FrO (OwnA obs vs) (OwnA obs vs) Fz H Fz' H' := fun f =>
      ⟨fun a o h n => f.hh a o h fun z => n ((own a).mp z), f.dm, f.ff, fun a h n z => f.nw a h (fun y => n ((own a).mp y)) z, fun a h => .inl h⟩
    have outs : ∀ {env' : En} {σ' : St} {Fz' H' : Hp} {os : List Ob}, StOk G env' σ' Fz' H' → Lk d.io (L2.start N vs) σ' → outsOf env' d.io = some os → Outs G Fz' H' obs vs os := fun {env' σ' Fz' H' os} s' l h => by
      rw [hio] at h
      refine outs_ok s' hlen c2 (fun j v hj hv => ?_) h
      have hj : d.io.contains (0 + j) = true := hj
      rw [l.2 (0 + j) (by simpa using hj)]
      rw [Nat.zero_add]
      exact start_of hv
    cases e : evSs cf d.io d.body env0 with
    | no => rw [e] at p; exact p
    | ex c as env' =>
      rw [e] at p
      exact fun cls dd σ' Fz' H' s' f l x => p cls dd Fz' H' s'.sub (fr f) x
    | ok fl env' =>
      rw [e] at p
      simp only at p
      cases eo : outsOf env' d.io with
      | none =>
        rw [eo] at p
        cases fl <;> exact p.elim
      | some os =>
        rw [eo] at p
        cases fl with
        | bk => exact p.elim
        | ct => exact p.elim
        | nx =>
          simp only at p
          split at p
          · rename_i hm
            exact fun σ' Fz' H' s' f l => p .non Fz' H' s'.sub (.v .non) (outs s' l eo) (fr f) fun m => by cases m
          · exact p.elim
        | rt o =>
          simp only at p
          split at p
          · rename_i hm
            intro v σ' Fz' H' s' f l r m
            refine p v Fz' H' s'.sub r (outs s' l eo) (fr f) fun q => ?_
            obtain ⟨a, h1, h2, h3⟩ := m q
            refine ⟨a, h1, h3.resolve_left fun z => ?_⟩
            obtain ⟨j, oj, z1, z2, z3⟩ := (own a).mp z
            have hj : d.io.contains j = true := by
              have := io_at c2 z1
              rw [Nat.zero_add] at this
              rw [← this]; exact z2
            have hj : j ∈ d.io := by simpa using hj
            obtain ⟨out, w1, w2⟩ := outs_mut eo hm j hj
            exact h2 ⟨j, out, w1, w2, by rw [l.2 j hj]; exact start_of z3⟩
          · exact p.elim
  · exact p.elim
end
end Pv
-- PvTab
set_option maxRecDepth 100000
namespace Pv
open PySem L2

structure Ent where
  at_ : Str
  name : Str
  params : Arguments
  body : List Stmt
  scope : Scope
  N : List Str
  fd : FD
def Ent.ps (E : Ent) : List Str := E.params.args.map (·.arg)
def Ent.d (E : Ent) : He.DefD := ⟨(E.at_, none), E.name, E.name, E.params, E.body, E.scope, [], []⟩
structure Tab where
  ents : List Ent
  cI : List (Str × Int)
  cS : List (Str × Str)
  bt : List Str
  ex : List Str
def Tab.nm (T : Tab) : List Str := T.ents.map (·.at_)
def Tab.gc (T : Tab) : List (Str × PV) := T.cI.map (fun p => (p.1, .int p.2)) ++ T.cS.map (fun p => (p.1, .str p.2))
def Tab.fa (T : Tab) : List He.Fa := T.nm.map .glo ++ (T.cI.map (fun p => .int p.1 p.2) ++ (T.cS.map (fun p => .str p.1 p.2) ++ (T.bt.map .free ++ (T.ex.map .glo ++ T.ex.flatMap fun x => T.ex.map fun y => .exm x y (decide (x = y))))))
def Tab.fns (T : Tab) : List He.DefD := T.ents.map Ent.d
def Tab.fd (T : Tab) (f : Nat) : Option FD := (T.ents[f]?).map (·.fd)
def scB (N ps : List Str) (sc : Scope) : Bool := (match sc.kind with
  | .function => true
  | _ => false) && !sc.isCoroutine && !sc.isGenerator && decide N.Nodup && decide (N.take ps.length = ps) && (ps.all fun x => isLoc (sc.names.lookup x)) && sc.names.all fun y => decide (y.2 ≠ .free)
theorem scB_ok {N ps : List Str} {sc : Scope} (h : scB N ps sc = true) : FnScope N ps sc := by
  unfold scB at h
  obtain ⟨h, h7⟩ := and2 h
  obtain ⟨h, h6⟩ := and2 h
  obtain ⟨h, h5⟩ := and2 h
  obtain ⟨h, h4⟩ := and2 h
  obtain ⟨h, h3⟩ := and2 h
  obtain ⟨h1, h2⟩ := and2 h
  refine ⟨?_, not_of h2, not_of h3, of_decide_eq_true h4, of_decide_eq_true h5, fun x hx => ?_, fun y hy => ?_⟩
  · split at h1
    · assumption
    · cases h1
  · rw [List.all_eq_true] at h6
    exact loc_of (h6 x hx)
  · rw [List.all_eq_true] at h7
    exact of_decide_eq_true (h7 y hy)
def Tab.ci (T : Tab) (E : Ent) : CI := { N := E.N, sc := E.scope, asc := E.scope, nm := T.nm, gc := T.gc, bt := T.bt, ex := T.ex, kp := T.ents.map Ent.ps }
def entB (T : Tab) (E : Ent) : Bool := (plainArgs E.params && scB E.N E.ps E.scope && (E.fd.np == E.ps.length) && (E.fd.ns == E.N.length) && ioB E.fd) && mSs (T.ci E) E.fd.body E.body
def Tab.cn (T : Tab) (c : Nat) : Str := (T.ex[c]?).getD Str.empty
def Tab.ok (T : Tab) : Bool := ((decide T.ex.Nodup) && T.cS.all fun p => PyData.strOk p.2) && T.ents.all (entB T)
def Tab.gx (T : Tab) (K : PySem.W.Frag) (mg : Str → Option Value) : Gx := ⟨K, mg, fun f => (T.nm[f]?).getD Str.empty⟩

section
variable {P : Program} {w : World} {K : PySem.W.Frag} {mg : Str → Option Value} {base h : Heap} {T : Tab}
theorem SaysD_mem {fa : List He.Fa} {fn : List He.DefD} (c : He.SaysD fa fn K) {f : He.Fa} (hf : f ∈ fa) : f.ok K = true := by
  obtain ⟨i, hi⟩ := List.getElem?_of_mem hf
  exact c.fact i hi
theorem lookup_mem {β : Type} : ∀ {l : List (Str × β)} {n : Str} {d : β}, l.lookup n = some d → (n, d) ∈ l
  | [], _, _, h => by cases h
  | (m, e) :: l, n, d, h => by
    rw [List.lookup_cons] at h
    by_cases q : (n == m) = true
    · rw [q] at h
      cases h
      have : n = m := by simpa using q
      rw [this]
      exact List.mem_cons_self
    · have q : (n == m) = false := by simpa using q
      rw [q] at h
      exact List.mem_cons_of_mem _ (lookup_mem h)
/-- what the head tells of a def -/
def Says (T : Tab) (K : PySem.W.Frag) (f : Nat) (E : Ent) (fd : FuncData) : Prop := FunD K E.name E.name E.params E.body E.scope [] [] (He.fAd K (E.at_, none)) fd
theorem says_at (c : He.SaysD T.fa T.fns K) (f : Nat) (E : Ent) (h : T.ents[f]? = some E) : ∃ fd, Says T K f E fd := by
  have : T.fns[f]? = some E.d := by
    unfold Tab.fns
    rw [List.getElem?_map, h]
    rfl
  exact c.def_ f this
theorem binds_at {f : Nat} {E : Ent} {fd : FuncData} (hok : entB T E = true) (F : Says T K f E fd) : Binds K fd E.ps [] := by
  unfold entB at hok
  obtain ⟨h1, _⟩ := and2 hok
  obtain ⟨h1, _⟩ := and2 h1
  obtain ⟨h1, _⟩ := and2 h1
  obtain ⟨h1, h2⟩ := and2 h1
  obtain ⟨h1, h3⟩ := and2 h1
  refine F.bindsN fun kV doc pm an cdv ct us hl => binds_plain h1 ?_ hl
  have S := scB_ok h3
  have := S.nd.sublist (List.take_sublist E.ps.length E.N)
  rw [S.pre] at this
  exact this
theorem kwb_at {f : Nat} {E : Ent} {fd : FuncData} (hok : entB T E = true) (F : Says T K f E fd) : KwB K fd E.ps := by
  unfold entB at hok
  obtain ⟨h1, _⟩ := and2 hok
  obtain ⟨h1, _⟩ := and2 h1
  obtain ⟨h1, _⟩ := and2 h1
  obtain ⟨h1, h2⟩ := and2 h1
  obtain ⟨h1, h3⟩ := and2 h1
  obtain ⟨oc, od, dV, kV, doc, pm, an, cdv, ct, osl, rfl, lk, hcd, hD, hK⟩ := F.ex
  rcases hD with ⟨_, rfl⟩ | ⟨e, _⟩
  · exact fun s kw nd h1' h2' => .of_eq (binds_kw h1 nd h1' h2')
  · exact absurd rfl e
theorem nm_at {f : Nat} {n : Str} (h : T.nm[f]? = some n) : ∃ E, T.ents[f]? = some E ∧ E.at_ = n := by
  unfold Tab.nm at h
  rw [List.getElem?_map, Option.map_eq_some_iff] at h
  exact h
theorem ent_mem {f : Nat} {E : Ent} (h : T.ents[f]? = some E) : E ∈ T.ents := List.mem_of_getElem? h
theorem runF_len {T : Nat → Option FD} {k f : Nat} {d : FD} (h : T f = some d) : ∀ obs, runF T k f obs ≠ .no → obs.length = d.np := fun obs hn => by
  cases k with
  | zero => exact absurd rfl hn
  | succ k =>
    rw [runF, h] at hn
    by_cases q : obs.length = d.np
    · exact q
    · exfalso
      apply hn
      have : (obs.length == d.np) = false := by simpa using q
      simp only [this, Bool.false_and, Bool.false_eq_true, if_false]
/-- every def of the table keeps its promise, at every level -/
theorem tab_ok (X : K.In h) (Gn : h.Ns mainGlobals mg) (cP : SaysP T.fa T.fns T.ex K) (ok : T.ok = true) (fdO : Nat → FuncData) (hfd : ∀ f E, T.ents[f]? = some E → Says T K f E (fdO f)) :
    ∀ (k f : Nat) (E : Ent), T.ents[f]? = some E → FnOk P w K mg base (L2.CX P w) k (He.fAd K (E.at_, none)) (fdO f) E.ps (spF (T.gx K mg) (runF T.fd k) T.cn E.ps.length f)
  | 0, f, E, hE => ⟨fun vs H Q E' q => q.1, fun A outer s H args us vs Q E' hr e0 hb hv q => by
      obtain ⟨_, Fz, obs, _, _, _, p⟩ := q
      rw [runF] at p
      exact p.elim⟩
  | k + 1, f, E, hE => by
    unfold Tab.ok at ok
    obtain ⟨okS, okE⟩ := and2 ok
    obtain ⟨okX, okS⟩ := and2 okS
    have c := cP.d
    rw [List.all_eq_true] at okE okS
    have hE' := okE E (ent_mem hE)
    have hE2 := hE'
    unfold entB at hE2
    obtain ⟨h1, hm⟩ := and2 hE2
    obtain ⟨h1, hio⟩ := and2 h1
    obtain ⟨h1, hns⟩ := and2 h1
    obtain ⟨h1, hnp⟩ := and2 h1
    obtain ⟨h1, hsc⟩ := and2 h1
    have hnp : E.fd.np = E.ps.length := by simpa using hnp
    have hns : E.fd.ns = E.N.length := by simpa using hns
    have S := scB_ok hsc
    refine (hfd f E hE).ok S (fun vs H Q E' q => q.1) fun cdv A outer s H vs Q E' hr q => ?_
    obtain ⟨hl, Fz, obs, sub, rp, ap, p⟩ := q
    refine ⟨tSs (T.gx K mg) (runF T.fd k) E.fd.io T.cn (fun cls d _ H' => E' cls d H') E.fd.body, ?_, ?_⟩
    · have ck : Cok (T.gx K mg) (runF T.fd k) T.cn (cxOf (L2.CX P w) P w K mg base E.N E.name E.scope (He.fAd K (E.at_, none)) cdv A outer s H E') (T.ci E) (fun cls d _ H' => E' cls d H') := by
        refine ⟨rfl, rfl, rfl, S.nd, rfl, rfl, fun g n hn => ?_, takes_of rfl rfl rfl rfl, ⟨k, hr⟩, fun x hx => ⟨hx, .inl rfl⟩, fun n d hd => ?_, fun n hn => ?_, fun g n hn => ?_⟩
        · have hn : T.nm[g]? = some n := hn
          show (T.nm[g]?).getD Str.empty = n
          rw [hn]; rfl
        · have hd := lookup_mem hd
          rcases List.mem_append.mp hd with hd | hd
          · obtain ⟨q, hq, e⟩ := List.mem_map.mp hd
            cases e
            have := SaysD_mem c (f := .int q.1 q.2) (List.mem_append_right _ (List.mem_append_left _ (List.mem_map.mpr ⟨q, hq, rfl⟩)))
            obtain ⟨t, ht⟩ := He.int_ok X Gn this
            exact ⟨_, .int q.2, ht, ⟨t, rfl⟩, fun _ => .int _⟩
          · obtain ⟨q, hq, e⟩ := List.mem_map.mp hd
            cases e
            have := SaysD_mem c (f := .str q.1 q.2) (List.mem_append_right _ (List.mem_append_right _ (List.mem_append_left _ (List.mem_map.mpr ⟨q, hq, rfl⟩))))
            obtain ⟨t, ht⟩ := He.str_ok X Gn this
            exact ⟨_, .str q.2, ht, ⟨t, rfl⟩, fun _ => .str (okS q hq)⟩
        · exact He.free_ok X Gn (SaysD_mem c (f := .free n) (List.mem_append_right _ (List.mem_append_right _ (List.mem_append_right _ (List.mem_append_left _ (List.mem_map.mpr ⟨n, hn, rfl⟩))))))
        · obtain ⟨E2, hE2, rfl⟩ := nm_at hn
          have hg : mg E2.at_ = some (.ref (He.ga K E2.at_)) := He.glo_ok X Gn (SaysD_mem c (f := .glo E2.at_) (List.mem_append_left _ (List.mem_map.mpr ⟨E2.at_, List.mem_of_getElem? hn, rfl⟩)))
          have hE3 := okE E2 (ent_mem hE2)
          refine ⟨He.ga K E2.at_, k, fdO g, E2.ps, ⟨by show (T.ents.map Ent.ps)[g]? = _; rw [List.getElem?_map, hE2]; rfl, kwb_at hE3 (hfd g E2 hE2)⟩, hg, hr, (hfd g E2 hE2).kp, binds_at hE3 (hfd g E2 hE2), tab_ok X Gn cP ok fdO hfd k g E2 hE2, ?_⟩
          have : E2.fd.np = E2.ps.length := by
            unfold entB at hE3
            obtain ⟨h1, _⟩ := and2 hE3
            obtain ⟨h1, _⟩ := and2 h1
            obtain ⟨h1, _⟩ := and2 h1
            obtain ⟨_, h1⟩ := and2 h1
            simpa using h1
          rw [← this]
          refine runF_len ?_
          unfold Tab.fd
          rw [hE2]; rfl
      have hx : ∀ x ∈ T.ex, mg x = some (.ref (He.ga K x)) := fun x hx => He.glo_ok X Gn (SaysD_mem c (f := .glo x) (List.mem_append_right _ (List.mem_append_right _ (List.mem_append_right _ (List.mem_append_right _ (List.mem_append_left _ (List.mem_map.mpr ⟨x, hx, rfl⟩)))))))
      refine mSs_ok (passes_of rfl) ⟨rfl, rfl, of_decide_eq_true okX, fun k x hk => ?_, fun x hxm => ?_, fun x y D E' hxm hym h1 h2 => ?_⟩ E.fd.body ck E.body hm
      · have hk : T.ex[k]? = some x := hk
        show (T.ex[k]?).getD Str.empty = x
        rw [hk]; rfl
      · obtain ⟨z1, z2, z3⟩ := xc_all (cP.x hxm)
        obtain ⟨y1, y2, y3, y4⟩ := He.exc_ok z1
        exact ⟨He.ga K x, hx x hxm, hx x hxm, y1, y2, raises_own y3 y4, z2, z3⟩
      · have h1 : mg x = some (.ref D) := h1
        have h2 : mg y = some (.ref E') := h2
        rw [hx x hxm] at h1
        rw [hx y hym] at h2
        cases h1; cases h2
        exact He.exm_ok (SaysD_mem c (f := .exm x y (decide (x = y))) (List.mem_append_right _ (List.mem_append_right _ (List.mem_append_right _ (List.mem_append_right _ (List.mem_append_right _ (List.mem_flatMap.mpr ⟨x, hxm, List.mem_map.mpr ⟨y, hym, rfl⟩⟩)))))))
    · have hTf : T.fd f = some E.fd := by
        unfold Tab.fd
        rw [hE]; rfl
      rw [runF, hTf] at p
      refine body_post hio hns (paired_flip rp) sub rp ap ?_ p
      rw [hnp, hns]
      have := congrArg List.length S.pre
      rw [List.length_take] at this
      omega
end
end Pv
-- PvLaw
set_option maxRecDepth 100000
namespace Pv
open PySem L2
/-- what a call may let out, in some world -/
def CXany (P : Program) : CXT := fun outer H s E u s' => ∃ w, L2.CX P w outer H s E u s'
theorem CXany_no (P : Program) : ∀ (H : Hp) (s : Shared) (e : Value) (s' : Shared), CXany P [] H s (fun _ _ _ => False) e s' → False := fun H s e s' ⟨w, a, B, H', cls, d, _, _, _, _, _, _, _, z⟩ => z
theorem fnok_any {P : Program} {w : World} {K : PySem.W.Frag} {mg : Str → Option Value} {base : Heap} {k : Nat} {f : Addr} {fd : FuncData} {ps : List Str} {sp : Sp} (F : FnOk P w K mg base (L2.CX P w) k f fd ps sp) : FnOk P w K mg base (CXany P) k f fd ps sp :=
  ⟨F.len, fun A outer s H args us vs Q E hr e0 hb hv q => codeAny_mono (F.run A outer s H args us vs Q E hr e0 hb hv q) fun r s' h => by
    cases r with
    | error e => exact ⟨w, h⟩
    | ok fl => cases fl <;> exact h⟩
theorem law_F {P : Program} {T : Tab} {n fi k : Nat} {E : Ent} {x : Str} (ok : T.ok = true) (hE : T.ents[fi]? = some E) (hps : E.ps = [x])
    (hlaw : ∀ ns : List Int, ns.length ≤ n → runF T.fd k fi [.v (ro (ns.map .int))] = .ret (.v (.bool true)) []) (w : World) (mg : Str → Option Value) (fa : Addr) (h : Heap) (Y : ∃ K : PySem.W.Frag, K.In h ∧ SaysP T.fa T.fns T.ex K) (G : h.Ns mainGlobals mg) (hm : mg E.at_ = some (.ref fa)) :
    ∃ (K : PySem.W.Frag) (fd : FuncData) (sp : Sp), K.In h ∧ (∀ (s : Shared) (u : Value), BindsTo s fd ⟨[u], []⟩ [(x, u)]) ∧
        (∀ (H : Hp) (a : Addr) (ns : List Int), ns.length ≤ n → Only H → SqL K H a (ns.map V.int) → sp [.ref a] H (fun v _ => v = .bl true) fun _ _ _ => False) ∧
        ∀ base : Heap, K.In base → base.Ns mainGlobals mg → FnOk P w K mg base (CXany P) k fa fd [x] sp := by
  obtain ⟨K, X, cP⟩ := Y
  have c := cP.d
  have all : ∀ f : Nat, ∃ fd, ∀ E, T.ents[f]? = some E → Says T K f E fd := fun f => by
    cases e : T.ents[f]? with
    | none => exact ⟨default, fun E h => by cases h⟩
    | some E' =>
      obtain ⟨fd, hfd⟩ := says_at c f E' e
      exact ⟨fd, fun E h => by cases h; exact hfd⟩
  have hfd : ∀ f E, T.ents[f]? = some E → Says T K f E ((fun f => Classical.choose (all f)) f) := fun f => Classical.choose_spec (all f)
  generalize (fun f => Classical.choose (all f)) = fdO at hfd
  have hg : mg E.at_ = some (.ref (He.ga K E.at_)) := by
    refine He.glo_ok X G (SaysD_mem c (f := .glo E.at_) (List.mem_append_left _ (List.mem_map.mpr ⟨E.at_, ?_, rfl⟩)))
    exact List.mem_map.mpr ⟨E, List.mem_of_getElem? hE, rfl⟩
  rw [hm] at hg
  cases hg
  have hEok : entB T E = true := by
    unfold Tab.ok at ok
    have := (and2 ok).2
    rw [List.all_eq_true] at this
    exact this E (List.mem_of_getElem? hE)
  refine ⟨K, fdO fi, spF (T.gx K mg) (runF T.fd k) T.cn 1 fi, X, fun s u => ?_, fun H a ns hl hO hS => ?_, fun base _ _ => ?_⟩
  · unfold entB at hEok
    obtain ⟨h1, _⟩ := and2 hEok
    obtain ⟨h1, _⟩ := and2 h1
    obtain ⟨h1, _⟩ := and2 h1
    obtain ⟨h1, h2⟩ := and2 h1
    obtain ⟨h1, h3⟩ := and2 h1
    have b := FunD.bindsA (ps := E.ps) (hfd fi E hE) (fun kV doc pm an cdv ct us hl => binds_plain h1 (by
      have S := scB_ok h3
      have := S.nd.sublist (List.take_sublist E.ps.length E.N)
      rw [S.pre] at this
      exact this) hl) s [u] (by rw [hps]; rfl)
    rw [hps] at b
    exact b
  · refine ⟨rfl, H, [.v (ro (ns.map .int))], Same.refl _, .cons (.ro hS (RFs.of_ints ns)) .nil, fun i j a oi oj _ h1 _ m1 => ?_, ?_⟩
    · cases i with
      | zero => simp at h1; subst h1; cases m1
      | succ i => simp at h1
    · rw [hlaw ns hl]
      intro v Fz' H' _ r _ _ _
      cases r with
      | v r => cases r; rfl
  · have := tab_ok (base := base) (P := P) (w := w) X G cP ok fdO hfd k fi E hE
    rw [hps] at this
    exact fnok_any this
end Pv
-- PvSym
set_option maxRecDepth 100000
namespace Pv
open PySem L2
/-- a while's test, its turn -/
def whlC (cf : Nat → List Ob → CR) (lk : List Nat) (c : IE) (env : En) : Rs Bool := evT cf lk c env
def whlB (cf : Nat → List Ob → CR) (lk : List Nat) (b : ISs) (env : En) : Rs Fl := evSs cf lk b env
/-- a turn of a for -/
def forT (cf : Nat → List Ob → CR) (lk : List Nat) (tg : List Nat ⊕ Nat) (b : ISs) (d : PV) (env : En) : Rs Fl := match setTg env tg d with
  | some env => evSs cf lk b env
  | none => .no
section
variable {cf : Nat → List Ob → CR} {lk : List Nat} {env : En}
@[simp] theorem y_c {d : PV} : evE cf lk (.c d) env = .ok (.v d) env := by rw [evE]
@[simp] theorem y_f {n : Nat} : evE cf lk (.f n) env = .ok (.fn n) env := by rw [evE]
@[simp] theorem y_x {i : Nat} : evE cf lk (.x i) env = readX env i := by rw [evE]
@[simp] theorem y_tup {es : IEs} : evE cf lk (.tup es) env = (evF cf lk es env).bind fun ds env => if ds.length ≤ lim then .ok (.v (.tuple ds)) env else .no := by rw [evE]
@[simp] theorem y_lst {es : IEs} : evE cf lk (.lst es) env = (evF cf lk es env).bind fun ds env => if ds.length ≤ lim then .ok (.ml ds) env else .no := by rw [evE]
@[simp] theorem y_op {o : Op} {es : IEs} : evE cf lk (.op o es) env = (evA cf lk es env).bind fun as env => optR (((resolve env (as.map (·.2))).bind views).bind (opf o)) env := by rw [evE]
@[simp] theorem y_and {a b : IE} : evE cf lk (.and a b) env = (evE cf lk a env).bind fun o env => (truR o env).bind fun k env => if k then evE cf lk b env else .ok o env := by rw [evE]
@[simp] theorem y_or {a b : IE} : evE cf lk (.or a b) env = (evE cf lk a env).bind fun o env => (truR o env).bind fun k env => if k then .ok o env else evE cf lk b env := by rw [evE]
@[simp] theorem y_not {a : IE} : evE cf lk (.not a) env = (evE cf lk a env).bind fun o env => (truR o env).bind fun k env => .ok (.v (.bool (!k))) env := by rw [evE]
@[simp] theorem y_ite {c a b : IE} : evE cf lk (.ite c a b) env = (evE cf lk c env).bind fun o env => (truR o env).bind fun k env => if k then evE cf lk a env else evE cf lk b env := by rw [evE]
@[simp] theorem y_chain {o1 o2 : Op} {a b c : IE} : evE cf lk (.chain o1 o2 a b c) env = (evE cf lk a env).bind fun oa env => (evE cf lk b env).bind fun ob env =>
      match oa.view, ob.view with
      | some da, some db => (match cmpf o1 da db with
        | some true => (evE cf lk c env).bind fun oc env => optR ((oc.view.bind fun dc => cmpf o2 db dc).map fun k => .v (.bool k)) env
        | some false => .ok (.v (.bool false)) env
        | none => .no)
      | _, _ => .no := by
  rw [evE]
  all_goals congr 1
@[simp] theorem y_sl2 {a : IEs} {lo hi : IE} : evE cf lk (.sl2 a lo hi) env = (evA cf lk a env).bind fun as env => (evE cf lk lo env).bind fun ol env => match ol with
      | .v (.int i) => (evE cf lk hi env).bind fun oh env => (match oh with
        | .v (.int j) => optR (((resolve env (as.map (·.2))).bind views).bind fun ds => match ds with
          | [d] => slicef d (some i) (some j)
          | _ => none) env
        | _ => .no)
      | _ => .no := by rw [evE] <;> rfl
@[simp] theorem y_meth {m : Mt} {a es : IEs} : evE cf lk (.meth m a es) env = (evA cf lk a env).bind fun l env => if methL m env l then (evF cf lk es env).bind fun ds env => optR (((resolve env (l.map (·.2))).bind views).bind (methG m ds)) env else .no := by rw [evE]
@[simp] theorem y_call {f : Nat} {es : IEs} : evE cf lk (.call f es) env = (evC cf lk es env).bind fun as env => doCall cf f as env := by rw [evE]
@[simp] theorem y_callk {f : Nat} {p : List Nat} {es : IEs} : evE cf lk (.callk f p es) env = (evF cf lk es env).bind fun ds env => doCallK cf f p ds env := by rw [evE]
@[simp] theorem y_calls {f : Nat} {e : IE} : evE cf lk (.calls f e) env = (evE cf lk e env).bind fun o env => (fzR o env).bind fun d env => doCallS cf f d env := by rw [evE]
@[simp] theorem y_callf {fs : List Nat} {i : Nat} {es : IEs} : evE cf lk (.callf fs i es) env = match env[i]? with
    | some (some (.v (.int j))) => (match atI fs j with
      | some f => (evF cf lk es env).bind fun ds env => endCall [] env (cf f (ds.map .v))
      | none => .no)
    | _ => .no := by rw [evE] <;> rfl
@[simp] theorem y_popi {i : Nat} {e : IE} : evE cf lk (.popi i e) env = if isMl env i then (evE cf lk e env).bind fun o env => (fzR o env).bind fun d env => popAt i d env else .no := by rw [evE] <;> rfl
@[simp] theorem y_A1callf {fs : List Nat} {i : Nat} {es : IEs} : evA1 cf lk (.callf fs i es) env = (evE cf lk (.callf fs i es) env).bind fun o env => .ok (.inr o) env := by rw [evA1]; simp only [IE.isX]
@[simp] theorem y_A1popi {i : Nat} {e : IE} : evA1 cf lk (.popi i e) env = (evE cf lk (.popi i e) env).bind fun o env => .ok (.inr o) env := by rw [evA1]; simp only [IE.isX]
@[simp] theorem y_rcallf {fs : List Nat} {i : Nat} {es : IEs} : retO cf lk (.callf fs i es) env = evE cf lk (.callf fs i es) env := by rw [retO]; simp only [IE.isX]
@[simp] theorem y_rpopi {i : Nat} {e : IE} : retO cf lk (.popi i e) env = evE cf lk (.popi i e) env := by rw [retO]; simp only [IE.isX]
@[simp] theorem y_A1calls {f : Nat} {e : IE} : evA1 cf lk (.calls f e) env = (evE cf lk (.calls f e) env).bind fun o env => .ok (.inr o) env := by rw [evA1]; simp only [IE.isX]
@[simp] theorem y_rcalls {f : Nat} {e : IE} : retO cf lk (.calls f e) env = evE cf lk (.calls f e) env := by rw [retO]; simp only [IE.isX]
@[simp] theorem y_pop {i : Nat} : evE cf lk (.pop i) env = match env[i]? with
    | some (some (.ml xs)) => (match xs.getLast? with
      | some d => .ok (.v d) (env.set i (some (.ml xs.dropLast)))
      | none => .no)
    | _ => .no := by rw [evE] <;> rfl
theorem y_lc {own : List Nat} {tg : List Nat ⊕ Nat} {it : IT} {cond : IEs} {elt : IE} : evE cf lk (.lc own tg it cond elt) env = if own.any (fun i => lk.contains i) then .no else (evIt cf lk it env).bind fun ds env0 =>
      (loopL (turnL own tg (fun env => evK cf lk cond env) (fun env => evE cf lk elt env)) ds [] (wipeL env0 own)).bind fun acc env1 => .ok (.ml acc) (restore env0 env1 own) := by rw [evE]
@[simp] theorem y_k0 : evK cf lk .nil env = .ok true env := by rw [evK]
@[simp] theorem y_k1 {io : Bool} {e : IE} {r : IEs} : evK cf lk (.cons io e r) env = (evE cf lk e env).bind truR := by rw [evK]
@[simp] theorem y_f0 : evF cf lk .nil env = .ok [] env := by rw [evF]
@[simp] theorem y_f1 {io : Bool} {e : IE} {es : IEs} : evF cf lk (.cons io e es) env = (evE cf lk e env).bind fun o env => (fzR o env).bind fun d env => (evF cf lk es env).bind fun ds env => .ok (d :: ds) env := by rw [evF]
@[simp] theorem y_o0 : evO cf lk .nil env = .ok [] env := by rw [evO]
@[simp] theorem y_o1 {io : Bool} {e : IE} {es : IEs} : evO cf lk (.cons io e es) env = (evE cf lk e env).bind fun o env => (evO cf lk es env).bind fun os env => .ok (fzIf io o :: os) env := by rw [evO]
@[simp] theorem y_a0 : evA cf lk .nil env = .ok [] env := by rw [evA]
@[simp] theorem y_a1 {io : Bool} {e : IE} {es : IEs} : evA cf lk (.cons io e es) env = (evA1 cf lk e env).bind fun ag env => (evA cf lk es env).bind fun as env => .ok ((io, ag) :: as) env := evA_cons ..
@[simp] theorem y_C0 : evC cf lk .nil env = .ok [] env := by rw [evC]
@[simp] theorem y_C1 {io : Bool} {e : IE} {es : IEs} : evC cf lk (.cons io e es) env = (evC1 cf lk io e env).bind fun ag env => (evC cf lk es env).bind fun as env => .ok ((io, ag) :: as) env := evC_cons ..
@[simp] theorem y_Ct {e : IE} : evC1 cf lk true e env = evA1 cf lk e env := rfl
@[simp] theorem y_Cf {e : IE} : evC1 cf lk false e env = (evE cf lk e env).bind fun o env => .ok (.inr o.frozen) env := rfl
@[simp] theorem y_A1x {i : Nat} : evA1 cf lk (.x i) env = match env[i]? with
    | some (some _) => .ok (.inl i) env
    | _ => .no := by rw [evA1]; simp only [IE.isX] <;> rfl
theorem y_A1n {e : IE} (h : e.isX = none) : evA1 cf lk e env = (evE cf lk e env).bind fun o env => .ok (.inr o) env := by rw [evA1, h]
@[simp] theorem y_A1c {d : PV} : evA1 cf lk (.c d) env = .ok (.inr (.v d)) env := by rw [y_A1n rfl]; simp
@[simp] theorem y_A1f {n : Nat} : evA1 cf lk (.f n) env = .ok (.inr (.fn n)) env := by rw [y_A1n rfl]; simp
@[simp] theorem y_A1tup {es : IEs} : evA1 cf lk (.tup es) env = (evE cf lk (.tup es) env).bind fun o env => .ok (.inr o) env := y_A1n rfl
@[simp] theorem y_A1lst {es : IEs} : evA1 cf lk (.lst es) env = (evE cf lk (.lst es) env).bind fun o env => .ok (.inr o) env := y_A1n rfl
@[simp] theorem y_A1op {o : Op} {es : IEs} : evA1 cf lk (.op o es) env = (evE cf lk (.op o es) env).bind fun o env => .ok (.inr o) env := y_A1n rfl
@[simp] theorem y_A1and {a b : IE} : evA1 cf lk (.and a b) env = (evE cf lk (.and a b) env).bind fun o env => .ok (.inr o) env := y_A1n rfl
@[simp] theorem y_A1or {a b : IE} : evA1 cf lk (.or a b) env = (evE cf lk (.or a b) env).bind fun o env => .ok (.inr o) env := y_A1n rfl
@[simp] theorem y_A1not {a : IE} : evA1 cf lk (.not a) env = (evE cf lk (.not a) env).bind fun o env => .ok (.inr o) env := y_A1n rfl
@[simp] theorem y_A1ite {a b c : IE} : evA1 cf lk (.ite a b c) env = (evE cf lk (.ite a b c) env).bind fun o env => .ok (.inr o) env := y_A1n rfl
@[simp] theorem y_A1chain {o1 o2 : Op} {a b c : IE} : evA1 cf lk (.chain o1 o2 a b c) env = (evE cf lk (.chain o1 o2 a b c) env).bind fun o env => .ok (.inr o) env := y_A1n rfl
@[simp] theorem y_A1sl2 {as : IEs} {b c : IE} : evA1 cf lk (.sl2 as b c) env = (evE cf lk (.sl2 as b c) env).bind fun o env => .ok (.inr o) env := y_A1n rfl
@[simp] theorem y_A1meth {m : Mt} {as es : IEs} : evA1 cf lk (.meth m as es) env = (evE cf lk (.meth m as es) env).bind fun o env => .ok (.inr o) env := y_A1n rfl
@[simp] theorem y_A1call {f : Nat} {es : IEs} : evA1 cf lk (.call f es) env = (evE cf lk (.call f es) env).bind fun o env => .ok (.inr o) env := y_A1n rfl
@[simp] theorem y_A1callk {f : Nat} {p : List Nat} {es : IEs} : evA1 cf lk (.callk f p es) env = (evE cf lk (.callk f p es) env).bind fun o env => .ok (.inr o) env := y_A1n rfl
@[simp] theorem y_A1pop {i : Nat} : evA1 cf lk (.pop i) env = (evE cf lk (.pop i) env).bind fun o env => .ok (.inr o) env := y_A1n rfl
@[simp] theorem y_A1lc {own : List Nat} {tg : List Nat ⊕ Nat} {it : IT} {cond : IEs} {elt : IE} : evA1 cf lk (.lc own tg it cond elt) env = (evE cf lk (.lc own tg it cond elt) env).bind fun o env => .ok (.inr o) env := y_A1n rfl
@[simp] theorem y_seq {e : IE} : evIt cf lk (.seq e) env = (evE cf lk e env).bind fun o env => (fzR o env).bind fun d env => optR (itemsOf d) env := by rw [evIt]
@[simp] theorem y_enum {e : IE} : evIt cf lk (.enum e) env = (evE cf lk e env).bind fun o env => (fzR o env).bind fun d env => optR ((listOf d).map (enumL 0)) env := by rw [evIt]
@[simp] theorem y_zip {a b : IE} : evIt cf lk (.zip a b) env = (evE cf lk a env).bind fun oa env => (fzR oa env).bind fun da env => (evE cf lk b env).bind fun ob env => (fzR ob env).bind fun db env => optR (zipOf da db) env := by rw [evIt]
@[simp] theorem y_range {es : IEs} : evIt cf lk (.range es) env = (evF cf lk es env).bind fun ds env => optR (rangeV ds) env := by rw [evIt]
@[simp] theorem y_T {e : IE} : evT cf lk e env = (evE cf lk e env).bind truR := rfl
@[simp] theorem y_z0 {o : Ob} : fzIf false o = o := rfl
@[simp] theorem y_z1 {o : Ob} : fzIf true o = o.frozen := rfl
@[simp] theorem y_read {i : Nat} : readX env i = match env[i]? with
  | some (some o) => .ok o.frozen (if o.mut then env.set i (some o.frozen) else env)
  | _ => .no := rfl
theorem y_fzv {d : PV} (h : isD d = false) : fzR (.v d) env = .ok d env := by cases d <;> first | rfl | (cases h)
@[simp] theorem y_fzi {i : Int} : fzR (.v (.int i)) env = .ok (.int i) env := rfl
@[simp] theorem y_fzb {i : Bool} : fzR (.v (.bool i)) env = .ok (.bool i) env := rfl
@[simp] theorem y_fzs {i : Str} : fzR (.v (.str i)) env = .ok (.str i) env := rfl
@[simp] theorem y_fzn : fzR (.v .none) env = .ok .none env := rfl
@[simp] theorem y_fzl {i : List PV} : fzR (.v (.list i)) env = .ok (.list i) env := rfl
@[simp] theorem y_fzt {i : List PV} : fzR (.v (.tuple i)) env = .ok (.tuple i) env := rfl
@[simp] theorem y_fzm {xs : List PV} : fzR (.ml xs) env = .ok (.list xs) env := rfl
@[simp] theorem y_dn : isD .none = false := rfl
@[simp] theorem y_db {b : Bool} : isD (.bool b) = false := rfl
@[simp] theorem y_di {b : Int} : isD (.int b) = false := rfl
@[simp] theorem y_ds {b : Str} : isD (.str b) = false := rfl
@[simp] theorem y_dl {b : List PV} : isD (.list b) = false := rfl
@[simp] theorem y_dt {b : List PV} : isD (.tuple b) = false := rfl
@[simp] theorem y_truv {d : PV} : truR (.v d) env = optR (truth d) env := rfl
@[simp] theorem y_trum {xs : List PV} : truR (.ml xs) env = .ok (!xs.isEmpty) env := rfl
@[simp] theorem y_tb {b : Bool} : truth (.bool b) = some b := rfl
@[simp] theorem y_tn : truth .none = some false := rfl
@[simp] theorem y_ti {i : Int} : truth (.int i) = some (i != 0) := rfl
@[simp] theorem y_tl {xs : List PV} : truth (.list xs) = some (!xs.isEmpty) := rfl
@[simp] theorem y_tt {xs : List PV} : truth (.tuple xs) = some (!xs.isEmpty) := rfl
@[simp] theorem y_mv {d : PV} : (Ob.v d).mut = false := rfl
@[simp] theorem y_mm {xs : List PV} : (Ob.ml xs).mut = true := rfl
@[simp] theorem y_mf {f : Nat} : (Ob.fn f).mut = false := rfl
@[simp] theorem y_vv {d : PV} : (Ob.v d).view = some d := rfl
@[simp] theorem y_vm {xs : List PV} : (Ob.ml xs).view = some (.list xs) := rfl
@[simp] theorem y_vf {f : Nat} : (Ob.fn f).view = none := rfl
@[simp] theorem y_zv {d : PV} : (Ob.v d).frozen = .v d := rfl
@[simp] theorem y_zm {xs : List PV} : (Ob.ml xs).frozen = .v (.list xs) := rfl
@[simp] theorem y_zf {f : Nat} : (Ob.fn f).frozen = .fn f := rfl
@[simp] theorem y_r0 : resolve env [] = some [] := rfl
@[simp] theorem y_rl {i : Nat} {r : List Ag} : resolve env (.inl i :: r) = match env[i]?, resolve env r with
    | some (some o), some os => some (o :: os)
    | _, _ => none := rfl
@[simp] theorem y_rr {o : Ob} {r : List Ag} : resolve env (.inr o :: r) = (resolve env r).map (o :: ·) := rfl
@[simp] theorem y_w0 : views [] = some [] := rfl
@[simp] theorem y_w1 {o : Ob} {r : List Ob} : views (o :: r) = match o.view, views r with
    | some d, some ds => some (d :: ds)
    | _, _ => none := rfl
@[simp] theorem y_o1' {o : Op} {a : PV} : opf o [a] = opf1 o a := rfl
@[simp] theorem y_o2' {o : Op} {a b : PV} : opf o [a, b] = opf2 o a b := rfl
@[simp] theorem y_ss0 : evSs cf lk .nil env = .ok .nx env := by rw [evSs]
@[simp] theorem y_ss1 {s : IS} {r : ISs} : evSs cf lk (.cons s r) env = (evS cf lk s env).bind fun fl env => match fl with
    | .nx => evSs cf lk r env
    | fl => .ok fl env := by rw [evSs] <;> rfl
@[simp] theorem y_asg {z : Bool} {i : Nat} {e : IE} : evS cf lk (.asg z i e) env = if free lk i then (evE cf lk e env).bind fun o env => .ok .nx (env.set i (some (fzIf z o))) else .no := by rw [evS]
@[simp] theorem y_par {is : List Nat} {es : IEs} : evS cf lk (.par is es) env = if is.all (free lk) && decide is.Nodup then (evO cf lk es env).bind fun os env => (optR (setObs env is os) env).bind fun env' _ => .ok .nx env' else .no := by rw [evS]
@[simp] theorem y_unp {is : List Nat} {e : IE} : evS cf lk (.unp is e) env = if is.all (free lk) then (evE cf lk e env).bind fun o env => (match o with
      | .v (.tuple ds) => (optR (setTgs env is ds) env).bind fun env' _ => .ok .nx env'
      | _ => .no) else .no := by rw [evS] <;> rfl
@[simp] theorem y_unpn {i : Nat} {is : List Nat} {e : IE} : evS cf lk (.unpn i is e) env = if free lk i && is.all (free lk) then (evE cf lk e env).bind fun o env => (match o with
      | .v (.tuple [d, .tuple ds]) => (optR (setTgs (env.set i (some (.v d))) is ds) env).bind fun env' _ => .ok .nx env'
      | _ => .no) else .no := by rw [evS] <;> rfl
@[simp] theorem y_sub {i : Nat} {ix e : IE} : evS cf lk (.sub i ix e) env = (evE cf lk e env).bind fun o env => (fzR o env).bind fun d env => if isMl env i then (evE cf lk ix env).bind fun oi env => (match env[i]?, oi with
      | some (some (.ml xs)), .v (.int k) => (match ixN xs.length k with
        | some j => .ok .nx (env.set i (some (.ml (xs.set j d))))
        | none => .no)
      | _, _ => .no) else .no := by rw [evS] <;> rfl
@[simp] theorem y_ap {i : Nat} {e : IE} : evS cf lk (.ap i e) env = if isMl env i then (evE cf lk e env).bind fun o env => (fzR o env).bind fun d env => match env[i]? with
      | some (some (.ml xs)) => if xs.length < lim then .ok .nx (env.set i (some (.ml (xs ++ [d])))) else .no
      | _ => .no else .no := by rw [evS] <;> rfl
@[simp] theorem y_ext {i : Nat} {e : IE} : evS cf lk (.ext i e) env = if isMl env i then (evE cf lk e env).bind fun o env => match env[i]?, o.view with
      | some (some (.ml xs)), some (.list ys) => if xs.length + ys.length ≤ lim then .ok .nx (env.set i (some (.ml (xs ++ ys)))) else .no
      | _, _ => .no else .no := by rw [evS] <;> rfl
@[simp] theorem y_ex {e : IE} : evS cf lk (.ex e) env = (evE cf lk e env).bind fun _ env => .ok .nx env := by rw [evS]
@[simp] theorem y_ret {e : IE} : evS cf lk (.ret e) env = (retO cf lk e env).bind fun o env => .ok (.rt o) env := by rw [evS]
@[simp] theorem y_retn : evS cf lk .retn env = .ok (.rt (.v .none)) env := by rw [evS]
@[simp] theorem y_ifs {c : IE} {a b : ISs} : evS cf lk (.ite c a b) env = (evT cf lk c env).bind fun k env => if k then evSs cf lk a env else evSs cf lk b env := by rw [evS]
@[simp] theorem y_whl {c : IE} {b : ISs} : evS cf lk (.whl c b) env = whileN (whlC cf lk c) (whlB cf lk b) wfuel env := by rw [evS] <;> rfl
@[simp] theorem y_for {tg : List Nat ⊕ Nat} {it : IT} {b : ISs} : evS cf lk (.for_ tg it b) env = if freeTg lk tg then (evIt cf lk it env).bind fun ds env => forL (forT cf lk tg b) ds env else .no := by rw [evS] <;> rfl
@[simp] theorem y_brk : evS cf lk .brk env = .ok .bk env := by rw [evS]
@[simp] theorem y_cnt : evS cf lk .cnt env = .ok .ct env := by rw [evS]
@[simp] theorem y_pass : evS cf lk .pass env = .ok .nx env := by rw [evS]
@[simp] theorem y_raise {c : Nat} {es : IEs} : evS cf lk (.raise c es) env = (evF cf lk es env).bind fun ds env => .ex c ds env := by rw [evS]
@[simp] theorem y_tryr {nc c i : Nat} {m : Str} {b : ISs} : evS cf lk (.tryr nc c i m b) env = resTry nc c i m (evSs cf lk b env) := by rw [evS]
@[simp] theorem y_never : evS cf lk .never env = .no := by rw [evS]
@[simp] theorem y_retx {i : Nat} : retO cf lk (.x i) env = match env[i]? with
    | some (some o) => if free lk i && o.mut then .ok o (env.set i none) else readX env i
    | _ => .no := by rw [retO] <;> rfl
theorem y_retE {e : IE} (h : e.isX = none) : retO cf lk e env = evE cf lk e env := by rw [retO, h]
@[simp] theorem y_rc {d : PV} : retO cf lk (.c d) env = .ok (.v d) env := by rw [y_retE rfl]; simp
@[simp] theorem y_rtup {es : IEs} : retO cf lk (.tup es) env = evE cf lk (.tup es) env := y_retE rfl
@[simp] theorem y_rlst {es : IEs} : retO cf lk (.lst es) env = evE cf lk (.lst es) env := y_retE rfl
@[simp] theorem y_rop {o : Op} {es : IEs} : retO cf lk (.op o es) env = evE cf lk (.op o es) env := y_retE rfl
@[simp] theorem y_rand {a b : IE} : retO cf lk (.and a b) env = evE cf lk (.and a b) env := y_retE rfl
@[simp] theorem y_ror {a b : IE} : retO cf lk (.or a b) env = evE cf lk (.or a b) env := y_retE rfl
@[simp] theorem y_rnot {a : IE} : retO cf lk (.not a) env = evE cf lk (.not a) env := y_retE rfl
@[simp] theorem y_rite {a b c : IE} : retO cf lk (.ite a b c) env = evE cf lk (.ite a b c) env := y_retE rfl
@[simp] theorem y_rchain {o1 o2 : Op} {a b c : IE} : retO cf lk (.chain o1 o2 a b c) env = evE cf lk (.chain o1 o2 a b c) env := y_retE rfl
@[simp] theorem y_rsl2 {as : IEs} {b c : IE} : retO cf lk (.sl2 as b c) env = evE cf lk (.sl2 as b c) env := y_retE rfl
@[simp] theorem y_rmeth {m : Mt} {as es : IEs} : retO cf lk (.meth m as es) env = evE cf lk (.meth m as es) env := y_retE rfl
@[simp] theorem y_rcall {f : Nat} {es : IEs} : retO cf lk (.call f es) env = evE cf lk (.call f es) env := y_retE rfl
@[simp] theorem y_rcallk {f : Nat} {p : List Nat} {es : IEs} : retO cf lk (.callk f p es) env = evE cf lk (.callk f p es) env := y_retE rfl
@[simp] theorem y_rlc {own : List Nat} {tg : List Nat ⊕ Nat} {it : IT} {cond : IEs} {elt : IE} : retO cf lk (.lc own tg it cond elt) env = evE cf lk (.lc own tg it cond elt) env := y_retE rfl
@[simp] theorem y_doCall {f : Nat} {as : List (Bool × Ag)} : doCall cf f as env = match resolve env (as.map (·.2)) with
  | some os => if handsOk as os && decide (ioNames as).Nodup then endCall as env (cf f os) else .no
  | none => .no := rfl
@[simp] theorem y_doCallK {f : Nat} {p : List Nat} {ds : List PV} : doCallK cf f p ds env = match pickD ds p with
  | some args => if ds.length == p.length then endCall [] env (cf f (args.map .v)) else .no
  | none => .no := rfl
@[simp] theorem y_endR {as : List (Bool × Ag)} {o : Ob} {outs : List Ob} : endCall as env (.ret o outs) = match putBack env as outs with
    | some env' => .ok o env'
    | none => .no := rfl
@[simp] theorem y_endE {as : List (Bool × Ag)} {c : Nat} {xs : List PV} : endCall as env (.exc c xs) = .ex c xs (wipeL env (ioNames as)) := rfl
end
/-- a call's start -/
theorem y_run {T : Nat → Option FD} {k f : Nat} {d : FD} {args : List Ob} (hT : T f = some d) : runF T (k + 1) f args = if args.length == d.np && ioOk d.io 0 args then (match evSs (runF T k) d.io d.body (args.map some ++ List.replicate (d.ns - d.np) none) with
      | .ok fl env => (match outsOf env d.io, fl with
        | some outs, .nx => if outs.all Ob.mut then .ret (.v .none) outs else .no
        | some outs, .rt o => if outs.all Ob.mut then .ret o outs else .no
        | _, _ => .no)
      | .ex c as _ => .exc c as
      | .no => .no) else .no := by rw [runF, hT] <;> rfl
@[simp] theorem lim_nat : lim = 16777216 := by unfold lim; exact sizeLine_eq
@[simp] theorem eqf_tnil {xs : List PV} : eqf (.tuple xs) (.tuple []) = some xs.isEmpty := by
  cases xs <;> simp [eqf, eqOk, PyData.depth, PyData.depthAll, PyData.eqv, PyData.eqvAll]
@[simp] theorem eqf_lnil {xs : List PV} : eqf (.list xs) (.list []) = some xs.isEmpty := by
  cases xs <;> simp [eqf, eqOk, PyData.depth, PyData.depthAll, PyData.eqv, PyData.eqvAll]
@[simp] theorem eqf_ii {i j : Int} : eqf (.int i) (.int j) = some (i == j) := by simp [eqf, eqOk, PyData.depth, PyData.eqv]
@[simp] theorem nef_ii {i j : Int} : nef (.int i) (.int j) = some (i != j) := by simp [nef, eqOk, PyData.depth, PyData.eqv, bne]
@[simp] theorem nef_tnil {xs : List PV} : nef (.tuple xs) (.tuple []) = some (!xs.isEmpty) := by
  cases xs <;> simp [nef, eqOk, PyData.depth, PyData.depthAll, PyData.eqv, PyData.eqvAll]
@[simp] theorem nef_lnil {xs : List PV} : nef (.list xs) (.list []) = some (!xs.isEmpty) := by
  cases xs <;> simp [nef, eqOk, PyData.depth, PyData.depthAll, PyData.eqv, PyData.eqvAll]
end Pv
-- PvSym2
set_option maxRecDepth 100000
namespace Pv
open PySem L2
section
variable {cf : Nat → List Ob → CR} {lk : List Nat} {own : List Nat} {tg : List Nat ⊕ Nat}
theorem wipeL_some' : ∀ (l : List Nat) (env : En) (i : Nat), (wipeL env l)[i]? = if i ∈ l then (env[i]?).map (fun _ => none) else env[i]?
  | [], env, i => by simp [wipeL]
  | j :: l, env, i => by
    have : wipeL env (j :: l) = wipeL (env.set j none) l := rfl
    rw [this, wipeL_some' l]
    by_cases h : j = i
    · subst h
      by_cases hl : j < env.length
      · simp [List.getElem?_set_self hl, List.getElem?_eq_getElem hl]
      · simp [List.getElem?_eq_none (Nat.le_of_not_lt hl), List.getElem?_eq_none (l := env.set j none) (by rw [List.length_set]; exact Nat.le_of_not_lt hl)]
    · rw [List.getElem?_set_ne h]
      have : ¬ i = j := fun e => h e.symm
      simp [this]
theorem wipeL_idem (env : En) : wipeL (wipeL env own) own = wipeL env own := by
  apply List.ext_getElem?
  intro i
  rw [wipeL_some', wipeL_some']
  by_cases h : i ∈ own
  · simp only [h, if_true]
    cases env[i]? <;> rfl
  · simp only [h, if_false]
theorem turn_wipe {cnd : En → Rs Bool} {elt : En → Rs Ob} {d : PV} {acc : List PV} {env env0 : En} (h : wipeL env own = env0) (h0 : wipeL env0 own = env0) : turnL own tg cnd elt d acc env = turnL own tg cnd elt d acc env0 := by
  unfold turnL
  rw [h, h0]
theorem restore_out : ∀ (l : List Nat) (env0 env : En) (i : Nat), i ∉ l → (restore env0 env l)[i]? = env[i]?
  | [], _, _, _, _ => rfl
  | j :: l, env0, env, i, h => by
    simp only [List.mem_cons, not_or] at h
    rw [restore, restore_out l _ _ i h.2]
    split <;> rw [List.getElem?_set_ne (fun e => h.1 e.symm)]
theorem restore_in : ∀ (l : List Nat) (env0 env : En) (i : Nat), i ∈ l → i < env.length → env0[i]? = some none → (restore env0 env l)[i]? = some none
  | [], _, _, _, h, _, _ => by cases h
  | j :: l, env0, env, i, h, hl, h0 => by
    rw [restore]
    by_cases hi : i ∈ l
    · refine restore_in l env0 _ i hi ?_ h0
      split <;> (rw [List.length_set]; exact hl)
    · have e : i = j := by
        rcases List.mem_cons.mp h with e | e
        · exact e
        · exact absurd e hi
      subst e
      rw [restore_out l _ _ i hi]
      split
      · rename_i q
        rw [h0] at q; cases q
      · rw [List.getElem?_set_self hl]
theorem restore_same {env0 env : En} (h : wipeL env own = env0) : restore env0 env own = env0 := by
  have hlen : env.length = env0.length := by rw [← h, wipeL_length]
  apply List.ext_getElem?
  intro i
  by_cases hi : i ∈ own
  · by_cases hl : i < env.length
    · have h0 : env0[i]? = some none := by
        rw [← h, wipeL_some', if_pos hi, List.getElem?_eq_getElem hl]
        rfl
      rw [restore_in own env0 env i hi hl h0, h0]
    · have e1 : (restore env0 env own).length = env.length := restore_length ..
      rw [List.getElem?_eq_none (by rw [e1]; exact Nat.le_of_not_lt hl), List.getElem?_eq_none (by rw [← hlen]; exact Nat.le_of_not_lt hl)]
  · rw [restore_out own env0 env i hi, ← h, wipeL_some', if_neg hi]
/-- a comprehension's turns, told by g -/
theorem loop_fm {cnd : En → Rs Bool} {elt : En → Rs Ob} {env0 : En} (h0 : wipeL env0 own = env0) (g : PV → Option PV) :
    ∀ (ds acc : List PV) (env : En), wipeL env own = env0 → acc.length + ds.length ≤ lim → (∀ d ∈ ds, ∃ e1, setTg env0 tg d = some e1 ∧ match g d with
      | none => ∃ e2, cnd e1 = .ok false e2 ∧ wipeL e2 own = env0
      | some y => ∃ e2 o e3, cnd e1 = .ok true e2 ∧ elt e2 = .ok o e3 ∧ fzR o e3 = .ok y e3 ∧ wipeL e3 own = env0) →
    ∃ e', loopL (turnL own tg cnd elt) ds acc env = .ok (acc ++ ds.filterMap g) e' ∧ wipeL e' own = env0
  | [], acc, env, hw, _, _ => ⟨env, by rw [loopL]; simp, hw⟩
  | d :: ds, acc, env, hw, hl, h => by
    obtain ⟨e1, h1, h2⟩ := h d List.mem_cons_self
    rw [List.length_cons] at hl
    rw [loopL, turn_wipe hw h0]
    unfold turnL
    rw [h0, h1]
    cases e : g d with
    | none =>
      rw [e] at h2
      obtain ⟨e2, q1, q2⟩ := h2
      simp only [q1, Rs.bind_ok, Bool.false_eq_true, if_false]
      obtain ⟨e', r1, r2⟩ := loop_fm h0 g ds acc e2 q2 (by omega) fun d hd => h d (List.mem_cons_of_mem _ hd)
      unfold turnL at r1
      exact ⟨e', by rw [r1, List.filterMap_cons, e], r2⟩
    | some y =>
      rw [e] at h2
      obtain ⟨e2, o, e3, q1, q2, q3, q4⟩ := h2
      have hlt : acc.length < lim := by omega
      simp only [q1, q2, q3, Rs.bind_ok, if_true, hlt]
      obtain ⟨e', r1, r2⟩ := loop_fm h0 g ds (acc ++ [y]) e3 q4 (by rw [List.length_append, List.length_singleton]; omega) fun d hd => h d (List.mem_cons_of_mem _ hd)
      unfold turnL at r1
      exact ⟨e', by rw [r1, List.filterMap_cons, e, List.append_assoc]; rfl, r2⟩
theorem lc_fm {it : IT} {cond : IEs} {elt : IE} {env env0 : En} {ds : List PV} (g : PV → Option PV) (hlk : own.any (fun i => lk.contains i) = false) (hit : evIt cf lk it env = .ok ds env0) (h0 : wipeL env0 own = env0) (hl : ds.length ≤ lim)
    (h : ∀ d ∈ ds, ∃ e1, setTg env0 tg d = some e1 ∧ match g d with
      | none => ∃ e2, evK cf lk cond e1 = .ok false e2 ∧ wipeL e2 own = env0
      | some y => ∃ e2 o e3, evK cf lk cond e1 = .ok true e2 ∧ evE cf lk elt e2 = .ok o e3 ∧ fzR o e3 = .ok y e3 ∧ wipeL e3 own = env0) :
    evE cf lk (.lc own tg it cond elt) env = .ok (.ml (ds.filterMap g)) env0 := by
  rw [y_lc, hlk, hit]
  simp only [Bool.false_eq_true, if_false, Rs.bind_ok, h0]
  obtain ⟨e', r1, r2⟩ := loop_fm (cnd := fun env => evK cf lk cond env) (elt := fun env => evE cf lk elt env) h0 g ds [] env0 h0 (by simpa using hl) h
  rw [r1]
  simp only [Rs.bind_ok, List.nil_append]
  rw [restore_same r2]
/-- without a test -/
theorem lc_map {it : IT} {elt : IE} {env env0 : En} {ds : List PV} (f : PV → PV) (hlk : own.any (fun i => lk.contains i) = false) (hit : evIt cf lk it env = .ok ds env0) (h0 : wipeL env0 own = env0) (hl : ds.length ≤ lim)
    (h : ∀ d ∈ ds, ∃ e1 o e3, setTg env0 tg d = some e1 ∧ evE cf lk elt e1 = .ok o e3 ∧ fzR o e3 = .ok (f d) e3 ∧ wipeL e3 own = env0) :
    evE cf lk (.lc own tg it .nil elt) env = .ok (.ml (ds.map f)) env0 := by
  have := lc_fm (cf := cf) (tg := tg) (cond := .nil) (elt := elt) (fun d => some (f d)) hlk hit h0 hl fun d hd => by
    obtain ⟨e1, o, e3, q1, q2, q3, q4⟩ := h d hd
    exact ⟨e1, q1, e1, o, e3, by simp, q2, q3, q4⟩
  rw [this]
  congr 2
  clear h hl hit this
  induction ds with
  | nil => rfl
  | cons d ds ih => rw [List.filterMap_cons, List.map_cons, ih]
/-- a for, its turns told by a state -/
theorem for_fold {S : Type} (envOf : S → En) (step : S → PV → S) {turn : PV → En → Rs Fl} : ∀ (ds : List PV) (s : S), (∀ s, ∀ d ∈ ds, turn d (envOf s) = .ok .nx (envOf (step s d))) → forL turn ds (envOf s) = .ok .nx (envOf (ds.foldl step s))
  | [], s, _ => by rw [forL]; rfl
  | d :: ds, s, h => by
    rw [forL, h s d List.mem_cons_self]
    exact for_fold envOf step ds (step s d) fun s q hq => h s q (List.mem_cons_of_mem _ hq)
/-- over encoded items -/
theorem loop_fmE {α : Type} (en : α → PV) {cnd : En → Rs Bool} {elt : En → Rs Ob} {env0 : En} (h0 : wipeL env0 own = env0) (g : α → Option PV) :
    ∀ (ds : List α) (acc : List PV) (env : En), wipeL env own = env0 → acc.length + ds.length ≤ lim → (∀ d ∈ ds, ∃ e1, setTg env0 tg (en d) = some e1 ∧ match g d with
      | none => ∃ e2, cnd e1 = .ok false e2 ∧ wipeL e2 own = env0
      | some y => ∃ e2 o e3, cnd e1 = .ok true e2 ∧ elt e2 = .ok o e3 ∧ fzR o e3 = .ok y e3 ∧ wipeL e3 own = env0) →
    ∃ e', loopL (turnL own tg cnd elt) (ds.map en) acc env = .ok (acc ++ ds.filterMap g) e' ∧ wipeL e' own = env0
  | [], acc, env, hw, _, _ => ⟨env, by rw [List.map_nil, loopL]; simp, hw⟩
  | d :: ds, acc, env, hw, hl, h => by
    obtain ⟨e1, h1, h2⟩ := h d List.mem_cons_self
    rw [List.length_cons] at hl
    rw [List.map_cons, loopL, turn_wipe hw h0]
    unfold turnL
    rw [h0, h1]
    cases e : g d with
    | none =>
      rw [e] at h2
      obtain ⟨e2, q1, q2⟩ := h2
      simp only [q1, Rs.bind_ok, Bool.false_eq_true, if_false]
      obtain ⟨e', r1, r2⟩ := loop_fmE en h0 g ds acc e2 q2 (by omega) fun d hd => h d (List.mem_cons_of_mem _ hd)
      unfold turnL at r1
      exact ⟨e', by rw [r1, List.filterMap_cons, e], r2⟩
    | some y =>
      rw [e] at h2
      obtain ⟨e2, o, e3, q1, q2, q3, q4⟩ := h2
      have hlt : acc.length < lim := by omega
      simp only [q1, q2, q3, Rs.bind_ok, if_true, hlt]
      obtain ⟨e', r1, r2⟩ := loop_fmE en h0 g ds (acc ++ [y]) e3 q4 (by rw [List.length_append, List.length_singleton]; omega) fun d hd => h d (List.mem_cons_of_mem _ hd)
      unfold turnL at r1
      exact ⟨e', by rw [r1, List.filterMap_cons, e, List.append_assoc]; rfl, r2⟩
theorem lc_fmE {α : Type} (en : α → PV) {it : IT} {cond : IEs} {elt : IE} {env env0 : En} {ds : List α} (g : α → Option PV) (hlk : own.any (fun i => lk.contains i) = false) (hit : evIt cf lk it env = .ok (ds.map en) env0) (h0 : wipeL env0 own = env0) (hl : ds.length ≤ lim)
    (h : ∀ d ∈ ds, ∃ e1, setTg env0 tg (en d) = some e1 ∧ match g d with
      | none => ∃ e2, evK cf lk cond e1 = .ok false e2 ∧ wipeL e2 own = env0
      | some y => ∃ e2 o e3, evK cf lk cond e1 = .ok true e2 ∧ evE cf lk elt e2 = .ok o e3 ∧ fzR o e3 = .ok y e3 ∧ wipeL e3 own = env0) :
    evE cf lk (.lc own tg it cond elt) env = .ok (.ml (ds.filterMap g)) env0 := by
  rw [y_lc, hlk, hit]
  simp only [Bool.false_eq_true, if_false, Rs.bind_ok, h0]
  obtain ⟨e', r1, r2⟩ := loop_fmE (cnd := fun env => evK cf lk cond env) (elt := fun env => evE cf lk elt env) en h0 g ds [] env0 h0 (by simpa using hl) h
  rw [r1]
  simp only [Rs.bind_ok, List.nil_append]
  rw [restore_same r2]
theorem lc_mapE {α : Type} (en : α → PV) {it : IT} {elt : IE} {env env0 : En} {ds : List α} (f : α → PV) (hlk : own.any (fun i => lk.contains i) = false) (hit : evIt cf lk it env = .ok (ds.map en) env0) (h0 : wipeL env0 own = env0) (hl : ds.length ≤ lim)
    (h : ∀ d ∈ ds, ∃ e1 o e3, setTg env0 tg (en d) = some e1 ∧ evE cf lk elt e1 = .ok o e3 ∧ fzR o e3 = .ok (f d) e3 ∧ wipeL e3 own = env0) :
    evE cf lk (.lc own tg it .nil elt) env = .ok (.ml (ds.map f)) env0 := by
  have := lc_fmE (cf := cf) (tg := tg) en (cond := .nil) (elt := elt) (fun d => some (f d)) hlk hit h0 hl fun d hd => by
    obtain ⟨e1, o, e3, q1, q2, q3, q4⟩ := h d hd
    exact ⟨e1, q1, e1, o, e3, by simp, q2, q3, q4⟩
  rw [this]
  congr 2
  clear h hl hit this
  induction ds with
  | nil => rfl
  | cons d ds ih => rw [List.filterMap_cons, List.map_cons, ih]
end
end Pv
-- bodies
namespace Pv
open PySem L2
/-- in k00 k01 k02 k03 k04 k05 k06 k07 k08 k09 k10 k11 k12 k13 k14 k15 k16 k17 k18 k19 k20 k26 k27 k28 k29 k30 k31 k32 k33 k34 k35 k36 k37 k38 k39 k40 k41 k42 k43 k44 k45 k46 k47 k49 k51 k52 k53 k54 k55 k56 k57 k58 k59 k60 k61 -/
def q_tupled (f0 : Nat) : ISs := (.cons (.ret (.ite (.op .isSeq (.cons false (.x 0) .nil)) (.op .tuple (.cons false (.lc [1] (.inr 1) (.seq (.x 0)) .nil (.call f0 (.cons false (.x 1) .nil))) .nil)) (.x 0)))
    .nil)
/-- in k00 k01 k02 k03 k04 k05 k06 k07 k08 k09 k10 k11 k12 k13 k14 k15 k16 k17 k18 k19 k20 k21 k22 k23 k24 k25 k26 k27 k28 k29 k30 k31 k32 k33 k34 k35 k36 k37 k38 k39 k40 k41 k42 k43 k44 k45 k46 k47 k48 k49 k51 k54 k55 k56 k57 k58 k59 k60 k61 -/
def q_law_box (cc : Int) : ISs := (.cons (.asg true 2 (.ite (.op .lt (.cons false (.x 1) (.cons false (.op .len (.cons false (.x 0) .nil)) .nil))) (.op .idx (.cons false (.x 0) (.cons false (.x 1) .nil))) (.c (.int 0))))
    (.cons (.ret (.lst (.cons false (.op .mul (.cons false (.op .abs (.cons false (.x 2) .nil)) (.cons false (.op .int (.cons false (.op .ge (.cons false (.op .abs (.cons false (.x 2) .nil)) (.cons false (.op .pow (.cons false (.c (.int 10)) (.cons false (.c (.int 18)) .nil))) .nil))) .nil)) .nil))) (.cons false (.op .add (.cons false (.op .add (.cons false (.op .mod (.cons false (.op .int (.cons false (.x 2) .nil)) (.cons false (.c (.int 2305843009213693951)) .nil))) (.cons false (.op .mul (.cons false (.c (.int 39373)) (.cons false (.x 1) .nil))) .nil))) (.cons false (.c (.int cc)) .nil))) (.cons false (.c (.int 0)) .nil)))))
    .nil))
/-- in k00 k01 k02 k03 k04 k05 k06 k07 k08 k09 k10 k11 k12 k13 k14 k15 k16 k17 k18 k19 k20 k21 k22 k23 k24 k25 k26 k27 k28 k29 k30 k31 k32 k33 k34 k35 k36 k37 k38 k39 k40 k41 k42 k43 k44 k45 k46 k47 k48 k49 k51 k54 k55 k56 k57 k58 k59 k60 k61 -/
def q_law_take : ISs := (.cons (.ite (.op .gt (.cons false (.op .idx (.cons false (.x 0) (.cons false (.c (.int 0)) .nil))) (.cons false (.c (.int 0)) .nil))) (.cons (.asg true 2 (.op .mod (.cons false (.op .int (.cons false (.op .idx (.cons false (.x 0) (.cons false (.c (.int 0)) .nil))) .nil)) (.cons false (.x 1) .nil))))
    (.cons (.sub 0 (.c (.int 0)) (.op .fdiv (.cons false (.op .idx (.cons false (.x 0) (.cons false (.c (.int 0)) .nil))) (.cons false (.x 1) .nil))))
    (.cons (.ret (.x 2))
    .nil))) .nil)
    (.cons (.sub 0 (.c (.int 2)) (.op .add (.cons false (.op .idx (.cons false (.x 0) (.cons false (.c (.int 2)) .nil))) (.cons false (.c (.int 1)) .nil))))
    (.cons (.asg true 3 (.op .mod (.cons false (.op .int (.cons false (.op .mul (.cons false (.op .add (.cons false (.op .idx (.cons false (.x 0) (.cons false (.c (.int 1)) .nil))) (.cons false (.op .mul (.cons false (.c (.int 48271)) (.cons false (.op .idx (.cons false (.x 0) (.cons false (.c (.int 2)) .nil))) .nil))) .nil))) (.cons false (.op .add (.cons false (.c (.int 39373)) (.cons false (.op .idx (.cons false (.x 0) (.cons false (.c (.int 2)) .nil))) .nil))) .nil))) .nil)) (.cons false (.c (.int 2147483647)) .nil))))
    (.cons (.asg true 4 (.op .add (.cons false (.op .mod (.cons false (.op .int (.cons false (.x 3) .nil)) (.cons false (.c (.int 40009)) .nil))) (.cons false (.c (.int 7)) .nil))))
    (.cons (.asg true 5 (.op .mod (.cons false (.op .int (.cons false (.op .mul (.cons false (.op .add (.cons false (.op .add (.cons false (.x 3) (.cons false (.op .idx (.cons false (.x 0) (.cons false (.c (.int 2)) .nil))) .nil))) (.cons false (.op .fdiv (.cons false (.op .idx (.cons false (.x 0) (.cons false (.c (.int 1)) .nil))) (.cons false (.c (.int 1000003)) .nil))) .nil))) (.cons false (.x 4) .nil))) .nil)) (.cons false (.c (.int 2147483629)) .nil))))
    (.cons (.ret (.op .mod (.cons false (.op .int (.cons false (.op .fdiv (.cons false (.op .mod (.cons false (.op .int (.cons false (.op .add (.cons false (.op .mul (.cons false (.x 5) (.cons false (.c (.int 48271)) .nil))) (.cons false (.x 3) .nil))) .nil)) (.cons false (.c (.int 2147483587)) .nil))) (.cons false (.c (.int 64)) .nil))) .nil)) (.cons false (.x 1) .nil))))
    .nil))))))
/-- in k00 k01 k02 k03 k04 k05 k06 k07 k08 k09 k10 k11 k12 k13 k14 k15 k16 k17 k18 k19 k20 k21 k22 k23 k24 k25 k26 k27 k28 k29 k30 k31 k32 k33 k34 k35 k36 k37 k38 k39 k40 k41 k42 k43 k44 k45 k46 k47 k48 k49 k51 k54 k55 k56 k57 k58 k59 k60 k61 -/
def q_law_cells : ISs := (.cons (.asg false 2 (.or (.op .list (.cons false (.op (.slice false true) (.cons false (.x 0) (.cons false (.x 1) .nil))) .nil)) (.lst (.cons false (.c (.int 0)) .nil))))
    (.cons (.for_ (.inl [3, 4]) (.enum (.sl2 (.cons false (.x 0) .nil) (.x 1) (.c (.int 63)))) (.cons (.asg true 5 (.op .mod (.cons false (.op .int (.cons false (.x 3) .nil)) (.cons false (.x 1) .nil))))
    (.cons (.sub 2 (.x 5) (.op .add (.cons false (.op .idx (.cons false (.x 2) (.cons false (.x 5) .nil))) (.cons false (.op .mul (.cons false (.x 4) (.cons false (.op .add (.cons false (.x 3) (.cons false (.c (.int 2)) .nil))) .nil))) .nil))))
    .nil)))
    (.cons (.ret (.x 2))
    .nil)))
/-- in k00 k01 k03 k04 k05 k06 k07 k08 k14 k15 k16 k17 k18 k22 k23 k27 k31 k32 k33 k34 k35 k36 k37 k38 k39 k40 k41 k42 k43 k44 k45 k46 k47 k48 k49 k54 k56 k58 k60 k61 -/
def q_law_of (f0 : Nat) : ISs := (.cons (.ret (.op .idx (.cons false (.x 1) (.cons false (.call f0 (.cons true (.x 0) (.cons false (.op .len (.cons false (.x 1) .nil)) .nil))) .nil))))
    .nil)
/-- in k00 k01 k02 k03 k04 k06 k07 k09 k12 k14 k16 k17 k18 k19 k20 k26 k34 k35 k37 k38 k39 k40 k41 k44 k45 k46 k47 k49 k54 -/
def q_law_lists (f0 : Nat) : ISs := (.cons (.ret (.ite (.op .isSeq (.cons false (.x 0) .nil)) (.lc [1] (.inr 1) (.seq (.x 0)) .nil (.call f0 (.cons false (.x 1) .nil))) (.x 0)))
    .nil)
/-- in k00 k01 k02 k03 k04 k05 k06 k07 k08 k09 k10 k11 k12 k13 k14 k15 k16 k17 k18 k19 k20 k21 k22 k23 k24 k25 k26 k27 k28 k29 k30 k31 k32 k33 k34 k35 k36 k37 k38 k39 k40 k41 k42 k43 k44 k45 k46 k47 k48 k49 k51 k52 k53 k54 k55 k56 k57 k58 k59 k60 k61 -/
def q_law_same (f0 : Nat) : ISs := (.cons (.ite (.op .isSeq (.cons false (.x 1) .nil)) (.cons (.ite (.or (.op .ne (.cons false (.op .isList (.cons false (.x 0) .nil)) (.cons false (.op .isList (.cons false (.x 1) .nil)) .nil))) (.op .ne (.cons false (.op .isTuple (.cons false (.x 0) .nil)) (.cons false (.op .isTuple (.cons false (.x 1) .nil)) .nil)))) (.cons (.ret (.c (.bool false)))
    .nil) .nil)
    (.cons (.ret (.and (.op .eq (.cons false (.op .len (.cons false (.x 0) .nil)) (.cons false (.op .len (.cons false (.x 1) .nil)) .nil))) (.op .all (.cons false (.lc [2, 3] (.inl [2, 3]) (.zip (.x 0) (.x 1)) .nil (.call f0 (.cons false (.x 2) (.cons false (.x 3) .nil)))) .nil))))
    .nil)) .nil)
    (.cons (.ite (.op .isN (.cons false (.x 1) (.cons false (.c .none) .nil))) (.cons (.ret (.op .isN (.cons false (.x 0) (.cons false (.c .none) .nil))))
    .nil) .nil)
    (.cons (.ite (.op .isBoolStr (.cons false (.x 1) .nil)) (.cons (.ret (.and (.op .eq (.cons false (.op .isBool (.cons false (.x 0) .nil)) (.cons false (.op .isBool (.cons false (.x 1) .nil)) .nil))) (.and (.op .eq (.cons false (.op .isStr (.cons false (.x 0) .nil)) (.cons false (.op .isStr (.cons false (.x 1) .nil)) .nil))) (.op .eq (.cons false (.x 0) (.cons false (.x 1) .nil))))))
    .nil) .nil)
    (.cons (.ret (.and (.op .isInt (.cons false (.x 0) .nil)) (.and (.not (.op .isBool (.cons false (.x 0) .nil))) (.op .eq (.cons false (.x 0) (.cons false (.x 1) .nil))))))
    .nil))))
/-- in k00 k03 k04 k06 k14 k16 k18 k32 k47 k48 k51 k54 k58 -/
def q_law_unmarked : ISs := (.cons (.ret (.ite (.and (.op .isList (.cons false (.x 0) .nil)) (.and (.op .gt (.cons false (.op .len (.cons false (.x 0) .nil)) (.cons false (.c (.int 0)) .nil))) (.op .isStr (.cons false (.op .idx (.cons false (.x 0) (.cons false (.c (.int 0)) .nil))) .nil)))) (.lst (.cons false (.c (.str "told")) (.cons false (.c (.str "a mark")) .nil))) (.x 0)))
    .nil)
/-- in k00 k01 k02 k03 k04 k05 k06 k07 k09 k14 k15 k16 k17 k18 k19 k26 k27 k31 k33 k35 k44 k45 k46 k47 k48 k49 k54 k56 k58 k59 k60 k61 -/
def q_law_net (f0 : Nat) : ISs := (.cons (.asg true 2 (.op .mul (.cons false (.lst (.cons false (.tup .nil) .nil)) (.cons false (.x 1) .nil))))
    (.cons (.for_ (.inr 3) (.range (.cons false (.op .sub (.cons false (.x 1) (.cons false (.c (.int 1)) .nil))) .nil)) (.cons (.asg true 4 (.call f0 (.cons true (.x 0) (.cons false (.op .sub (.cons false (.op .len (.cons false (.x 2) .nil)) (.cons false (.c (.int 1)) .nil))) .nil))))
    (.cons (.asg true 2 (.op .add (.cons false (.op .add (.cons false (.op (.slice false true) (.cons false (.x 2) (.cons false (.x 4) .nil))) (.cons false (.lst (.cons false (.tup (.cons false (.op .idx (.cons false (.x 2) (.cons false (.x 4) .nil))) (.cons false (.op .idx (.cons false (.x 2) (.cons false (.op .add (.cons false (.x 4) (.cons false (.c (.int 1)) .nil))) .nil))) .nil))) .nil)) .nil))) (.cons false (.op (.slice true false) (.cons false (.x 2) (.cons false (.op .add (.cons false (.x 4) (.cons false (.c (.int 2)) .nil))) .nil))) .nil))))
    .nil)))
    (.cons (.ret (.op .idx (.cons false (.x 2) (.cons false (.c (.int 0)) .nil))))
    .nil)))
/-- in k01 k02 k03 k04 k05 k06 k07 k08 k09 k14 k15 k16 k17 k18 k19 k20 k21 k26 k27 k30 k31 k32 k33 k34 k35 k36 k37 k38 k39 k40 k41 k42 k43 k44 k45 k46 k47 k49 k51 k52 k53 k54 k55 k56 k57 k58 k59 k60 k61 -/
def q_is_long : ISs := (.cons (.ret (.and (.op .isTuple (.cons false (.x 0) .nil)) (.op .eq (.cons false (.op .len (.cons false (.x 0) .nil)) (.cons false (.x 1) .nil)))))
    .nil)
/-- in k01 k02 k03 k04 k05 k06 k07 k08 k09 k14 k15 k16 k17 k18 k19 k26 k27 k32 k33 k35 k43 k44 k45 k46 k47 k49 k51 k52 k53 k54 k55 k56 k58 k59 k60 k61 -/
def q_is_bush_in (f0 f1 : Nat) : ISs := (.cons (.ite (.not (.op .isTuple (.cons false (.x 0) .nil))) (.cons (.ret (.c (.bool false)))
    .nil) .nil)
    (.cons (.ret (.or (.op .eq (.cons false (.x 0) (.cons false (.tup .nil) .nil))) (.and (.call f0 (.cons false (.x 0) (.cons false (.c (.int 2)) .nil))) (.and (.call f1 (.cons false (.op .idx (.cons false (.x 0) (.cons false (.c (.int 0)) .nil))) .nil)) (.call f1 (.cons false (.op .idx (.cons false (.x 0) (.cons false (.c (.int 1)) .nil))) .nil))))))
    .nil))
/-- in k01 k02 k03 k04 k05 k06 k07 k08 k09 k14 k15 k16 k17 k18 k19 k26 k27 k32 k33 k35 k43 k47 k49 k51 k52 k53 k54 k55 k56 k58 k59 k60 k61 -/
def q_sure_bush (f0 f1 : Nat) : ISs := (.cons (.asg true 1 (.call f0 (.cons false (.x 0) .nil)))
    (.cons (.ite (.not (.call f1 (.cons false (.x 1) .nil))) (.cons .never
    .nil) .nil)
    (.cons (.ret (.x 1))
    .nil)))
/-- in k01 k18 k26 k27 k32 k47 k51 k52 k53 k54 k56 k59 k60 -/
def q_sure_bushes (f0 f1 : Nat) : ISs := (.cons (.asg true 1 (.call f0 (.cons false (.x 0) .nil)))
    (.cons (.ite (.or (.not (.op .isTuple (.cons false (.x 1) .nil))) (.not (.op .all (.cons false (.lc [2] (.inr 2) (.seq (.x 1)) .nil (.call f1 (.cons false (.x 2) .nil))) .nil)))) (.cons .never
    .nil) .nil)
    (.cons (.ret (.x 1))
    .nil)))
/-- in k01 k03 k04 k05 k06 k07 k08 k14 k15 k44 k45 k46 k47 k51 k52 k53 k54 k55 k56 k60 -/
def q_is_place_told : ISs := (.cons (.ret (.and (.op .isTuple (.cons false (.x 0) .nil)) (.op .all (.cons false (.lc [1] (.inr 1) (.seq (.x 0)) .nil (.and (.op .isin (.cons false (.x 1) (.cons false (.tup (.cons false (.c (.int 0)) (.cons false (.c (.int 1)) .nil))) .nil))) (.not (.op .isBool (.cons false (.x 1) .nil))))) .nil))))
    .nil)
/-- in k01 k03 k04 k05 k06 k07 k08 k14 k15 k44 k45 k46 k47 k51 k52 k53 k54 k55 k56 k60 -/
def q_is_zeros_and_ones (f0 : Nat) : ISs := (.cons (.ret (.and (.op .isTuple (.cons false (.x 0) .nil)) (.and (.op .all (.cons false (.lc [1] (.inr 1) (.seq (.x 0)) .nil (.op .isInt (.cons false (.x 1) .nil))) .nil)) (.call f0 (.cons false (.x 0) .nil)))))
    .nil)
/-- in k01 k03 k04 k05 k08 k52 k54 k55 k60 -/
def q_sure_place_told (f0 f1 : Nat) : ISs := (.cons (.asg true 1 (.call f0 (.cons false (.x 0) .nil)))
    (.cons (.ite (.not (.call f1 (.cons false (.x 1) .nil))) (.cons .never
    .nil) .nil)
    (.cons (.ret (.x 1))
    .nil)))
/-- in k01 k03 k04 k05 k08 k49 k51 k52 k53 k55 k60 -/
def q_is_place_in : ISs := (.cons (.asg true 2 (.x 0))
    (.cons (.for_ (.inr 3) (.seq (.x 1)) (.cons (.ite (.op .eq (.cons false (.x 2) (.cons false (.tup .nil) .nil))) (.cons (.ret (.c (.bool false)))
    .nil) .nil)
    (.cons (.asg true 2 (.op .idx (.cons false (.x 2) (.cons false (.x 3) .nil))))
    .nil)))
    (.cons (.ret (.c (.bool true)))
    .nil)))
/-- in k01 k03 k04 k05 k08 k52 k55 k60 -/
def q_sure_place (f0 f1 : Nat) : ISs := (.cons (.asg true 2 (.call f0 (.cons false (.x 1) .nil)))
    (.cons (.ite (.not (.call f1 (.cons false (.x 0) (.cons false (.x 2) .nil)))) (.cons .never
    .nil) .nil)
    (.cons (.ret (.x 2))
    .nil)))
/-- in k01 k03 k07 k08 k14 k16 k17 k27 k44 k45 k46 k49 k51 k52 k53 k54 k55 k56 k60 -/
def q_part_in : ISs := (.cons (.asg true 2 (.x 0))
    (.cons (.for_ (.inr 3) (.seq (.x 1)) (.cons (.asg true 2 (.op .idx (.cons false (.x 2) (.cons false (.x 3) .nil))))
    .nil))
    (.cons (.ret (.x 2))
    .nil)))
/-- in k01 k03 k04 k05 k06 k07 k08 k14 k15 k16 k17 k27 k44 k45 k46 k49 k51 k52 k53 k54 k55 k56 k60 -/
def q_put_in (f0 : Nat) : ISs := (.cons (.ite (.op .eq (.cons false (.x 1) (.cons false (.tup .nil) .nil))) (.cons (.ret (.x 2))
    .nil) .nil)
    (.cons (.ite (.op .eq (.cons false (.op .idx (.cons false (.x 1) (.cons false (.c (.int 0)) .nil))) (.cons false (.c (.int 0)) .nil))) (.cons (.ret (.tup (.cons false (.call f0 (.cons false (.op .idx (.cons false (.x 0) (.cons false (.c (.int 0)) .nil))) (.cons false (.op (.slice true false) (.cons false (.x 1) (.cons false (.c (.int 1)) .nil))) (.cons false (.x 2) .nil)))) (.cons false (.op .idx (.cons false (.x 0) (.cons false (.c (.int 1)) .nil))) .nil))))
    .nil) .nil)
    (.cons (.ret (.tup (.cons false (.op .idx (.cons false (.x 0) (.cons false (.c (.int 0)) .nil))) (.cons false (.call f0 (.cons false (.op .idx (.cons false (.x 0) (.cons false (.c (.int 1)) .nil))) (.cons false (.op (.slice true false) (.cons false (.x 1) (.cons false (.c (.int 1)) .nil))) (.cons false (.x 2) .nil)))) .nil))))
    .nil)))
/-- in k01 k03 k04 k07 k08 k14 k16 k17 k18 k19 k44 k45 k46 k49 k51 k52 k53 k54 k55 k56 k59 k60 -/
def q_leaves_in (f0 : Nat) : ISs := (.cons (.ret (.ite (.op .eq (.cons false (.x 0) (.cons false (.tup .nil) .nil))) (.c (.int 1)) (.op .add (.cons false (.call f0 (.cons false (.op .idx (.cons false (.x 0) (.cons false (.c (.int 0)) .nil))) .nil)) (.cons false (.call f0 (.cons false (.op .idx (.cons false (.x 0) (.cons false (.c (.int 1)) .nil))) .nil)) .nil)))))
    .nil)
/-- in k01 k03 k07 k08 k14 k16 k17 k27 k44 k45 k46 k49 k51 k52 k53 k54 k55 k56 k60 -/
def q_places_in (f0 : Nat) : ISs := (.cons (.ite (.op .eq (.cons false (.x 0) (.cons false (.tup .nil) .nil))) (.cons (.ret (.lst (.cons false (.tup .nil) .nil)))
    .nil) .nil)
    (.cons (.asg true 1 (.lc [2] (.inr 2) (.seq (.call f0 (.cons false (.op .idx (.cons false (.x 0) (.cons false (.c (.int 0)) .nil))) .nil))) .nil (.op .add (.cons false (.tup (.cons false (.c (.int 0)) .nil)) (.cons false (.x 2) .nil)))))
    (.cons (.ret (.op .add (.cons false (.op .add (.cons false (.lst (.cons false (.tup .nil) .nil)) (.cons false (.x 1) .nil))) (.cons false (.lc [2] (.inr 2) (.seq (.call f0 (.cons false (.op .idx (.cons false (.x 0) (.cons false (.c (.int 1)) .nil))) .nil))) .nil (.op .add (.cons false (.tup (.cons false (.c (.int 1)) .nil)) (.cons false (.x 2) .nil)))) .nil))))
    .nil)))
/-- in k01 k52 k54 -/
def q_height_in (f0 : Nat) : ISs := (.cons (.ret (.ite (.op .eq (.cons false (.x 0) (.cons false (.tup .nil) .nil))) (.c (.int 0)) (.op .add (.cons false (.c (.int 1)) (.cons false (.op .max2 (.cons false (.call f0 (.cons false (.op .idx (.cons false (.x 0) (.cons false (.c (.int 0)) .nil))) .nil)) (.cons false (.call f0 (.cons false (.op .idx (.cons false (.x 0) (.cons false (.c (.int 1)) .nil))) .nil)) .nil))) .nil)))))
    .nil)
/-- in k01 k03 k04 k17 k52 k54 k60 -/
def q_leaves (f0 f1 : Nat) : ISs := (.cons (.ret (.call f0 (.cons false (.call f1 (.cons false (.x 0) .nil)) .nil)))
    .nil)
/-- in k01 k52 k54 -/
def q_height (f0 f1 : Nat) : ISs := (.cons (.ret (.call f0 (.cons false (.call f1 (.cons false (.x 0) .nil)) .nil)))
    .nil)
/-- in k01 k52 k54 -/
def q_all_places (f0 f1 : Nat) : ISs := (.cons (.ret (.call f0 (.cons false (.call f1 (.cons false (.x 0) .nil)) .nil)))
    .nil)
/-- in k01 k52 k54 -/
def q_leaf_places (f0 f1 f2 : Nat) : ISs := (.cons (.asg true 1 (.call f0 (.cons false (.x 0) .nil)))
    (.cons (.ret (.lc [2] (.inr 2) (.seq (.call f1 (.cons false (.x 1) .nil))) (.cons false (.op .eq (.cons false (.call f2 (.cons false (.x 1) (.cons false (.x 2) .nil))) (.cons false (.tup .nil) .nil))) .nil) (.x 2)))
    .nil))
/-- in k01 k52 -/
def q_is_place (f0 f1 f2 : Nat) : ISs := (.cons (.asg true 2 (.call f0 (.cons false (.x 0) .nil)))
    (.cons (.ret (.and (.call f1 (.cons false (.x 1) .nil)) (.call f2 (.cons false (.x 2) (.cons false (.x 1) .nil)))))
    .nil))
/-- in k01 k03 k52 k60 -/
def q_part_at (f0 f1 f2 : Nat) : ISs := (.cons (.asg true 2 (.call f0 (.cons false (.x 0) .nil)))
    (.cons (.ret (.call f1 (.cons false (.x 2) (.cons false (.call f2 (.cons false (.x 2) (.cons false (.x 1) .nil))) .nil))))
    .nil))
/-- in k01 k52 k60 -/
def q_put_at (f0 f1 f2 : Nat) : ISs := (.cons (.asg true 3 (.call f0 (.cons false (.x 0) .nil)))
    (.cons (.asg true 4 (.call f1 (.cons false (.x 3) (.cons false (.x 1) .nil))))
    (.cons (.ret (.call f2 (.cons false (.x 3) (.cons false (.x 4) (.cons false (.call f0 (.cons false (.x 2) .nil)) .nil)))))
    .nil)))
/-- in k01 k52 k54 -/
def q_mirrored (f0 f1 : Nat) : ISs := (.cons (.ret (.call f0 (.cons false (.call f1 (.cons false (.x 0) .nil)) .nil)))
    .nil)
/-- in k01 k52 k54 -/
def q_mirrored_in (f0 : Nat) : ISs := (.cons (.ret (.ite (.op .eq (.cons false (.x 0) (.cons false (.tup .nil) .nil))) (.tup .nil) (.tup (.cons false (.call f0 (.cons false (.op .idx (.cons false (.x 0) (.cons false (.c (.int 1)) .nil))) .nil)) (.cons false (.call f0 (.cons false (.op .idx (.cons false (.x 0) (.cons false (.c (.int 0)) .nil))) .nil)) .nil)))))
    .nil)
/-- in k01 k18 k52 k54 k59 -/
def q_lefts_in : ISs := (.cons (.asg false 1 (.lst (.cons false (.x 0) .nil)))
    (.cons (.whl (.op .ne (.cons false (.op .idx (.cons false (.x 1) (.cons false (.op .neg (.cons false (.c (.int 1)) .nil)) .nil))) (.cons false (.tup .nil) .nil))) (.cons (.ap 1 (.op .idx (.cons false (.op .idx (.cons false (.x 1) (.cons false (.op .neg (.cons false (.c (.int 1)) .nil)) .nil))) (.cons false (.c (.int 0)) .nil))))
    .nil))
    (.cons (.ret (.x 1))
    .nil)))
/-- in k01 k52 k54 -/
def q_left_parts (f0 f1 : Nat) : ISs := (.cons (.ret (.op .tuple (.cons false (.call f0 (.cons false (.call f1 (.cons false (.x 0) .nil)) .nil)) .nil)))
    .nil)
/-- in k01 k52 k54 k59 -/
def q_right_parts (f0 f1 : Nat) : ISs := (.cons (.ret (.op .tuple (.cons false (.op .rev (.cons false (.lc [1] (.inr 1) (.seq (.op (.slice false true) (.cons false (.call f0 (.cons false (.call f1 (.cons false (.x 0) .nil)) .nil)) (.cons false (.op .neg (.cons false (.c (.int 1)) .nil)) .nil)))) .nil (.op .idx (.cons false (.x 1) (.cons false (.c (.int 1)) .nil)))) .nil)) .nil)))
    .nil)
/-- in k01 k52 k54 k59 -/
def q_from_right_parts (f0 f1 : Nat) : ISs := (.cons (.asg true 1 (.call f0 (.cons false (.x 0) .nil)))
    (.cons (.ite (.op .gt (.cons false (.op .add (.cons false (.c (.int 1)) (.cons false (.op .sum (.cons false (.lc [2] (.inr 2) (.seq (.x 1)) .nil (.call f1 (.cons false (.x 2) .nil))) .nil)) .nil))) (.cons false (.c (.int 12)) .nil))) (.cons .never
    .nil) .nil)
    (.cons (.asg true 3 (.tup .nil))
    (.cons (.for_ (.inr 2) (.seq (.x 1)) (.cons (.asg true 3 (.tup (.cons false (.x 3) (.cons false (.x 2) .nil))))
    .nil))
    (.cons (.ret (.x 3))
    .nil)))))
/-- in k01 k02 k03 k04 k06 k07 k08 k14 k15 k16 k17 k18 k19 k27 k35 k44 k46 k49 k54 k56 k58 k60 -/
def q_law_leafs : ISs := (.cons (.par [1, 2] (.cons false (.lst (.cons false (.x 0) .nil)) (.cons true (.c (.int 0)) .nil)))
    (.cons (.whl (.op .ne (.cons false (.x 1) (.cons false (.lst .nil) .nil))) (.cons (.asg true 3 (.pop 1))
    (.cons (.ite (.op .eq (.cons false (.x 3) (.cons false (.tup .nil) .nil))) (.cons (.asg true 2 (.op .add (.cons false (.x 2) (.cons false (.c (.int 1)) .nil))))
    .nil) (.cons (.ext 1 (.lst (.cons false (.op .idx (.cons false (.x 3) (.cons false (.c (.int 0)) .nil))) (.cons false (.op .idx (.cons false (.x 3) (.cons false (.c (.int 1)) .nil))) .nil))))
    .nil))
    .nil)))
    (.cons (.ret (.x 2))
    .nil)))
/-- in k01 k03 k04 k05 k06 k07 k08 k14 k15 k16 k17 k18 k19 k27 k35 k44 k45 k46 k49 k54 k56 k58 k60 -/
def q_law_spots (f0 : Nat) : ISs := (.cons (.asg true 1 (.lst (.cons false (.tup .nil) .nil)))
    (.cons (.ite (.op .ne (.cons false (.x 0) (.cons false (.tup .nil) .nil))) (.cons (.asg true 1 (.op .add (.cons false (.op .add (.cons false (.x 1) (.cons false (.lc [2] (.inr 2) (.seq (.call f0 (.cons false (.op .idx (.cons false (.x 0) (.cons false (.c (.int 0)) .nil))) .nil))) .nil (.op .add (.cons false (.tup (.cons false (.c (.int 0)) .nil)) (.cons false (.x 2) .nil)))) .nil))) (.cons false (.lc [2] (.inr 2) (.seq (.call f0 (.cons false (.op .idx (.cons false (.x 0) (.cons false (.c (.int 1)) .nil))) .nil))) .nil (.op .add (.cons false (.tup (.cons false (.c (.int 1)) .nil)) (.cons false (.x 2) .nil)))) .nil))))
    .nil) .nil)
    (.cons (.ret (.x 1))
    .nil)))
/-- in k01 k03 k04 k05 k06 k07 k08 k14 k15 k16 k17 k18 k19 k27 k35 k44 k45 k46 k49 k54 k56 k58 k60 -/
def q_law_part : ISs := (.cons (.for_ (.inr 2) (.seq (.x 1)) (.cons (.asg true 0 (.op .idx (.cons false (.x 0) (.cons false (.x 2) .nil))))
    .nil))
    (.cons (.ret (.x 0))
    .nil))
/-- in k01 k03 k04 k05 k06 k07 k08 k14 k15 k16 k17 k18 k19 k27 k35 k44 k46 k49 k54 k56 k58 k60 -/
def q_law_put (f0 : Nat) : ISs := (.cons (.ite (.op .eq (.cons false (.x 1) (.cons false (.tup .nil) .nil))) (.cons (.ret (.x 2))
    .nil) .nil)
    (.cons (.ret (.ite (.op .eq (.cons false (.op .idx (.cons false (.x 1) (.cons false (.c (.int 0)) .nil))) (.cons false (.c (.int 0)) .nil))) (.tup (.cons false (.call f0 (.cons false (.op .idx (.cons false (.x 0) (.cons false (.c (.int 0)) .nil))) (.cons false (.op (.slice true false) (.cons false (.x 1) (.cons false (.c (.int 1)) .nil))) (.cons false (.x 2) .nil)))) (.cons false (.op .idx (.cons false (.x 0) (.cons false (.c (.int 1)) .nil))) .nil))) (.tup (.cons false (.op .idx (.cons false (.x 0) (.cons false (.c (.int 0)) .nil))) (.cons false (.call f0 (.cons false (.op .idx (.cons false (.x 0) (.cons false (.c (.int 1)) .nil))) (.cons false (.op (.slice true false) (.cons false (.x 1) (.cons false (.c (.int 1)) .nil))) (.cons false (.x 2) .nil)))) .nil)))))
    .nil))
/-- in k01 -/
def q_law_mirror (f0 : Nat) : ISs := (.cons (.ret (.ite (.op .eq (.cons false (.x 0) (.cons false (.tup .nil) .nil))) (.tup .nil) (.tup (.cons false (.call f0 (.cons false (.op .idx (.cons false (.x 0) (.cons false (.c (.int 1)) .nil))) .nil)) (.cons false (.call f0 (.cons false (.op .idx (.cons false (.x 0) (.cons false (.c (.int 0)) .nil))) .nil)) .nil)))))
    .nil)
/-- in k01 k02 k03 k04 k05 k06 k07 k08 k09 k10 k11 k12 k13 k14 k15 k16 k17 k18 k19 k56 k57 k58 k59 k60 k61 -/
def q_law_2 (f0 f1 f2 : Nat) : ISs := (.cons (.asg true 1 (.call f0 (.cons false (.x 0) (.cons false (.c (.int 2)) .nil))))
    (.cons (.ret (.op .all (.cons false (.lc [2] (.inr 2) (.range (.cons false (.op .len (.cons false (.x 1) .nil)) .nil)) .nil (.call f1 (.cons true (.call f2 (.cons false (.x 1) (.cons false (.x 2) .nil))) .nil))) .nil)))
    .nil))
/-- in k03 k04 k05 k06 k07 k08 k15 k47 k51 k52 k53 k54 k56 k60 -/
def q_sure_row (f0 f1 : Nat) : ISs := (.cons (.asg true 1 (.call f0 (.cons false (.x 0) .nil)))
    (.cons (.ite (.not (.call f1 (.cons false (.x 1) .nil))) (.cons .never
    .nil) .nil)
    (.cons (.ret (.x 1))
    .nil)))
/-- in k03 k04 k05 k06 k07 k08 k14 k15 k44 k45 k46 k47 k51 k52 k53 k54 k56 k60 -/
def q_is_row_in (f0 : Nat) : ISs := (.cons (.ret (.and (.op .isTuple (.cons false (.x 0) .nil)) (.op .all (.cons false (.lc [1] (.inr 1) (.seq (.x 0)) .nil (.call f0 (.cons false (.x 1) .nil))) .nil))))
    .nil)
/-- in k03 k04 k05 k06 k07 k08 k14 k15 k16 k17 k27 k44 k45 k46 k49 k51 k52 k53 k54 k55 k56 k60 -/
def q_spreads : ISs := (.cons (.ret (.and (.op .ne (.cons false (.x 0) (.cons false (.tup .nil) .nil))) (.op .ne (.cons false (.op .idx (.cons false (.x 0) (.cons false (.c (.int 1)) .nil))) (.cons false (.tup .nil) .nil)))))
    .nil)
/-- in k03 k04 k05 k06 k07 k08 k14 k15 k16 k17 k27 k44 k45 k46 k49 k51 k52 k53 k54 k55 k56 k60 -/
def q_spread_in : ISs := (.cons (.ret (.tup (.cons false (.tup (.cons false (.op .idx (.cons false (.x 0) (.cons false (.c (.int 0)) .nil))) (.cons false (.op .idx (.cons false (.op .idx (.cons false (.x 0) (.cons false (.c (.int 1)) .nil))) (.cons false (.c (.int 0)) .nil))) .nil))) (.cons false (.tup (.cons false (.op .idx (.cons false (.x 0) (.cons false (.c (.int 0)) .nil))) (.cons false (.op .idx (.cons false (.op .idx (.cons false (.x 0) (.cons false (.c (.int 1)) .nil))) (.cons false (.c (.int 1)) .nil))) .nil))) .nil))))
    .nil)
/-- in k03 k04 k05 k06 k07 k08 k14 k15 k16 k17 k27 k44 k45 k46 k49 k51 k52 k53 k54 k55 k56 k60 -/
def q_moved_in (f0 f1 f2 : Nat) : ISs := (.cons (.asg true 2 (.x 0))
    (.cons (.for_ (.inr 3) (.seq (.x 1)) (.cons (.ite (.op .eq (.cons false (.x 2) (.cons false (.tup .nil) .nil))) (.cons (.ret (.c .none))
    .nil) .nil)
    (.cons (.asg true 2 (.op .idx (.cons false (.x 2) (.cons false (.x 3) .nil))))
    .nil)))
    (.cons (.ret (.ite (.call f0 (.cons false (.x 2) .nil)) (.call f1 (.cons false (.x 0) (.cons false (.x 1) (.cons false (.call f2 (.cons false (.x 2) .nil)) .nil)))) (.c .none)))
    .nil)))
/-- in k03 k04 k05 k06 k07 k08 k14 k15 k44 k45 k46 k51 k52 k53 k54 k56 k60 -/
def q_steps_in (f0 : Nat) : ISs := (.cons (.asg false 2 (.lst (.cons false (.x 0) .nil)))
    (.cons (.for_ (.inr 3) (.seq (.x 1)) (.cons (.asg true 4 (.call f0 (.cons false (.op .idx (.cons false (.x 2) (.cons false (.op .neg (.cons false (.c (.int 1)) .nil)) .nil))) (.cons false (.x 3) .nil))))
    (.cons (.ite (.op .isN (.cons false (.x 4) (.cons false (.c .none) .nil))) (.cons (.ret (.x 2))
    .nil) .nil)
    (.cons (.ap 2 (.x 4))
    .nil))))
    (.cons (.ret (.x 2))
    .nil)))
/-- in k03 k04 -/
def q_moved_x (f0 f1 f2 f3 : Nat) : ISs := (.cons (.asg true 2 (.call f0 (.cons false (.x 0) .nil)))
    (.cons (.asg true 3 (.call f1 (.cons false (.x 2) (.cons false (.call f2 (.cons false (.x 2) (.cons false (.x 1) .nil))) .nil))))
    (.cons (.ite (.op .isN (.cons false (.x 3) (.cons false (.c .none) .nil))) (.cons (.raise f3 .nil)
    .nil) .nil)
    (.cons (.ret (.x 3))
    .nil))))
/-- in k03 k04 k05 k06 k07 k15 k52 k54 k56 k60 -/
def q_row_led (f0 : Nat) : ISs := (.cons (.ret (.op .idx (.cons false (.call f0 (.cons false (.x 0) (.cons false (.x 1) .nil))) (.cons false (.op .neg (.cons false (.c (.int 1)) .nil)) .nil))))
    .nil)
/-- in k03 k04 -/
def q_row_bushes_x (f0 f1 f2 f3 : Nat) : ISs := (.cons (.asg true 2 (.call f0 (.cons false (.x 0) .nil)))
    (.cons (.asg true 3 (.call f1 (.cons false (.x 1) .nil)))
    (.cons (.asg true 4 (.call f2 (.cons false (.x 2) (.cons false (.x 3) .nil))))
    (.cons (.ite (.op .le (.cons false (.op .len (.cons false (.x 4) .nil)) (.cons false (.op .len (.cons false (.x 3) .nil)) .nil))) (.cons (.raise f3 .nil)
    .nil) .nil)
    (.cons (.ret (.op .tuple (.cons false (.x 4) .nil)))
    .nil)))))
/-- in k03 k04 k05 k06 k07 k08 k14 k15 k16 k17 k18 k19 k27 k35 k44 k46 k49 k54 k56 k58 k60 -/
def q_law_move (f0 f1 f2 : Nat) : ISs := (.cons (.ite (.op .notin (.cons false (.x 1) (.cons false (.call f0 (.cons false (.x 0) .nil)) .nil))) (.cons (.ret (.c .none))
    .nil) .nil)
    (.cons (.asg true 2 (.call f1 (.cons false (.x 0) (.cons false (.x 1) .nil))))
    (.cons (.ite (.or (.op .eq (.cons false (.x 2) (.cons false (.tup .nil) .nil))) (.op .eq (.cons false (.op .idx (.cons false (.x 2) (.cons false (.c (.int 1)) .nil))) (.cons false (.tup .nil) .nil)))) (.cons (.ret (.c .none))
    .nil) .nil)
    (.cons (.unpn 3 [4, 5] (.x 2))
    (.cons (.ret (.call f2 (.cons false (.x 0) (.cons false (.x 1) (.cons false (.tup (.cons false (.tup (.cons false (.x 3) (.cons false (.x 4) .nil))) (.cons false (.tup (.cons false (.x 3) (.cons false (.x 5) .nil))) .nil))) .nil)))))
    .nil)))))
/-- in k03 k04 k05 k06 k07 k08 k14 k15 k16 k17 k18 k19 k27 k35 k44 k46 k49 k54 k56 k58 k60 -/
def q_law_steps (f0 f1 : Nat) : ISs := (.cons (.asg false 1 (.lst .nil))
    (.cons (.for_ (.inr 2) (.seq (.call f0 (.cons false (.x 0) .nil))) (.cons (.asg true 3 (.call f1 (.cons false (.x 0) (.cons false (.x 2) .nil))))
    (.cons (.ite (.op .notN (.cons false (.x 3) (.cons false (.c .none) .nil))) (.cons (.ap 1 (.tup (.cons false (.x 2) (.cons false (.x 3) .nil))))
    .nil) .nil)
    .nil)))
    (.cons (.ret (.x 1))
    .nil)))
/-- in k03 k05 k06 k07 k14 k15 k16 k18 k44 k46 k56 k58 k60 -/
def q_law_go (f0 : Nat) : ISs := (.cons (.for_ (.inr 2) (.seq (.x 1)) (.cons (.asg true 0 (.ite (.op .notN (.cons false (.x 0) (.cons false (.c .none) .nil))) (.call f0 (.cons false (.x 0) (.cons false (.x 2) .nil))) (.c .none)))
    .nil))
    (.cons (.ret (.x 0))
    .nil))
/-- in k03 k04 k06 k07 k14 k15 k18 k44 k46 k54 k56 k58 k60 -/
def q_law_drawn_row (f0 f1 f2 : Nat) : ISs := (.cons (.asg false 3 (.lst .nil))
    (.cons (.for_ (.inr 4) (.range (.cons false (.x 2) .nil)) (.cons (.asg true 5 (.lc [6] (.inr 6) (.seq (.call f0 (.cons false (.x 1) .nil))) (.cons false (.op .le (.cons false (.call f1 (.cons false (.op .idx (.cons false (.x 6) (.cons false (.c (.int 1)) .nil))) .nil)) (.cons false (.c (.int 12)) .nil))) .nil) (.x 6)))
    (.cons (.ite (.op .ne (.cons false (.x 5) (.cons false (.lst .nil) .nil))) (.cons (.unp [7, 1] (.call f2 (.cons true (.x 0) (.cons false (.x 5) .nil))))
    (.cons (.ap 3 (.x 7))
    .nil)) .nil)
    .nil)))
    (.cons (.ret (.op .tuple (.cons false (.x 3) .nil)))
    .nil)))
/-- in k03 k04 -/
def q_law_heard_x (f0 f1 f2 f3 f4 : Nat) : ISs := (.cons (.tryr f0 f1 3 "can not" (.cons (.ret (.call f2 (.cons false (.callf [f3, f4] 0 (.cons false (.x 1) (.cons false (.x 2) .nil))) .nil)))
    .nil))
    .nil)
/-- in k04 k52 k54 -/
def q_first_stuck (f0 f1 f2 : Nat) : ISs := (.cons (.asg true 2 (.call f0 (.cons false (.x 0) .nil)))
    (.cons (.asg true 3 (.call f1 (.cons false (.x 1) .nil)))
    (.cons (.asg true 4 (.op .sub (.cons false (.op .len (.cons false (.call f2 (.cons false (.x 2) (.cons false (.x 3) .nil))) .nil)) (.cons false (.c (.int 1)) .nil))))
    (.cons (.ret (.ite (.op .lt (.cons false (.x 4) (.cons false (.op .len (.cons false (.x 3) .nil)) .nil))) (.x 4) (.c .none)))
    .nil))))
/-- in k04 -/
def q_law_right_4 (f0 f1 f2 f3 f4 f5 f6 f7 f8 f9 f10 f11 f12 f13 : Nat) : ISs := (.cons (.asg true 1 (.call f0 (.cons true (.x 0) (.cons false (.op .add (.cons false (.c (.int 1)) (.cons false (.call f1 (.cons true (.x 0) (.cons false (.c (.int 7)) .nil))) .nil))) .nil))))
    (.cons (.asg true 2 (.call f2 (.cons true (.x 0) (.cons false (.x 1) (.cons false (.call f1 (.cons true (.x 0) (.cons false (.c (.int 7)) .nil))) .nil)))))
    (.cons (.for_ (.inr 3) (.range (.cons false (.c (.int 3)) .nil)) (.cons (.par [4, 5] (.cons false (.lst (.cons false (.x 1) .nil)) (.cons true (.c .none) .nil)))
    (.cons (.for_ (.inl [6, 7]) (.enum (.x 2)) (.cons (.asg true 8 (.ite (.op .isN (.cons false (.x 5) (.cons false (.c .none) .nil))) (.call f3 (.cons false (.op .idx (.cons false (.x 4) (.cons false (.op .neg (.cons false (.c (.int 1)) .nil)) .nil))) (.cons false (.x 7) .nil))) (.c .none)))
    (.cons (.ite (.and (.op .isN (.cons false (.x 8) (.cons false (.c .none) .nil))) (.op .isN (.cons false (.x 5) (.cons false (.c .none) .nil)))) (.cons (.asg true 5 (.x 6))
    .nil) .nil)
    (.cons (.ite (.op .notN (.cons false (.x 8) (.cons false (.c .none) .nil))) (.cons (.ap 4 (.x 8))
    .nil) .nil)
    .nil))))
    (.cons (.asg true 9 (.op .isN (.cons false (.x 5) (.cons false (.c .none) .nil))))
    (.cons (.asg true 10 (.lst (.cons false (.ite (.x 9) (.op .idx (.cons false (.x 4) (.cons false (.op .neg (.cons false (.c (.int 1)) .nil)) .nil))) (.lst (.cons false (.c (.str "can not")) (.cons false (.c (.bool true)) .nil)))) (.cons false (.ite (.x 9) (.op .tuple (.cons false (.x 4) .nil)) (.lst (.cons false (.c (.str "can not")) (.cons false (.c (.bool true)) .nil)))) (.cons false (.x 5) .nil)))))
    (.cons (.asg true 11 (.lst (.cons false (.call f4 (.cons false (.c (.int 0)) (.cons false (.call f5 (.cons false (.x 1) .nil)) (.cons false (.x 2) .nil)))) (.cons false (.call f4 (.cons false (.c (.int 1)) (.cons false (.x 1) (.cons false (.call f5 (.cons false (.x 2) .nil)) .nil)))) (.cons false (.call f6 (.cons false (.x 1) (.cons false (.x 2) .nil))) (.cons false (.callk f6 [1, 0] (.cons false (.op .list (.cons false (.x 2) .nil)) (.cons false (.x 1) .nil))) .nil))))))
    (.cons (.ite (.not (.call f7 (.cons false (.x 11) (.cons false (.op .add (.cons false (.x 10) (.cons false (.lst (.cons false (.x 5) .nil)) .nil))) .nil)))) (.cons (.ret (.c (.bool false)))
    .nil) .nil)
    (.cons (.ite (.x 9) (.cons (.asg true 11 (.lst (.cons false (.callk f8 [1, 0] (.cons false (.x 2) (.cons false (.x 1) .nil))) (.cons false (.callk f9 [1, 0] (.cons false (.x 2) (.cons false (.x 1) .nil))) (.cons false (.lc [12] (.inr 12) (.seq (.x 4)) .nil (.call f10 (.cons false (.x 12) .nil))) .nil)))))
    (.cons (.ite (.not (.call f7 (.cons false (.x 11) (.cons false (.lst (.cons false (.op .idx (.cons false (.x 4) (.cons false (.op .neg (.cons false (.c (.int 1)) .nil)) .nil))) (.cons false (.op .tuple (.cons false (.x 4) .nil)) (.cons false (.op .sorted (.cons false (.lc [12] (.inr 12) (.seq (.x 4)) .nil (.call f11 (.cons false (.x 12) .nil))) .nil)) .nil)))) .nil)))) (.cons (.ret (.c (.bool false)))
    .nil) .nil)
    (.cons (.asg true 13 (.x 1))
    (.cons (.for_ (.inr 7) (.seq (.x 2)) (.cons (.asg true 13 (.call f12 (.cons false (.x 13) (.cons false (.x 7) .nil))))
    .nil))
    (.cons (.asg true 6 (.call f1 (.cons true (.x 0) (.cons false (.op .add (.cons false (.op .len (.cons false (.x 2) .nil)) (.cons false (.c (.int 1)) .nil))) .nil))))
    (.cons (.ite (.not (.call f7 (.cons false (.lst (.cons false (.x 13) (.cons false (.call f8 (.cons false (.call f8 (.cons false (.x 1) (.cons false (.op (.slice false true) (.cons false (.x 2) (.cons false (.x 6) .nil))) .nil))) (.cons false (.op (.slice true false) (.cons false (.x 2) (.cons false (.x 6) .nil))) .nil))) .nil))) (.cons false (.lst (.cons false (.op .idx (.cons false (.x 4) (.cons false (.op .neg (.cons false (.c (.int 1)) .nil)) .nil))) (.cons false (.op .idx (.cons false (.x 4) (.cons false (.op .neg (.cons false (.c (.int 1)) .nil)) .nil))) .nil))) .nil)))) (.cons (.ret (.c (.bool false)))
    .nil) .nil)
    .nil)))))) .nil)
    (.cons (.asg true 6 (.call f1 (.cons true (.x 0) (.cons false (.op .add (.cons false (.op .len (.cons false (.x 2) .nil)) (.cons false (.c (.int 1)) .nil))) .nil))))
    (.cons (.asg true 14 (.op .tuple (.cons false (.lc [15] (.inr 15) (.range (.cons false (.call f1 (.cons true (.x 0) (.cons false (.c (.int 4)) .nil))) .nil)) .nil (.call f1 (.cons true (.x 0) (.cons false (.c (.int 2)) .nil)))) .nil)))
    (.cons (.asg true 2 (.call f13 (.cons true (.x 0) (.cons false (.lst (.cons false (.op .add (.cons false (.op .add (.cons false (.op (.slice false true) (.cons false (.x 2) (.cons false (.x 6) .nil))) (.cons false (.tup (.cons false (.x 14) .nil)) .nil))) (.cons false (.op (.slice true false) (.cons false (.x 2) (.cons false (.x 6) .nil))) .nil))) (.cons false (.op .add (.cons false (.op (.slice false true) (.cons false (.x 2) (.cons false (.x 6) .nil))) (.cons false (.op (.slice true false) (.cons false (.x 2) (.cons false (.op .add (.cons false (.x 6) (.cons false (.c (.int 1)) .nil))) .nil))) .nil))) (.cons false (.op .rev (.cons false (.x 2) .nil)) (.cons false (.op .add (.cons false (.op .add (.cons false (.op (.slice false true) (.cons false (.x 2) (.cons false (.x 6) .nil))) (.cons false (.tup (.cons false (.x 14) .nil)) .nil))) (.cons false (.op (.slice true false) (.cons false (.x 2) (.cons false (.op .add (.cons false (.x 6) (.cons false (.c (.int 1)) .nil))) .nil))) .nil))) .nil))))) .nil))))
    .nil)))))))))))
    (.cons (.ret (.call f7 (.cons false (.lst (.cons false (.call f8 (.cons false (.tup .nil) (.cons false (.tup .nil) .nil))) (.cons false (.call f9 (.cons false (.tup .nil) (.cons false (.tup .nil) .nil))) (.cons false (.call f6 (.cons false (.tup .nil) (.cons false (.tup .nil) .nil))) (.cons false (.call f6 (.cons false (.tup .nil) (.cons false (.tup (.cons false (.tup .nil) .nil)) .nil))) (.cons false (.call f6 (.cons false (.tup (.cons false (.tup .nil) (.cons false (.tup .nil) .nil))) (.cons false (.tup (.cons false (.tup (.cons false (.c (.int 0)) (.cons false (.c (.int 0)) .nil))) .nil)) .nil))) .nil)))))) (.cons false (.lst (.cons false (.tup .nil) (.cons false (.tup (.cons false (.tup .nil) .nil)) (.cons false (.c .none) (.cons false (.c (.int 0)) (.cons false (.c (.int 0)) .nil)))))) .nil))))
    .nil))))
/-- in k05 k08 k52 k55 -/
def q_moved (f0 f1 f2 : Nat) : ISs := (.cons (.asg true 2 (.call f0 (.cons false (.x 0) .nil)))
    (.cons (.asg true 3 (.call f1 (.cons false (.x 2) (.cons false (.call f2 (.cons false (.x 2) (.cons false (.x 1) .nil))) .nil))))
    (.cons (.ite (.op .isN (.cons false (.x 3) (.cons false (.c .none) .nil))) (.cons .never
    .nil) .nil)
    (.cons (.ret (.x 3))
    .nil))))
/-- in k05 k06 k07 k15 k52 k54 k56 k60 -/
def q_row_bushes (f0 f1 f2 : Nat) : ISs := (.cons (.asg true 2 (.call f0 (.cons false (.x 0) .nil)))
    (.cons (.asg true 3 (.call f1 (.cons false (.x 1) .nil)))
    (.cons (.asg true 4 (.call f2 (.cons false (.x 2) (.cons false (.x 3) .nil))))
    (.cons (.ite (.op .le (.cons false (.op .len (.cons false (.x 4) .nil)) (.cons false (.op .len (.cons false (.x 3) .nil)) .nil))) (.cons .never
    .nil) .nil)
    (.cons (.ret (.op .tuple (.cons false (.x 4) .nil)))
    .nil)))))
/-- in k05 k52 k54 -/
def q_sure_short (f0 : Nat) : ISs := (.cons (.asg true 1 (.call f0 (.cons false (.x 0) .nil)))
    (.cons (.ite (.op .gt (.cons false (.op .len (.cons false (.x 1) .nil)) (.cons false (.c (.int 12)) .nil))) (.cons .never
    .nil) .nil)
    (.cons (.ret (.x 1))
    .nil)))
/-- in k05 k06 k52 k54 k60 -/
def q_sure_short_row (f0 : Nat) : ISs := (.cons (.asg true 1 (.call f0 (.cons false (.x 0) .nil)))
    (.cons (.ite (.or (.op .gt (.cons false (.op .len (.cons false (.x 1) .nil)) (.cons false (.c (.int 8)) .nil))) (.op .any (.cons false (.lc [2] (.inr 2) (.seq (.x 1)) .nil (.op .gt (.cons false (.op .len (.cons false (.x 2) .nil)) (.cons false (.c (.int 8)) .nil)))) .nil))) (.cons .never
    .nil) .nil)
    (.cons (.ret (.x 1))
    .nil)))
/-- in k05 k06 k52 k54 k60 -/
def q_crossing_in (f0 : Nat) : ISs := (.cons (.ite (.op .eq (.cons false (.x 0) (.cons false (.x 1) .nil))) (.cons (.ret (.tup (.cons false (.tup .nil) (.cons false (.tup .nil) .nil))))
    .nil) .nil)
    (.cons (.ite (.op .eq (.cons false (.op (.slice false true) (.cons false (.x 1) (.cons false (.op .len (.cons false (.x 0) .nil)) .nil))) (.cons false (.x 0) .nil))) (.cons (.ret (.call f0 (.cons false (.x 0) (.cons false (.op (.slice true false) (.cons false (.x 1) (.cons false (.op .len (.cons false (.x 0) .nil)) .nil))) .nil))))
    .nil) .nil)
    (.cons (.ite (.op .eq (.cons false (.op (.slice false true) (.cons false (.x 0) (.cons false (.op .len (.cons false (.x 1) .nil)) .nil))) (.cons false (.x 1) .nil))) (.cons (.unp [2, 3] (.call f0 (.cons false (.x 1) (.cons false (.op (.slice true false) (.cons false (.x 0) (.cons false (.op .len (.cons false (.x 1) .nil)) .nil))) .nil))))
    (.cons (.ret (.tup (.cons false (.x 3) (.cons false (.x 2) .nil))))
    .nil)) .nil)
    (.cons (.ret (.tup (.cons false (.tup (.cons false (.x 1) .nil)) (.cons false (.tup (.cons false (.x 0) .nil)) .nil))))
    .nil))))
/-- in k05 k06 k52 k54 k60 -/
def q_below_in : ISs := (.cons (.ite (.op .eq (.cons false (.x 1) (.cons false (.tup (.cons false (.c (.int 1)) .nil)) .nil))) (.cons (.ret (.tup (.cons false (.tup (.cons false (.op .add (.cons false (.x 0) (.cons false (.tup (.cons false (.c (.int 1)) .nil)) .nil))) (.cons false (.x 0) .nil))) (.cons false (.tup (.cons false (.x 0) (.cons false (.op .add (.cons false (.x 0) (.cons false (.tup (.cons false (.c (.int 1)) .nil)) .nil))) (.cons false (.op .add (.cons false (.x 0) (.cons false (.tup (.cons false (.c (.int 0)) .nil)) .nil))) .nil)))) .nil))))
    .nil) .nil)
    (.cons (.ite (.op .eq (.cons false (.op .idx (.cons false (.x 1) (.cons false (.c (.int 0)) .nil))) (.cons false (.c (.int 0)) .nil))) (.cons (.ret (.tup (.cons false (.tup (.cons false (.op .add (.cons false (.op .add (.cons false (.x 0) (.cons false (.tup (.cons false (.c (.int 0)) (.cons false (.c (.int 0)) .nil))) .nil))) (.cons false (.op (.slice true false) (.cons false (.x 1) (.cons false (.c (.int 1)) .nil))) .nil))) (.cons false (.op .add (.cons false (.op .add (.cons false (.x 0) (.cons false (.tup (.cons false (.c (.int 1)) (.cons false (.c (.int 0)) .nil))) .nil))) (.cons false (.op (.slice true false) (.cons false (.x 1) (.cons false (.c (.int 1)) .nil))) .nil))) .nil))) (.cons false (.tup (.cons false (.x 0) .nil)) .nil))))
    .nil) .nil)
    (.cons (.ret (.tup (.cons false (.tup (.cons false (.op .add (.cons false (.op .add (.cons false (.x 0) (.cons false (.ite (.op .eq (.cons false (.op .idx (.cons false (.x 1) (.cons false (.c (.int 1)) .nil))) (.cons false (.c (.int 0)) .nil))) (.tup (.cons false (.c (.int 0)) (.cons false (.c (.int 1)) .nil))) (.tup (.cons false (.c (.int 1)) (.cons false (.c (.int 1)) .nil)))) .nil))) (.cons false (.op (.slice true false) (.cons false (.x 1) (.cons false (.c (.int 2)) .nil))) .nil))) .nil)) (.cons false (.tup (.cons false (.x 0) .nil)) .nil))))
    .nil)))
/-- in k05 k52 k54 k60 -/
def q_rows_in (f0 f1 : Nat) : ISs := (.cons (.ite (.op .eq (.cons false (.x 0) (.cons false (.tup .nil) .nil))) (.cons (.ret (.tup (.cons false (.x 1) (.cons false (.tup .nil) .nil))))
    .nil) .nil)
    (.cons (.ite (.op .eq (.cons false (.x 1) (.cons false (.tup .nil) .nil))) (.cons (.ret (.tup (.cons false (.tup .nil) (.cons false (.x 0) .nil))))
    .nil) .nil)
    (.cons (.ite (.op .eq (.cons false (.op .idx (.cons false (.x 2) (.cons false (.c (.int 0)) .nil))) (.cons false (.c (.int 0)) .nil))) (.cons .never
    .nil) .nil)
    (.cons (.sub 2 (.c (.int 0)) (.op .sub (.cons false (.op .idx (.cons false (.x 2) (.cons false (.c (.int 0)) .nil))) (.cons false (.c (.int 1)) .nil))))
    (.cons (.unp [3, 4] (.call f0 (.cons false (.op .idx (.cons false (.x 0) (.cons false (.c (.int 0)) .nil))) (.cons false (.op .idx (.cons false (.x 1) (.cons false (.c (.int 0)) .nil))) .nil))))
    (.cons (.unp [5, 6] (.call f1 (.cons false (.op (.slice true false) (.cons false (.x 0) (.cons false (.c (.int 1)) .nil))) (.cons false (.x 3) (.cons true (.x 2) .nil)))))
    (.cons (.unp [7, 8] (.call f1 (.cons false (.op .add (.cons false (.x 4) (.cons false (.x 6) .nil))) (.cons false (.op (.slice true false) (.cons false (.x 1) (.cons false (.c (.int 1)) .nil))) (.cons true (.x 2) .nil)))))
    (.cons (.ret (.tup (.cons false (.op .add (.cons false (.x 5) (.cons false (.x 7) .nil))) (.cons false (.x 8) .nil))))
    .nil))))))))
/-- in k05 k52 k54 -/
def q_crossing (f0 f1 : Nat) : ISs := (.cons (.asg true 2 (.call f0 (.cons false (.x 0) .nil)))
    (.cons (.ret (.call f1 (.cons false (.x 2) (.cons false (.call f0 (.cons false (.x 1) .nil)) .nil))))
    .nil))
/-- in k05 k06 k52 k54 k60 -/
def q_rows_crossing (f0 f1 : Nat) : ISs := (.cons (.asg true 2 (.call f0 (.cons false (.x 0) .nil)))
    (.cons (.ret (.call f1 (.cons false (.x 2) (.cons false (.call f0 (.cons false (.x 1) .nil)) (.cons true (.lst (.cons false (.c (.int 400)) .nil)) .nil)))))
    .nil))
/-- in k05 k52 -/
def q_are_apart (f0 : Nat) : ISs := (.cons (.asg true 2 (.call f0 (.cons false (.x 0) .nil)))
    (.cons (.asg true 3 (.call f0 (.cons false (.x 1) .nil)))
    (.cons (.ret (.and (.op .ne (.cons false (.op (.slice false true) (.cons false (.x 2) (.cons false (.op .len (.cons false (.x 3) .nil)) .nil))) (.cons false (.x 3) .nil))) (.op .ne (.cons false (.op (.slice false true) (.cons false (.x 3) (.cons false (.op .len (.cons false (.x 2) .nil)) .nil))) (.cons false (.x 2) .nil)))))
    .nil)))
/-- in k05 k52 -/
def q_lies_in (f0 : Nat) : ISs := (.cons (.asg true 2 (.call f0 (.cons false (.x 0) .nil)))
    (.cons (.asg true 3 (.call f0 (.cons false (.x 1) .nil)))
    (.cons (.ret (.op .eq (.cons false (.op (.slice false true) (.cons false (.x 2) (.cons false (.op .len (.cons false (.x 3) .nil)) .nil))) (.cons false (.x 3) .nil))))
    .nil)))
/-- in k05 k06 k52 -/
def q_is_crossing (f0 f1 f2 f3 f4 : Nat) : ISs := (.cons (.asg true 4 (.call f0 (.cons false (.x 0) .nil)))
    (.cons (.asg true 5 (.call f1 (.cons false (.x 1) .nil)))
    (.cons (.asg true 6 (.call f1 (.cons false (.x 2) .nil)))
    (.cons (.ite (.or (.not (.call f2 (.cons false (.x 3) (.cons false (.c (.int 2)) .nil)))) (.or (.not (.call f3 (.cons false (.op .idx (.cons false (.x 3) (.cons false (.c (.int 0)) .nil))) .nil))) (.not (.call f3 (.cons false (.op .idx (.cons false (.x 3) (.cons false (.c (.int 1)) .nil))) .nil))))) (.cons (.ret (.c (.bool false)))
    .nil) .nil)
    (.cons (.par [7, 8] (.cons true (.op .add (.cons false (.x 5) (.cons false (.op .idx (.cons false (.x 3) (.cons false (.c (.int 0)) .nil))) .nil))) (.cons true (.op .add (.cons false (.x 6) (.cons false (.op .idx (.cons false (.x 3) (.cons false (.c (.int 1)) .nil))) .nil))) .nil)))
    (.cons (.par [9, 10] (.cons true (.call f4 (.cons false (.x 4) (.cons false (.x 7) .nil))) (.cons true (.call f4 (.cons false (.x 4) (.cons false (.x 8) .nil))) .nil)))
    (.cons (.ret (.and (.op .gt (.cons false (.op .len (.cons false (.x 9) .nil)) (.cons false (.op .len (.cons false (.x 7) .nil)) .nil))) (.and (.op .gt (.cons false (.op .len (.cons false (.x 10) .nil)) (.cons false (.op .len (.cons false (.x 8) .nil)) .nil))) (.op .eq (.cons false (.op .idx (.cons false (.x 9) (.cons false (.op .neg (.cons false (.c (.int 1)) .nil)) .nil))) (.cons false (.op .idx (.cons false (.x 10) (.cons false (.op .neg (.cons false (.c (.int 1)) .nil)) .nil))) .nil))))))
    .nil)))))))
/-- in k05 -/
def q_law_right_5 (f0 f1 f2 f3 f4 f5 f6 f7 f8 f9 f10 f11 f12 : Nat) : ISs := (.cons (.asg true 1 (.call f0 (.cons true (.x 0) (.cons false (.op .add (.cons false (.c (.int 3)) (.cons false (.call f1 (.cons true (.x 0) (.cons false (.c (.int 5)) .nil))) .nil))) .nil))))
    (.cons (.asg true 2 (.lc [3] (.inr 3) (.seq (.call f2 (.cons false (.x 1) .nil))) .nil (.op .idx (.cons false (.x 3) (.cons false (.c (.int 0)) .nil)))))
    (.cons (.for_ (.inr 4) (.seq (.x 2)) (.cons (.for_ (.inr 5) (.seq (.x 2)) (.cons (.asg true 6 (.call f3 (.cons false (.x 4) (.cons false (.x 5) .nil))))
    (.cons (.unp [7, 8] (.x 6))
    (.cons (.par [9, 10] (.cons true (.call f4 (.cons false (.x 1) (.cons false (.op .add (.cons false (.tup (.cons false (.x 4) .nil)) (.cons false (.x 7) .nil))) .nil))) (.cons true (.call f4 (.cons false (.x 1) (.cons false (.op .add (.cons false (.tup (.cons false (.x 5) .nil)) (.cons false (.x 8) .nil))) .nil))) .nil)))
    (.cons (.ite (.or (.op .isN (.cons false (.x 9) (.cons false (.c .none) .nil))) (.op .ne (.cons false (.x 9) (.cons false (.x 10) .nil)))) (.cons (.ret (.c (.bool false)))
    .nil) .nil)
    (.cons (.asg true 11 (.and (.op .ne (.cons false (.op (.slice false true) (.cons false (.x 4) (.cons false (.op .len (.cons false (.x 5) .nil)) .nil))) (.cons false (.x 5) .nil))) (.op .ne (.cons false (.op (.slice false true) (.cons false (.x 5) (.cons false (.op .len (.cons false (.x 4) .nil)) .nil))) (.cons false (.x 4) .nil)))))
    (.cons (.ite (.or (.and (.x 11) (.op .ne (.cons false (.tup (.cons false (.x 7) (.cons false (.x 8) .nil))) (.cons false (.tup (.cons false (.tup (.cons false (.x 5) .nil)) (.cons false (.tup (.cons false (.x 4) .nil)) .nil))) .nil)))) (.and (.op .eq (.cons false (.x 4) (.cons false (.x 5) .nil))) (.op .ne (.cons false (.x 6) (.cons false (.tup (.cons false (.tup .nil) (.cons false (.tup .nil) .nil))) .nil))))) (.cons (.ret (.c (.bool false)))
    .nil) .nil)
    (.cons (.asg true 12 (.lst (.cons false (.call f5 (.cons false (.x 4) (.cons false (.x 5) .nil))) (.cons false (.call f6 (.cons false (.x 4) (.cons false (.x 5) .nil))) (.cons false (.callk f6 [1, 0] (.cons false (.x 4) (.cons false (.x 5) .nil))) (.cons false (.call f3 (.cons false (.x 5) (.cons false (.x 4) .nil))) (.cons false (.call f7 (.cons false (.x 1) (.cons false (.tup (.cons false (.x 4) .nil)) (.cons false (.tup (.cons false (.x 5) .nil)) (.cons false (.x 6) .nil))))) .nil)))))))
    (.cons (.asg true 12 (.op .add (.cons false (.x 12) (.cons false (.lst (.cons false (.call f8 (.cons false (.call f9 (.cons false (.x 1) (.cons false (.x 4) .nil))) (.cons false (.x 7) .nil))) (.cons false (.callk f3 [1, 0] (.cons false (.op .list (.cons false (.x 5) .nil)) (.cons false (.op .list (.cons false (.x 4) .nil)) .nil))) .nil))) .nil))))
    (.cons (.ite (.not (.call f10 (.cons false (.x 12) (.cons false (.lst (.cons false (.x 11) (.cons false (.op .eq (.cons false (.op (.slice false true) (.cons false (.x 4) (.cons false (.op .len (.cons false (.x 5) .nil)) .nil))) (.cons false (.x 5) .nil))) (.cons false (.op .eq (.cons false (.op (.slice false true) (.cons false (.x 5) (.cons false (.op .len (.cons false (.x 4) .nil)) .nil))) (.cons false (.x 4) .nil))) (.cons false (.tup (.cons false (.x 8) (.cons false (.x 7) .nil))) (.cons false (.c (.bool true)) (.cons false (.x 9) (.cons false (.x 6) .nil)))))))) .nil)))) (.cons (.ret (.c (.bool false)))
    .nil) .nil)
    (.cons (.ite (.and (.not (.x 11)) (.and (.op .ne (.cons false (.x 4) (.cons false (.x 5) .nil))) (.op .lt (.cons false (.op .len (.cons false (.x 4) .nil)) (.cons false (.op .len (.cons false (.x 5) .nil)) .nil))))) (.cons (.asg true 13 (.op (.slice true false) (.cons false (.x 5) (.cons false (.op .len (.cons false (.x 4) .nil)) .nil))))
    (.cons (.asg true 14 (.lst (.cons false (.op .eq (.cons false (.op .idx (.cons false (.x 13) (.cons false (.c (.int 0)) .nil))) (.cons false (.c (.int 0)) .nil))) (.cons false (.op .eq (.cons false (.x 13) (.cons false (.tup (.cons false (.c (.int 1)) .nil)) .nil))) (.cons false (.and (.op .eq (.cons false (.op (.slice false true) (.cons false (.x 13) (.cons false (.c (.int 2)) .nil))) (.cons false (.tup (.cons false (.c (.int 1)) (.cons false (.c (.int 0)) .nil))) .nil))) (.op .gt (.cons false (.op .len (.cons false (.x 13) .nil)) (.cons false (.c (.int 1)) .nil)))) (.cons false (.op .eq (.cons false (.op (.slice false true) (.cons false (.x 13) (.cons false (.c (.int 2)) .nil))) (.cons false (.tup (.cons false (.c (.int 1)) (.cons false (.c (.int 1)) .nil))) .nil))) .nil))))))
    (.cons (.asg true 15 (.lst (.cons false (.tup (.cons false (.tup (.cons false (.op .add (.cons false (.op .add (.cons false (.x 4) (.cons false (.tup (.cons false (.c (.int 0)) (.cons false (.c (.int 0)) .nil))) .nil))) (.cons false (.op (.slice true false) (.cons false (.x 13) (.cons false (.c (.int 1)) .nil))) .nil))) (.cons false (.op .add (.cons false (.op .add (.cons false (.x 4) (.cons false (.tup (.cons false (.c (.int 1)) (.cons false (.c (.int 0)) .nil))) .nil))) (.cons false (.op (.slice true false) (.cons false (.x 13) (.cons false (.c (.int 1)) .nil))) .nil))) .nil))) (.cons false (.tup (.cons false (.x 4) .nil)) .nil))) (.cons false (.tup (.cons false (.tup (.cons false (.op .add (.cons false (.x 4) (.cons false (.tup (.cons false (.c (.int 1)) .nil)) .nil))) (.cons false (.x 4) .nil))) (.cons false (.tup (.cons false (.x 4) (.cons false (.op .add (.cons false (.x 4) (.cons false (.tup (.cons false (.c (.int 1)) .nil)) .nil))) (.cons false (.op .add (.cons false (.x 4) (.cons false (.tup (.cons false (.c (.int 0)) .nil)) .nil))) .nil)))) .nil))) .nil))))
    (.cons (.asg true 15 (.op .add (.cons false (.x 15) (.cons false (.lst (.cons false (.tup (.cons false (.tup (.cons false (.op .add (.cons false (.op .add (.cons false (.x 4) (.cons false (.tup (.cons false (.c (.int 0)) (.cons false (.c (.int 1)) .nil))) .nil))) (.cons false (.op (.slice true false) (.cons false (.x 13) (.cons false (.c (.int 2)) .nil))) .nil))) .nil)) (.cons false (.tup (.cons false (.x 4) .nil)) .nil))) (.cons false (.tup (.cons false (.tup (.cons false (.op .add (.cons false (.op .add (.cons false (.x 4) (.cons false (.tup (.cons false (.c (.int 1)) (.cons false (.c (.int 1)) .nil))) .nil))) (.cons false (.op (.slice true false) (.cons false (.x 13) (.cons false (.c (.int 2)) .nil))) .nil))) .nil)) (.cons false (.tup (.cons false (.x 4) .nil)) .nil))) .nil))) .nil))))
    (.cons (.ite (.not (.call f10 (.cons false (.x 6) (.cons false (.op .idx (.cons false (.x 15) (.cons false (.meth .lindex (.cons false (.x 14) .nil) (.cons false (.c (.bool true)) .nil)) .nil))) .nil)))) (.cons (.ret (.c (.bool false)))
    .nil) .nil)
    .nil))))) .nil)
    .nil)))))))))))
    .nil))
    (.cons (.par [16, 17] (.cons true (.op .tuple (.cons false (.lc [18] (.inr 18) (.range (.cons false (.call f1 (.cons true (.x 0) (.cons false (.c (.int 5)) .nil))) .nil)) .nil (.call f1 (.cons true (.x 0) (.cons false (.c (.int 2)) .nil)))) .nil)) (.cons true (.op .tuple (.cons false (.lc [18] (.inr 18) (.range (.cons false (.call f1 (.cons true (.x 0) (.cons false (.c (.int 5)) .nil))) .nil)) .nil (.call f1 (.cons true (.x 0) (.cons false (.c (.int 2)) .nil)))) .nil)) .nil)))
    (.cons (.ite (.op .eq (.cons false (.call f1 (.cons true (.x 0) (.cons false (.c (.int 2)) .nil))) (.cons false (.c (.int 0)) .nil))) (.cons (.asg true 17 (.op .add (.cons false (.x 16) (.cons false (.x 17) .nil))))
    .nil) .nil)
    (.cons (.asg true 19 (.op .tuple (.cons false (.lc [18] (.inr 18) (.range (.cons false (.call f1 (.cons true (.x 0) (.cons false (.c (.int 4)) .nil))) .nil)) .nil (.call f1 (.cons true (.x 0) (.cons false (.c (.int 2)) .nil)))) .nil)))
    (.cons (.unp [4, 5] (.call f3 (.cons false (.x 16) (.cons false (.x 17) .nil))))
    (.cons (.asg false 20 (.tup (.cons false (.op .tuple (.cons false (.lc [3] (.inr 3) (.seq (.x 4)) .nil (.op .add (.cons false (.x 19) (.cons false (.x 3) .nil)))) .nil)) (.cons false (.op .tuple (.cons false (.lc [3] (.inr 3) (.seq (.x 5)) .nil (.op .add (.cons false (.x 19) (.cons false (.x 3) .nil)))) .nil)) .nil))))
    (.cons (.asg true 12 (.lst (.cons false (.call f3 (.cons false (.op .add (.cons false (.x 19) (.cons false (.x 16) .nil))) (.cons false (.op .add (.cons false (.x 19) (.cons false (.x 17) .nil))) .nil))) (.cons false (.call f11 (.cons false (.tup (.cons false (.x 16) .nil)) (.cons false (.tup (.cons false (.x 17) .nil)) .nil))) (.cons false (.callk f5 [1, 0] (.cons false (.x 17) (.cons false (.x 16) .nil))) (.cons false (.call f6 (.cons false (.op .add (.cons false (.x 19) (.cons false (.x 16) .nil))) (.cons false (.x 19) .nil))) .nil))))))
    (.cons (.ite (.not (.call f10 (.cons false (.x 12) (.cons false (.lst (.cons false (.x 20) (.cons false (.tup (.cons false (.x 4) (.cons false (.x 5) .nil))) (.cons false (.and (.op .ne (.cons false (.op (.slice false true) (.cons false (.x 16) (.cons false (.op .len (.cons false (.x 17) .nil)) .nil))) (.cons false (.x 17) .nil))) (.op .ne (.cons false (.op (.slice false true) (.cons false (.x 17) (.cons false (.op .len (.cons false (.x 16) .nil)) .nil))) (.cons false (.x 16) .nil)))) (.cons false (.c (.bool true)) .nil))))) .nil)))) (.cons (.ret (.c (.bool false)))
    .nil) .nil)
    (.cons (.ite (.op .eq (.cons false (.x 2) (.cons false (.lst .nil) .nil))) (.cons (.ret (.c (.bool true)))
    .nil) .nil)
    (.cons (.par [4, 5] (.cons true (.call f12 (.cons true (.x 0) (.cons false (.x 2) .nil))) (.cons true (.call f12 (.cons true (.x 0) (.cons false (.x 2) .nil))) .nil)))
    (.cons (.asg true 6 (.call f3 (.cons false (.x 4) (.cons false (.x 5) .nil))))
    (.cons (.asg true 21 (.lst (.cons false (.x 6) (.cons false (.op .list (.cons false (.x 6) .nil)) (.cons false (.tup (.cons false (.op .list (.cons false (.op .idx (.cons false (.x 6) (.cons false (.c (.int 0)) .nil))) .nil)) (.cons false (.op .idx (.cons false (.x 6) (.cons false (.c (.int 1)) .nil))) .nil))) (.cons false (.c .none) (.cons false (.tup .nil) (.cons false (.op (.slice false true) (.cons false (.x 6) (.cons false (.c (.int 1)) .nil))) (.cons false (.op .add (.cons false (.x 6) (.cons false (.tup (.cons false (.tup .nil) .nil)) .nil))) (.cons false (.tup (.cons false (.op .add (.cons false (.op .idx (.cons false (.x 6) (.cons false (.c (.int 0)) .nil))) (.cons false (.tup (.cons false (.tup .nil) .nil)) .nil))) (.cons false (.op .idx (.cons false (.x 6) (.cons false (.c (.int 1)) .nil))) .nil))) (.cons false (.c (.int 0)) (.cons false (.tup (.cons false (.tup .nil) (.cons false (.tup .nil) .nil))) (.cons false (.tup (.cons false (.tup (.cons false (.c .none) .nil)) (.cons false (.tup .nil) .nil))) (.cons false (.tup (.cons false (.op .idx (.cons false (.x 6) (.cons false (.c (.int 1)) .nil))) (.cons false (.op .idx (.cons false (.x 6) (.cons false (.c (.int 0)) .nil))) .nil))) .nil))))))))))))))
    (.cons (.asg false 20 (.lst .nil))
    (.cons (.for_ (.inr 3) (.seq (.x 21)) (.cons (.asg true 22 (.and (.op .isTuple (.cons false (.x 3) .nil)) (.and (.op .eq (.cons false (.op .len (.cons false (.x 3) .nil)) (.cons false (.c (.int 2)) .nil))) (.op .eq (.cons false (.lc [23] (.inr 23) (.seq (.x 3)) (.cons false (.or (.not (.op .isTuple (.cons false (.x 23) .nil))) (.op .ne (.cons false (.lc [24] (.inr 24) (.seq (.x 23)) (.cons false (.not (.op .isTuple (.cons false (.x 24) .nil))) .nil) (.c (.int 1))) (.cons false (.lst .nil) .nil)))) .nil) (.c (.int 1))) (.cons false (.lst .nil) .nil))))))
    (.cons (.asg true 9 (.ite (.x 22) (.call f4 (.cons false (.x 1) (.cons false (.op .add (.cons false (.tup (.cons false (.x 4) .nil)) (.cons false (.op .idx (.cons false (.x 3) (.cons false (.c (.int 0)) .nil))) .nil))) .nil))) (.c .none)))
    (.cons (.ap 20 (.and (.x 22) (.and (.op .notN (.cons false (.x 9) (.cons false (.c .none) .nil))) (.op .eq (.cons false (.x 9) (.cons false (.call f4 (.cons false (.x 1) (.cons false (.op .add (.cons false (.tup (.cons false (.x 5) .nil)) (.cons false (.op .idx (.cons false (.x 3) (.cons false (.c (.int 1)) .nil))) .nil))) .nil))) .nil))))))
    .nil))))
    (.cons (.ret (.call f10 (.cons false (.lc [3] (.inr 3) (.seq (.x 21)) .nil (.call f7 (.cons false (.x 1) (.cons false (.tup (.cons false (.x 4) .nil)) (.cons false (.tup (.cons false (.x 5) .nil)) (.cons false (.x 3) .nil)))))) (.cons false (.x 20) .nil))))
    .nil)))))))))))))))))
/-- in k20 k21 k22 k23 k24 k25 k26 k27 k28 k29 k30 k31 k32 k33 k34 k35 k43 k44 k45 k46 k49 k51 k53 k54 k55 k56 k57 k59 -/
def q_rows_in_2 : ISs := (.cons (.asg true 1 (.op .shl (.cons false (.c (.int 1)) (.cons false (.x 0) .nil))))
    (.cons (.asg false 2 (.op .add (.cons false (.lc [3] (.inr 3) (.range (.cons false (.x 1) .nil)) .nil (.lst .nil)) (.cons false (.lst (.cons false (.op .listR (.cons false (.c (.int 1)) (.cons false (.op .add (.cons false (.x 1) (.cons false (.c (.int 1)) .nil))) .nil))) .nil)) .nil))))
    (.cons (.for_ (.inr 4) (.range (.cons false (.op .sub (.cons false (.x 1) (.cons false (.c (.int 1)) .nil))) (.cons false (.c (.int 0)) (.cons false (.op .neg (.cons false (.c (.int 1)) .nil)) .nil)))) (.cons (.asg false 5 (.lst (.cons false (.op .add (.cons false (.x 4) (.cons false (.c (.int 1)) .nil))) .nil)))
    (.cons (.whl (.op .ne (.cons false (.op .idx (.cons false (.x 5) (.cons false (.op .neg (.cons false (.c (.int 1)) .nil)) .nil))) (.cons false (.x 1) .nil))) (.cons (.asg true 6 (.op .idx (.cons false (.x 2) (.cons false (.op .idx (.cons false (.x 5) (.cons false (.op .neg (.cons false (.c (.int 1)) .nil)) .nil))) .nil))))
    (.cons (.ap 5 (.op .idx (.cons false (.x 6) (.cons false (.op .mod (.cons false (.x 4) (.cons false (.op .len (.cons false (.x 6) .nil)) .nil))) .nil))))
    .nil)))
    (.cons (.sub 2 (.x 4) (.x 5))
    .nil))))
    (.cons (.ret (.x 2))
    .nil))))
end Pv
-- PvCom
set_option maxRecDepth 100000
namespace Pv
open PySem L2
/-- what a box holds: all it needs for drawing on -/
structure TinOk (A C : Int) : Prop where
  a : 0 ≤ A
  c : 0 ≤ C
  c2 : C < 1000000000
def tin (A B C : Int) : List PV := [.int A, .int B, .int C]
theorem small_of {i : Int} (h1 : -18446744073709551616 < i) (h2 : i < 18446744073709551616) : small i = true := by
  unfold small
  simp only [Bool.and_eq_true, decide_eq_true_eq]
  constructor <;> omega
def once (B C : Int) : Int := ((B + 48271 * C) * (39373 + C)) % 2147483647
def wide (B C : Int) : Int := once B C % 40009 + 7
def twice (B C : Int) : Int := ((once B C + C + B / 1000003) * wide B C) % 2147483629
def drawV (B C n : Int) : Int := ((twice B C * 48271 + once B C) % 2147483587 / 64) % n
theorem log_of {n : Int} (h : 0 < n) (h2 : n < 1000000000) : n.natAbs.log2 < 9000 := by
  have h0 : n.natAbs ≠ 0 := by omega
  have : n.natAbs.log2 < 30 := (Nat.log2_lt h0).mpr (by omega)
  omega
theorem take_spec {T : Nat → Option FD} {i : Nat} (hT : T i = some ⟨2, 6, [0], q_law_take⟩) (k : Nat) {A B C n : Int} (h : TinOk A C) (hn : 0 < n) (hn2 : n < 1000000000) :
    ∃ v A' C', runF T (k + 1) i [.ml (tin A B C), .v (.int n)] = .ret (.v (.int v)) [.ml (tin A' B C')] ∧ 0 ≤ v ∧ v < n ∧ 0 ≤ A' ∧ C ≤ C' ∧ C' ≤ C + 1 := by
  have hlog := log_of hn hn2
  by_cases hA : 0 < A
  · refine ⟨A % n, A / n, C, ?_, Int.emod_nonneg _ (by omega), Int.emod_lt_of_pos _ hn, Int.ediv_nonneg h.a (by omega), by omega, by omega⟩
    rw [y_run hT]
    simp [tin, q_law_take, ioOk, free, opf1, opf2, cmpf, idxf, atI, ixN, gtf, hA, intf, vI, modf, hn, fdivf, hlog, isMl, outsOf]
  · have hs1 : small (39373 + (C + 1)) = true := small_of (by have := h.c; omega) (by have := h.c2; omega)
    have hs2 : small 48271 = true := rfl
    have hs3 : ∀ x : Int, small (x % 40009 + 7) = true := fun x => small_of (by omega) (by omega)
    have l1 : ∀ x : Int, fdivf (.int x) (.int 1000003) = some (.v (.int (x / 1000003))) := fun x => rfl
    have l2 : ∀ x : Int, fdivf (.int x) (.int 64) = some (.v (.int (x / 64))) := fun x => rfl
    refine ⟨drawV B (C + 1) n, A, C + 1, ?_, Int.emod_nonneg _ (by omega), Int.emod_lt_of_pos _ hn, h.a, by omega, by omega⟩
    rw [y_run hT]
    simp [tin, q_law_take, ioOk, free, opf1, opf2, cmpf, idxf, atI, ixN, gtf, hA, intf, vI, modf, hn, l1, l2, isMl, outsOf, addf, mulf, hs1, hs2, hs3, drawV, once, wide, twice]

theorem box_spec {T : Nat → Option FD} {i : Nat} {cc : Int} (hT : T i = some ⟨2, 3, [], q_law_box cc⟩) (k : Nat) (cs : List Int) (j : Nat) (hj : j < cs.length) (hs : cs.length < 1000000) :
    ∃ A B, runF T (k + 1) i [.v (.list (cs.map .int)), .v (.int j)] = .ret (.ml (tin A B 0)) [] ∧ 0 ≤ A := by
  have hget : idxf (.list (cs.map .int)) (.int j) = some (.v (.int cs[j])) := by
    simp [idxf, atI, ixN, hj]
  have hs0 : ∀ (p : Prop) [Decidable p], small (if p then (1 : Int) else 0) = true := fun p _ => by
    by_cases h : p
    · rw [if_pos h]; rfl
    · rw [if_neg h]; rfl
  have hs1 : small 39373 = true := rfl
  have hp : powf (.int 10) (.int 18) = some (.v (.int (10 ^ 18))) := rfl
  have hlt : (j : Int) < cs.length := by omega
  refine ⟨(if cs[j] < 0 then -cs[j] else cs[j]) * (if decide (10 ^ 18 ≤ (if cs[j] < 0 then -cs[j] else cs[j])) = true then 1 else 0), cs[j] % 2305843009213693951 + 39373 * (j : Int) + cc, ?_, ?_⟩
  · rw [y_run hT]
    simp [q_law_box, ioOk, free, opf1, opf2, cmpf, lenf, vI, ltf, hlt, hget, absf, gef, hp, intf, mulf, hs0, hs1, modf, addf, outsOf, tin]
  · split <;> split <;> omega

theorem cells_loop {cf : Nat → List Ob → CR} {o0 : Option Ob} {m : Nat} (hm : 0 < m) : ∀ (zs : List Int) (k0 : Nat) (cs : List Int) (o3 o4 o5 : Option Ob), cs.length = m → k0 + zs.length ≤ 63 →
    ∃ (cs' : List Int) (o3' o4' o5' : Option Ob), cs'.length = m ∧ forL (forT cf [] (.inl [3, 4]) (.cons (.asg true 5 (.op .mod (.cons false (.op .int (.cons false (.x 3) .nil)) (.cons false (.x 1) .nil))))
        (.cons (.sub 2 (.x 5) (.op .add (.cons false (.op .idx (.cons false (.x 2) (.cons false (.x 5) .nil))) (.cons false (.op .mul (.cons false (.x 4) (.cons false (.op .add (.cons false (.x 3) (.cons false (.c (.int 2)) .nil))) .nil))) .nil)))) .nil))) (enumL k0 (zs.map .int)) [o0, some (.v (.int m)), some (.ml (cs.map .int)), o3, o4, o5] = .ok .nx [o0, some (.v (.int m)), some (.ml (cs'.map .int)), o3', o4', o5']
  | [], k0, cs, o3, o4, o5, hc, _ => ⟨cs, o3, o4, o5, hc, by simp [enumL, forL]⟩
  | z :: zs, k0, cs, o3, o4, o5, hc, hk => by
    rw [List.length_cons] at hk
    obtain ⟨q, hmod, hlt⟩ : ∃ q : Nat, (k0 : Int) % (m : Int) = q ∧ q < cs.length := ⟨k0 % m, by omega, by rw [hc]; exact Nat.mod_lt _ hm⟩
    have hpos : (0 : Int) < m := by omega
    have hql : (q : Int) < cs.length := by omega
    have hget : idxf (.list (cs.map .int)) (.int q) = some (.v (.int cs[q])) := by
      simp [idxf, atI, ixN, hlt]
    have hix : ixN cs.length (q : Int) = some q := by
      simp [ixN, hlt]
    have hs : small ((k0 : Int) + 2) = true := small_of (by omega) (by omega)
    obtain ⟨cs', a, b, c, h1, h2⟩ := cells_loop (cf := cf) (o0 := o0) hm zs (k0 + 1) (cs.set q (cs[q] + z * (k0 + 2))) (some (.v (.int k0))) (some (.v (.int z))) (some (.v (.int q))) (by rw [List.length_set]; exact hc) (by omega)
    refine ⟨cs', a, b, c, h1, ?_⟩
    rw [List.map_cons, enumL, forL, ← h2]
    simp [forT, setTg, setTgs, free, opf1, opf2, cmpf, intf, vI, modf, hm, hpos, hmod, isMl, hget, mulf, addf, hs, hix, List.map_set]
theorem cells_spec {T : Nat → Option FD} {i : Nat} (hT : T i = some ⟨2, 6, [], q_law_cells⟩) (k m : Nat) (hm : 0 < m) (hm2 : m ≤ 63) (ns : List Int) :
    ∃ cs : List Int, runF T (k + 1) i [.v (ro (ns.map .int)), .v (.int m)] = .ret (.ml (cs.map .int)) [] ∧ 0 < cs.length ∧ cs.length ≤ m := by
  have hcut : ∀ lo hi, cutP (ns.map PyData.int) lo hi = (((ns.drop (HT.sIx ns.length 0 lo)).take (HT.sIx ns.length ns.length hi - HT.sIx ns.length 0 lo)).map PyData.int) := fun lo hi => by
    unfold cutP
    rw [List.length_map, ← List.map_drop, ← List.map_take]
  have hA : slicef (ro (ns.map .int)) none (some (m : Int)) = some (.ml ((ns.take m).map .int)) := by
    unfold slicef ro
    simp only [hcut, HT.sIx_none, HT.sIx_nat, List.drop_zero, Nat.sub_zero]
    congr 3
    rw [List.take_eq_take_iff]
    omega
  obtain ⟨zs, hz1, hz2⟩ : ∃ zs : List Int, slicef (ro (ns.map .int)) (some (m : Int)) (some 63) = some (.ml (zs.map .int)) ∧ (zs.length ≤ 63) ∧ (zs = [] ∨ (ns.take m).length = m) := by
    refine ⟨(ns.drop (HT.sIx ns.length 0 (some (m : Int)))).take (HT.sIx ns.length ns.length (some 63) - HT.sIx ns.length 0 (some (m : Int))), by unfold slicef ro; simp only [hcut], ?_, ?_⟩
    · have := HT.sIx_nat ns.length ns.length 63
      rw [List.length_take]
      have e : HT.sIx ns.length ns.length (some 63) = min 63 ns.length := this
      rw [e]
      omega
    · rw [HT.sIx_nat, List.length_take]
      by_cases h : m ≤ ns.length
      · right; omega
      · left
        rw [List.drop_eq_nil_of_le (by omega), List.take_nil]
  have hs : ∀ d : PV, True := fun _ => trivial
  rcases hz2 with ⟨hz2, hz3⟩
  by_cases hn : ns.take m = []
  · -- nothing there
    have hzs : zs = [] := by
      rcases hz3 with h | h
      · exact h
      · rw [hn] at h; simp at h; omega
    subst hzs
    rw [hn] at hA
    refine ⟨[0], ?_, by simp, by simp; omega⟩
    rw [y_run hT]
    simp [q_law_cells, ioOk, free, opf1, opf2, bInt, hA, hz1, listf, freeTg, enumL, forL, outsOf, listOf, methL]
  · have hne : (ns.take m).isEmpty = false := by simpa using hn
    have hpos : 0 < (ns.take m).length := List.length_pos_iff.mpr hn
    have hle : (ns.take m).length ≤ m := by rw [List.length_take]; omega
    generalize ns.take m = cs at hA hne hpos hle hz3
    by_cases hzs : zs = []
    · subst hzs
      refine ⟨cs, ?_, hpos, hle⟩
      rw [y_run hT]
      simp [q_law_cells, ioOk, free, opf1, opf2, bInt, hA, hz1, listf, freeTg, enumL, forL, outsOf, listOf, hne]
    · have hcm : cs.length = m := hz3.resolve_left hzs
      obtain ⟨cs', a, b, c, h1, h2⟩ := cells_loop (cf := runF T k) (o0 := some (.v (ro (ns.map .int)))) hm zs 0 cs none none none hcm (by omega)
      refine ⟨cs', ?_, by omega, by omega⟩
      rw [y_run hT]
      simp [q_law_cells, ioOk, free, opf1, opf2, bInt, hA, hz1, listf, freeTg, outsOf, listOf, hne, h2]
end Pv
-- PvSame
set_option maxRecDepth 100000
namespace Pv
open PySem L2
mutual
def nice : PV → Bool
  | .dict _ => false
  | .list xs => decide (xs.length ≤ 16777216) && niceA xs
  | .tuple xs => decide (xs.length ≤ 16777216) && niceA xs
  | _ => true
def niceA : List PV → Bool
  | [] => true
  | x :: xs => nice x && niceA xs
end
@[simp] theorem eqf_bb {a b : Bool} : eqf (.bool a) (.bool b) = some (a == b) := by simp [eqf, eqOk, PyData.depth, PyData.eqv]
@[simp] theorem nef_bb {a b : Bool} : nef (.bool a) (.bool b) = some (a != b) := by simp [nef, eqOk, PyData.depth, PyData.eqv, bne]
@[simp] theorem eqf_ss {a b : Str} : eqf (.str a) (.str b) = some (a == b) := by simp [eqf, eqOk, PyData.depth, PyData.eqv]
def sameF : PV → PV
  | .tuple [a, b] => .bool (pvEq a b)
  | _ => .none
theorem niceA_mem : ∀ {xs : List PV} {x : PV}, niceA xs = true → x ∈ xs → nice x = true
  | _ :: xs, x, h, hx => by
    rw [niceA] at h
    obtain ⟨h1, h2⟩ := and2 h
    rcases List.mem_cons.mp hx with e | hx
    · rw [e]; exact h1
    · exact niceA_mem h2 hx
theorem depth_mem : ∀ {xs : List PV} {x : PV}, x ∈ xs → x.depth ≤ PyData.depthAll xs
  | y :: xs, x, hx => by
    rw [PyData.depthAll]
    rcases List.mem_cons.mp hx with e | hx
    · rw [e]; omega
    · have := depth_mem hx
      omega
theorem zip_mem : ∀ {xs ys : List PV} {d : PV}, d ∈ zipL xs ys → ∃ a b, d = .tuple [a, b] ∧ a ∈ xs ∧ b ∈ ys
  | [], ys, d, h => by rw [zipL] at h; cases h; all_goals simp
  | _ :: _, [], d, h => by rw [zipL] at h; cases h; all_goals simp
  | x :: xs, y :: ys, d, h => by
    rw [zipL] at h
    rcases List.mem_cons.mp h with e | h
    · exact ⟨x, y, e, List.mem_cons_self, List.mem_cons_self⟩
    · obtain ⟨a, b, e, h1, h2⟩ := zip_mem h
      exact ⟨a, b, e, List.mem_cons_of_mem _ h1, List.mem_cons_of_mem _ h2⟩
theorem same_all : ∀ {xs ys : List PV}, xs.length = ys.length → ∃ bs, bBools ((zipL xs ys).map sameF) = some bs ∧ bs.all id = pvEqs xs ys
  | [], [], _ => ⟨[], rfl, rfl⟩
  | [], _ :: _, h => by cases h
  | _ :: _, [], h => by cases h
  | x :: xs, y :: ys, h => by
    obtain ⟨bs, h1, h2⟩ := same_all (xs := xs) (ys := ys) (by simpa using h)
    refine ⟨pvEq x y :: bs, ?_, ?_⟩
    · rw [zipL, List.map_cons, sameF, bBools, h1]; rfl
    · rw [List.all_cons, h2, pvEqs]; rfl
theorem pvEqs_len : ∀ {xs ys : List PV}, xs.length ≠ ys.length → pvEqs xs ys = false
  | [], [], h => absurd rfl h
  | [], _ :: _, _ => rfl
  | _ :: _, [], _ => rfl
  | x :: xs, y :: ys, h => by
    rw [pvEqs, pvEqs_len (xs := xs) (ys := ys) (by simpa using h), Bool.and_false]
theorem bdec {α : Type} [BEq α] [LawfulBEq α] [DecidableEq α] {a b : α} : (a == b) = decide (a = b) := by
  rw [Bool.eq_iff_iff]; simp
theorem same_spec {T : Nat → Option FD} {i : Nat} (hT : T i = some ⟨2, 4, [], q_law_same i⟩) : ∀ (k : Nat) (d g : PV), nice d = true → nice g = true → d.depth + 1 ≤ k → runF T k i [.v g, .v d] = .ret (.v (.bool (pvEq g d))) []
  | 0, d, g, _, _, h => by omega
  | k + 1, d, g, hd, hg, hk => by
    have seq : ∀ (xs ys : List PV) (mk : List PV → PV), niceA xs = true → niceA ys = true → ys.length ≤ 16777216 → PyData.depthAll ys + 1 ≤ k →
        zipOf (mk xs) (mk ys) = some (zipL xs ys) → isD (mk xs) = false → isD (mk ys) = false →
        evE (runF T k) [] (.lc [2, 3] (.inl [2, 3]) (.zip (.x 0) (.x 1)) .nil (.call i (.cons false (.x 2) (.cons false (.x 3) .nil)))) [some (.v (mk xs)), some (.v (mk ys)), none, none] =
          .ok (.ml ((zipL xs ys).map sameF)) [some (.v (mk xs)), some (.v (mk ys)), none, none] := fun xs ys mk hx hy hl hdep hz d1 d2 => by
      refine lc_map sameF (by simp) ?_ rfl (by rw [zipL_length]; simp; omega) fun d hd => ?_
      · have e1 := y_fzv (env := [some (.v (mk xs)), some (.v (mk ys)), none, none]) d1
        have e2 := y_fzv (env := [some (.v (mk xs)), some (.v (mk ys)), none, none]) d2
        simp [e1, e2, hz]
      · obtain ⟨a, b, rfl, ha, hb⟩ := zip_mem hd
        have dm := depth_mem hb
        have ih := same_spec hT k b a (niceA_mem hy hb) (niceA_mem hx ha) (by omega)
        refine ⟨_, .v (.bool (pvEq a b)), [some (.v (mk xs)), some (.v (mk ys)), some (.v a), some (.v b)], rfl, ?_, rfl, rfl⟩
        simp [ih, handsOk, ioNames, putBack]
    rw [y_run hT]
    cases d with
    | dict _ => cases hd
    | none => cases g <;> first | (cases hg; done) | simp [q_law_same, ioOk, opf1, opf2, cmpf, kindf, vB, isSeqV, isListV, isTupV, isNf, isNone, outsOf, pvEq]
    | bool b => cases g <;> first | (cases hg; done) | simp [q_law_same, ioOk, opf1, opf2, cmpf, kindf, vB, isSeqV, isListV, isTupV, isNf, isNone, outsOf, pvEq, isBoolV, isStrV]
    | int b => cases g <;> first | (cases hg; done) | simp [q_law_same, ioOk, opf1, opf2, cmpf, kindf, vB, isSeqV, isListV, isTupV, isNf, isNone, outsOf, pvEq, isBoolV, isStrV, isIntV, bdec]
    | str b => cases g <;> first | (cases hg; done) | simp [q_law_same, ioOk, opf1, opf2, cmpf, kindf, vB, isSeqV, isListV, isTupV, isNf, isNone, outsOf, pvEq, isBoolV, isStrV, isIntV, bdec]
    | list ys =>
      cases g <;> first | (cases hg; done) | skip
      case list xs =>
        rw [nice] at hd hg
        obtain ⟨hd1, hd2⟩ := and2 hd
        obtain ⟨hg1, hg2⟩ := and2 hg
        rw [PyData.depth] at hk
        have hs := seq xs ys .list hg2 hd2 (of_decide_eq_true hd1) (by omega) rfl rfl rfl
        by_cases hl : xs.length = ys.length
        · obtain ⟨bs, b1, b2⟩ := same_all hl
          simp [q_law_same, ioOk, opf1, opf2, cmpf, kindf, vB, isSeqV, isListV, isTupV, outsOf, pvEq, lenf, vI, hl, hs, allf, b1, b2]
        · have hl' : ((xs.length : Int) == ys.length) = false := by simpa using fun e => hl (by omega)
          simp [q_law_same, ioOk, opf1, opf2, cmpf, kindf, vB, isSeqV, isListV, isTupV, outsOf, pvEq, lenf, vI, hl', pvEqs_len hl]
      all_goals simp [q_law_same, ioOk, opf1, opf2, cmpf, kindf, vB, isSeqV, isListV, isTupV, outsOf, pvEq]
    | tuple ys =>
      cases g <;> first | (cases hg; done) | skip
      case tuple xs =>
        rw [nice] at hd hg
        obtain ⟨hd1, hd2⟩ := and2 hd
        obtain ⟨hg1, hg2⟩ := and2 hg
        rw [PyData.depth] at hk
        have hs := seq xs ys .tuple hg2 hd2 (of_decide_eq_true hd1) (by omega) rfl rfl rfl
        by_cases hl : xs.length = ys.length
        · obtain ⟨bs, b1, b2⟩ := same_all hl
          simp [q_law_same, ioOk, opf1, opf2, cmpf, kindf, vB, isSeqV, isListV, isTupV, outsOf, pvEq, lenf, vI, hl, hs, allf, b1, b2]
        · have hl' : ((xs.length : Int) == ys.length) = false := by simpa using fun e => hl (by omega)
          simp [q_law_same, ioOk, opf1, opf2, cmpf, kindf, vB, isSeqV, isListV, isTupV, outsOf, pvEq, lenf, vI, hl', pvEqs_len hl]
      all_goals simp [q_law_same, ioOk, opf1, opf2, cmpf, kindf, vB, isSeqV, isListV, isTupV, outsOf, pvEq]
end Pv
-- PvBush
set_option maxRecDepth 100000
namespace Pv
open PySem L2
mutual
def tupP : PV → PV
  | .list xs => .tuple (tupPs xs)
  | .tuple xs => .tuple (tupPs xs)
  | d => d
def tupPs : List PV → List PV
  | [] => []
  | x :: xs => tupP x :: tupPs xs
end
theorem tupPs_map : ∀ xs : List PV, tupPs xs = xs.map tupP
  | [] => rfl
  | x :: xs => by rw [tupPs, List.map_cons, tupPs_map xs]
def seqPV : PV → Bool
  | .list _ => true
  | .tuple _ => true
  | _ => false
theorem tupled_spec {T : Nat → Option FD} {i : Nat} (hT : T i = some ⟨1, 2, [], q_tupled i⟩) : ∀ (k : Nat) (d : PV), nice d = true → d.depth + 1 ≤ k → runF T k i [.v d] = .ret (.v (tupP d)) []
  | 0, d, _, h => by omega
  | k + 1, d, hd, hk => by
    have seq : ∀ (xs : List PV) (mk : List PV → PV), niceA xs = true → xs.length ≤ 16777216 → PyData.depthAll xs + 1 ≤ k → itemsOf (mk xs) = some xs → isD (mk xs) = false →
        evE (runF T k) [] (.lc [1] (.inr 1) (.seq (.x 0)) .nil (.call i (.cons false (.x 1) .nil))) [some (.v (mk xs)), none] = .ok (.ml (xs.map tupP)) [some (.v (mk xs)), none] := fun xs mk hx hl hdep hi hd => by
      refine lc_map tupP (by simp) ?_ rfl (by simpa using hl) fun d hd => ?_
      · have e1 := y_fzv (env := [some (.v (mk xs)), none]) hd
        simp [e1, hi]
      · have dm := depth_mem hd
        have ih := tupled_spec hT k d (niceA_mem hx hd) (by omega)
        refine ⟨_, .v (tupP d), [some (.v (mk xs)), some (.v d)], rfl, ?_, y_fzv ?_, rfl⟩
        · simp [ih, handsOk, ioNames, putBack]
        · have := niceA_mem hx hd
          cases d <;> first | rfl | (cases this)
    rw [y_run hT]
    cases d with
    | dict _ => cases hd
    | list xs =>
      rw [nice] at hd
      obtain ⟨h1, h2⟩ := and2 hd
      rw [PyData.depth] at hk
      have := seq xs .list h2 (of_decide_eq_true h1) (by omega) rfl rfl
      simp [q_tupled, ioOk, opf1, opf2, kindf, vB, isSeqV, isListV, isTupV, this, tuplef, outsOf, tupP, tupPs_map]
    | tuple xs =>
      rw [nice] at hd
      obtain ⟨h1, h2⟩ := and2 hd
      rw [PyData.depth] at hk
      have := seq xs .tuple h2 (of_decide_eq_true h1) (by omega) rfl rfl
      simp [q_tupled, ioOk, opf1, opf2, kindf, vB, isSeqV, isListV, isTupV, this, tuplef, outsOf, tupP, tupPs_map]
    | none => simp [q_tupled, ioOk, opf1, opf2, kindf, vB, isSeqV, isListV, isTupV, outsOf, tupP]
    | bool _ => simp [q_tupled, ioOk, opf1, opf2, kindf, vB, isSeqV, isListV, isTupV, outsOf, tupP]
    | int _ => simp [q_tupled, ioOk, opf1, opf2, kindf, vB, isSeqV, isListV, isTupV, outsOf, tupP]
    | str _ => simp [q_tupled, ioOk, opf1, opf2, kindf, vB, isSeqV, isListV, isTupV, outsOf, tupP]
theorem long_spec {T : Nat → Option FD} {i : Nat} (hT : T i = some ⟨2, 2, [], q_is_long⟩) (k : Nat) (xs : List PV) (n : Int) : runF T (k + 1) i [.v (.tuple xs), .v (.int n)] = .ret (.v (.bool ((xs.length : Int) == n))) [] := by
  rw [y_run hT]
  simp [q_is_long, ioOk, opf1, opf2, cmpf, kindf, vB, isTupV, lenf, vI, outsOf]
def bushP : PV → Bool
  | .tuple [] => true
  | .tuple [a, b] => bushP a && bushP b
  | _ => false
theorem is_bush_spec {T : Nat → Option FD} {i l : Nat} (hT : T i = some ⟨1, 1, [], q_is_bush_in l i⟩) (hl : T l = some ⟨2, 2, [], q_is_long⟩) : ∀ (k : Nat) (d : PV), nice d = true → d.depth + 2 ≤ k → runF T k i [.v d] = .ret (.v (.bool (bushP d))) []
  | 0, d, _, h => by omega
  | k + 1, d, hd, hk => by
    obtain ⟨k', rfl⟩ : ∃ j, k = j + 1 := ⟨k - 1, by omega⟩
    rw [y_run hT]
    cases d with
    | dict _ => cases hd
    | none => simp [q_is_bush_in, ioOk, opf1, opf2, kindf, vB, isTupV, outsOf, bushP]
    | bool _ => simp [q_is_bush_in, ioOk, opf1, opf2, kindf, vB, isTupV, outsOf, bushP]
    | int _ => simp [q_is_bush_in, ioOk, opf1, opf2, kindf, vB, isTupV, outsOf, bushP]
    | str _ => simp [q_is_bush_in, ioOk, opf1, opf2, kindf, vB, isTupV, outsOf, bushP]
    | list _ => simp [q_is_bush_in, ioOk, opf1, opf2, kindf, vB, isTupV, outsOf, bushP]
    | tuple xs =>
      have hlong := fun n => long_spec hl k' xs n
      match xs, hlong, hd, hk with
      | [], _, _, _ => simp [q_is_bush_in, ioOk, opf1, opf2, cmpf, kindf, vB, isTupV, outsOf, bushP]
      | [a], hlong, _, _ => simp [q_is_bush_in, ioOk, opf1, opf2, cmpf, kindf, vB, isTupV, outsOf, bushP, hlong, handsOk, putBack, ioNames]
      | [a, b], hlong, hd, hk =>
        rw [nice, niceA, niceA, niceA] at hd
        simp only [Bool.and_eq_true] at hd
        rw [PyData.depth, PyData.depthAll, PyData.depthAll, PyData.depthAll] at hk
        have ia := is_bush_spec hT hl (k' + 1) a hd.2.1 (by omega)
        have ib := is_bush_spec hT hl (k' + 1) b hd.2.2.1 (by omega)
        simp [q_is_bush_in, ioOk, opf1, opf2, cmpf, kindf, vB, isTupV, outsOf, bushP, hlong, handsOk, putBack, ioNames, idxf, atI, ixN, ia, ib]
        cases bushP a <;> simp [ib, putBack]
      | a :: b :: c :: r, hlong, _, _ =>
        have e : ((r.length : Int) + 1 + 1 + 1 == 2) = false := by simp; omega
        simp [q_is_bush_in, ioOk, opf1, opf2, cmpf, kindf, vB, isTupV, outsOf, bushP, hlong, handsOk, putBack, ioNames, e]
/-- a bush that one may ask for -/
theorem sure_bush_spec {T : Nat → Option FD} {i t b l : Nat} (hT : T i = some ⟨1, 2, [], q_sure_bush t b⟩) (ht : T t = some ⟨1, 2, [], q_tupled t⟩) (hb : T b = some ⟨1, 1, [], q_is_bush_in l b⟩) (hl : T l = some ⟨2, 2, [], q_is_long⟩)
    (k : Nat) (d : PV) (hd : nice d = true) (hd2 : nice (tupP d) = true) (hk : d.depth + 1 ≤ k) (hk2 : (tupP d).depth + 2 ≤ k) (ok : bushP (tupP d) = true) : runF T (k + 1) i [.v d] = .ret (.v (tupP d)) [] := by
  have h1 := tupled_spec ht k d hd hk
  have h2 := is_bush_spec hb hl k (tupP d) hd2 hk2
  rw [y_run hT]
  simp [q_sure_bush, ioOk, free, h1, h2, ok, handsOk, ioNames, putBack, outsOf]
end Pv
-- PvBush2
set_option maxRecDepth 100000
namespace Pv
open PySem L2
inductive Bush where
  | lf | nd (a b : Bush)
  deriving DecidableEq
namespace Bush
def enc : Bush → PV
  | lf => .tuple []
  | nd a b => .tuple [a.enc, b.enc]
def leaves : Bush → Nat
  | lf => 1
  | nd a b => a.leaves + b.leaves
def height : Bush → Nat
  | lf => 0
  | nd a b => 1 + max a.height b.height
def mirror : Bush → Bush
  | lf => lf
  | nd a b => nd b.mirror a.mirror
def places : Bush → List (List Bool)
  | lf => [[]]
  | nd a b => [] :: (a.places.map (false :: ·) ++ b.places.map (true :: ·))
def at_ : Bush → List Bool → Option Bush
  | b, [] => some b
  | lf, _ :: _ => none
  | nd a b, x :: p => (if x then b else a).at_ p
def put : Bush → List Bool → Bush → Bush
  | _, [], o => o
  | lf, _ :: _, _ => lf
  | nd a b, x :: p, o => if x then nd a (b.put p o) else nd (a.put p o) b
def lefts : Bush → List Bush
  | lf => [lf]
  | nd a b => nd a b :: a.lefts
end Bush
def bitP (b : Bool) : PV := .int (if b then 1 else 0)
def encP (p : List Bool) : PV := .tuple (p.map bitP)
section
variable {env : En}
@[simp] theorem enc_fz {b : Bush} : fzR (.v b.enc) env = .ok b.enc env := by cases b <;> rfl
@[simp] theorem encP_fz {p : List Bool} : fzR (.v (encP p)) env = .ok (encP p) env := rfl
@[simp] theorem bitP_fz {b : Bool} : fzR (.v (bitP b)) env = .ok (bitP b) env := rfl
@[simp] theorem enc_isD {b : Bush} : isD b.enc = false := by cases b <;> rfl
end
theorem enc_depth : ∀ b : Bush, b.enc.depth = b.height + 1
  | .lf => rfl
  | .nd a b => by
    rw [Bush.enc, PyData.depth, PyData.depthAll, PyData.depthAll, PyData.depthAll, enc_depth a, enc_depth b, Bush.height]
    omega
theorem enc_nice : ∀ b : Bush, nice b.enc = true
  | .lf => rfl
  | .nd a b => by
    rw [Bush.enc, nice, niceA, niceA, niceA, enc_nice a, enc_nice b]; rfl
theorem enc_tup : ∀ b : Bush, tupP b.enc = b.enc
  | .lf => rfl
  | .nd a b => by rw [Bush.enc, tupP, tupPs, tupPs, tupPs, enc_tup a, enc_tup b]
theorem enc_bush : ∀ b : Bush, bushP b.enc = true
  | .lf => by simp [Bush.enc, bushP]
  | .nd a b => by simp [Bush.enc, bushP, enc_bush a, enc_bush b]
theorem height_lt : ∀ b : Bush, b.height + 1 ≤ b.leaves
  | .lf => Nat.le_refl _
  | .nd a b => by
    have := height_lt a
    have := height_lt b
    rw [Bush.height, Bush.leaves]
    omega
theorem places_len : ∀ b : Bush, b.places.length + 1 = 2 * b.leaves
  | .lf => rfl
  | .nd a b => by
    have := places_len a
    have := places_len b
    rw [Bush.places, Bush.leaves]
    simp only [List.length_cons, List.length_append, List.length_map]
    omega
theorem enc_nil {b : Bush} : eqf b.enc (.tuple []) = some (decide (b = .lf)) := by
  cases b <;> simp [Bush.enc]
theorem enc_nnil {b : Bush} : nef b.enc (.tuple []) = some (!decide (b = .lf)) := by
  cases b <;> simp [Bush.enc]
theorem leaves_in_spec {T : Nat → Option FD} {i : Nat} (hT : T i = some ⟨1, 1, [], q_leaves_in i⟩) : ∀ (b : Bush) (k : Nat), b.height + 1 ≤ k → runF T k i [.v b.enc] = .ret (.v (.int b.leaves)) []
  | .lf, k, h => by
    obtain ⟨k, rfl⟩ : ∃ j, k = j + 1 := ⟨k - 1, by omega⟩
    rw [y_run hT]
    simp [q_leaves_in, Bush.enc, opf2, cmpf, ioOk, outsOf, Bush.leaves]
  | .nd a b, k, h => by
    obtain ⟨k, rfl⟩ : ∃ j, k = j + 1 := ⟨k - 1, by omega⟩
    have ha := leaves_in_spec hT a k (by simp only [Bush.height] at h; omega)
    have hb := leaves_in_spec hT b k (by simp only [Bush.height] at h; omega)
    rw [y_run hT]
    simp [q_leaves_in, Bush.enc, opf2, cmpf, ioOk, outsOf, Bush.leaves, ha, hb, idxf, atI, ixN, handsOk, addf, vI, putBack, ioNames]
theorem height_in_spec {T : Nat → Option FD} {i : Nat} (hT : T i = some ⟨1, 1, [], q_height_in i⟩) : ∀ (b : Bush) (k : Nat), b.height + 1 ≤ k → runF T k i [.v b.enc] = .ret (.v (.int b.height)) []
  | .lf, k, h => by
    obtain ⟨k, rfl⟩ : ∃ j, k = j + 1 := ⟨k - 1, by omega⟩
    rw [y_run hT]
    simp [q_height_in, Bush.enc, opf2, cmpf, ioOk, outsOf, Bush.height]
  | .nd a b, k, h => by
    obtain ⟨k, rfl⟩ : ∃ j, k = j + 1 := ⟨k - 1, by omega⟩
    have ha := height_in_spec hT a k (by simp only [Bush.height] at h; omega)
    have hb := height_in_spec hT b k (by simp only [Bush.height] at h; omega)
    have e : (1 : Int) + (if (b.height : Int) > a.height then (b.height : Int) else a.height) = ((1 + max a.height b.height : Nat) : Int) := by
      split <;> omega
    rw [y_run hT]
    simp [q_height_in, Bush.enc, opf2, cmpf, ioOk, outsOf, Bush.height, ha, hb, idxf, atI, ixN, handsOk, addf, vI, putBack, ioNames, max2f]
    split <;> omega
theorem mirror_in_spec {T : Nat → Option FD} {i : Nat} (hT : T i = some ⟨1, 1, [], q_mirrored_in i⟩) : ∀ (b : Bush) (k : Nat), b.height + 1 ≤ k → runF T k i [.v b.enc] = .ret (.v b.mirror.enc) []
  | .lf, k, h => by
    obtain ⟨k, rfl⟩ : ∃ j, k = j + 1 := ⟨k - 1, by omega⟩
    rw [y_run hT]
    simp [q_mirrored_in, Bush.enc, opf2, cmpf, ioOk, outsOf, Bush.mirror]
  | .nd a b, k, h => by
    obtain ⟨k, rfl⟩ : ∃ j, k = j + 1 := ⟨k - 1, by omega⟩
    have ha := mirror_in_spec hT a k (by simp only [Bush.height] at h; omega)
    have hb := mirror_in_spec hT b k (by simp only [Bush.height] at h; omega)
    rw [y_run hT]
    simp [q_mirrored_in, Bush.enc, opf2, cmpf, ioOk, outsOf, Bush.mirror, ha, hb, idxf, atI, ixN, handsOk, addf, vI, putBack, ioNames]
theorem step_idx {a b : Bush} {x : Bool} : idxf (Bush.nd a b).enc (bitP x) = some (.v (if x then b else a).enc) := by
  cases x <;> simp [Bush.enc, bitP, idxf, atI, ixN]
theorem part_loop {cf : Nat → List Ob → CR} {o0 o1 : Option Ob} : ∀ (p : List Bool) (b c : Bush) (o3 : Option Ob), b.at_ p = some c →
    ∃ o3', forL (forT cf [] (.inr 3) (.cons (.asg true 2 (.op .idx (.cons false (.x 2) (.cons false (.x 3) .nil)))) .nil)) (p.map bitP) [o0, o1, some (.v b.enc), o3] = .ok .nx [o0, o1, some (.v c.enc), o3']
  | [], b, c, o3, h => by
    rw [Bush.at_] at h
    cases h
    exact ⟨o3, by simp [forL]⟩
  | x :: p, .lf, c, o3, h => by rw [Bush.at_] at h; cases h
  | x :: p, .nd a b, c, o3, h => by
    rw [Bush.at_] at h
    obtain ⟨o3', h'⟩ := part_loop (cf := cf) (o0 := o0) (o1 := o1) p _ c (some (.v (bitP x))) h
    refine ⟨o3', ?_⟩
    rw [List.map_cons, forL, ← h']
    simp [forT, setTg, free, opf2, step_idx]
theorem part_in_spec {T : Nat → Option FD} {i : Nat} (hT : T i = some ⟨2, 4, [], q_part_in⟩) (k : Nat) {b c : Bush} {p : List Bool} (h : b.at_ p = some c) : runF T (k + 1) i [.v b.enc, .v (encP p)] = .ret (.v c.enc) [] := by
  obtain ⟨o3', h'⟩ := part_loop (cf := runF T k) (o0 := some (.v b.enc)) (o1 := some (.v (encP p))) p b c none h
  rw [y_run hT]
  simp [q_part_in, ioOk, free, freeTg, encP, itemsOf, outsOf] at h' ⊢
  simp [h', outsOf]
end Pv
-- PvMv0
set_option maxRecDepth 100000
namespace Pv
namespace Bush
/-- a bush spread -/
def spr : Bush → Option Bush
  | nd a (nd b c) => some (nd (nd a b) (nd a c))
  | _ => none
/-- a move at a place -/
def mv : Bush → List Bool → Option Bush
  | b, [] => b.spr
  | lf, _ :: _ => none
  | nd a b, x :: p => if x then (b.mv p).map (nd a ·) else (a.mv p).map (nd · b)
/-- moves one behind another -/
def go : Bush → List (List Bool) → Option Bush
  | b, [] => some b
  | b, p :: ps => (b.mv p).bind (go · ps)
theorem mv_nil (b : Bush) : b.mv [] = b.spr := by cases b <;> rfl
theorem mv_f (a b : Bush) (p : List Bool) : (nd a b).mv (false :: p) = (a.mv p).map (nd · b) := rfl
theorem mv_t (a b : Bush) (p : List Bool) : (nd a b).mv (true :: p) = (b.mv p).map (nd a ·) := rfl
theorem go_app : ∀ (ps qs : List (List Bool)) (b : Bush), b.go (ps ++ qs) = (b.go ps).bind (go · qs)
  | [], qs, b => rfl
  | p :: ps, qs, b => by
    rw [List.cons_append, go, go]
    cases b.mv p with
    | none => rfl
    | some c => exact go_app ps qs c
theorem go_f : ∀ (ps : List (List Bool)) (a b : Bush), (nd a b).go (ps.map (false :: ·)) = (a.go ps).map (nd · b)
  | [], a, b => rfl
  | p :: ps, a, b => by
    rw [List.map_cons, go, go, mv_f]
    cases a.mv p with
    | none => rfl
    | some c => exact go_f ps c b
theorem go_t : ∀ (ps : List (List Bool)) (a b : Bush), (nd a b).go (ps.map (true :: ·)) = (b.go ps).map (nd a ·)
  | [], a, b => rfl
  | p :: ps, a, b => by
    rw [List.map_cons, go, go, mv_t]
    cases b.mv p with
    | none => rfl
    | some c => exact go_t ps a c
/-- a move by the part at a place -/
theorem mv_at : ∀ (b : Bush) (p : List Bool), b.mv p = ((b.at_ p).bind spr).map (b.put p ·)
  | b, [] => by
    rw [mv_nil, show b.at_ [] = some b by cases b <;> rfl, Option.bind_some]
    cases b.spr with
    | none => rfl
    | some c => cases b <;> rfl
  | lf, x :: p => rfl
  | nd a b, x :: p => by
    cases x
    · rw [mv_f, mv_at a p, at_, Option.map_map]; rfl
    · rw [mv_t, mv_at b p, at_, Option.map_map]; rfl
end Bush
namespace Bush
theorem at_len : ∀ {b c : Bush} {p : List Bool}, b.at_ p = some c → p.length ≤ b.height
  | b, c, [], _ => by simp
  | lf, c, x :: p, h => by cases h
  | nd a b, c, x :: p, h => by
    rw [at_] at h
    rw [List.length_cons, height]
    cases x
    · have := at_len (b := a) h; omega
    · have := at_len (b := b) h; omega
theorem spr_height {b c : Bush} (h : b.spr = some c) : c.height ≤ b.height + 1 := by
  match b, h with
  | nd a (nd b c), h =>
    cases h
    simp only [height]
    omega
theorem mv_height : ∀ {b c : Bush} {p : List Bool}, b.mv p = some c → c.height ≤ b.height + 1
  | b, c, [], h => by rw [mv_nil] at h; exact spr_height h
  | lf, c, x :: p, h => by cases h
  | nd a b, c, x :: p, h => by
    cases x
    · rw [mv_f] at h
      cases e : a.mv p with
      | none => rw [e] at h; cases h
      | some d =>
        rw [e] at h; cases h
        have := mv_height e
        simp only [height]; omega
    · rw [mv_t] at h
      cases e : b.mv p with
      | none => rw [e] at h; cases h
      | some d =>
        rw [e] at h; cases h
        have := mv_height e
        simp only [height]; omega
theorem go_height : ∀ {ps : List (List Bool)} {b c : Bush}, b.go ps = some c → c.height ≤ b.height + ps.length
  | [], b, c, h => by cases h; simp
  | p :: ps, b, c, h => by
    rw [go] at h
    cases e : b.mv p with
    | none => rw [e] at h; cases h
    | some d =>
      rw [e] at h
      have h1 := mv_height e
      have h2 := go_height (b := d) h
      rw [List.length_cons]; omega
/-- the bushes of a row, as far as it goes -/
def stepsL : Bush → List (List Bool) → List Bush
  | b, [] => [b]
  | b, p :: ps => b :: (match b.mv p with
    | some c => stepsL c ps
    | none => [])
theorem stepsL_len : ∀ (ps : List (List Bool)) (b : Bush), 1 ≤ (b.stepsL ps).length ∧ (b.stepsL ps).length ≤ ps.length + 1
  | [], b => by simp [stepsL]
  | p :: ps, b => by
    rw [stepsL]
    cases e : b.mv p with
    | none => simp
    | some c =>
      have := stepsL_len ps c
      simp only [List.length_cons]; omega
theorem stepsL_go : ∀ (ps : List (List Bool)) (b : Bush), match b.go ps with
    | some d => (b.stepsL ps).length = ps.length + 1 ∧ (b.stepsL ps).getLast? = some d
    | none => (b.stepsL ps).length ≤ ps.length
  | [], b => by simp [stepsL, go]
  | p :: ps, b => by
    rw [stepsL, go]
    cases e : b.mv p with
    | none => simp
    | some c =>
      have := stepsL_go ps c
      simp only [Option.bind_some]
      cases e2 : c.go ps with
      | none =>
        rw [e2] at this
        simp only [List.length_cons] at this ⊢; omega
      | some d =>
        rw [e2] at this
        simp only [List.length_cons] at this ⊢
        refine ⟨by omega, ?_⟩
        rw [List.getLast?_cons, this.2]; rfl
end Bush
open Bush
abbrev Pl := List Bool
/-- crossing of a place with one below it -/
def belo (p r : Pl) : List Pl × List Pl := match r with
  | [true] => ([p ++ [true], p], [p, p ++ [true], p ++ [false]])
  | false :: r => ([p ++ ([false, false] ++ r), p ++ ([true, false] ++ r)], [p])
  | true :: x :: r => ([p ++ ([x, true] ++ r)], [p])
  | [] => ([], [])
def swp2 {α : Type} (x : α × α) : α × α := (x.2, x.1)
/-- the crossing of two places -/
def crs (p q : Pl) : List Pl × List Pl :=
  if p = q then ([], []) else if q.take p.length = p then belo p (q.drop p.length) else if p.take q.length = q then swp2 (belo q (p.drop q.length)) else ([q], [p])
def mp2 (x : Bool) (y : List Pl × List Pl) : List Pl × List Pl := (y.1.map (x :: ·), y.2.map (x :: ·))
theorem belo_cons (x : Bool) (p r : Pl) : belo (x :: p) r = mp2 x (belo p r) := by
  unfold belo
  split <;> simp [mp2]
theorem crs_cons (x : Bool) (p q : Pl) : crs (x :: p) (x :: q) = mp2 x (crs p q) := by
  unfold crs
  by_cases h1 : p = q
  · rw [if_pos h1, if_pos (by rw [h1])]; rfl
  · rw [if_neg h1, if_neg (by simpa using h1)]
    by_cases h2 : q.take p.length = p
    · rw [if_pos h2, if_pos (by simpa using h2)]
      rw [belo_cons]; simp
    · rw [if_neg h2, if_neg (by simpa using h2)]
      by_cases h3 : p.take q.length = q
      · rw [if_pos h3, if_pos (by simpa using h3)]
        rw [belo_cons]; simp [mp2, swp2]
      · rw [if_neg h3, if_neg (by simpa using h3)]; rfl
theorem crs_nil (q : Pl) : crs [] q = belo [] q := by
  unfold crs
  cases q with
  | nil => rfl
  | cons x q => simp
theorem crs_nil2 (p : Pl) : crs p [] = swp2 (belo [] p) := by
  unfold crs
  cases p with
  | nil => rfl
  | cons x p => simp
theorem crs_ne {x y : Bool} (h : x ≠ y) (p q : Pl) : crs (x :: p) (y :: q) = ([y :: q], [x :: p]) := by
  unfold crs
  have h' : ¬ (y = x) := fun e => h e.symm
  simp [h, h']
/-- what both ways of a crossing lead to -/
def Meet (b : Bush) (p q : Pl) (c : List Pl × List Pl) : Prop := ∃ d, b.go (p :: c.1) = some d ∧ b.go (q :: c.2) = some d
theorem Meet.swap {b : Bush} {p q : Pl} {c : List Pl × List Pl} (h : Meet b p q c) : Meet b q p (swp2 c) := by
  obtain ⟨d, h1, h2⟩ := h
  exact ⟨d, h2, h1⟩
theorem belo_meet : ∀ (b : Bush) (r : Pl), (b.mv []).isSome → (b.mv r).isSome → Meet b [] r (belo [] r)
  | b, r, h1, h2 => by
    match b, h1 with
    | .nd a (.nd b c), _ =>
      match r with
      | [] => exact ⟨_, rfl, rfl⟩
      | false :: r =>
        rw [mv_f] at h2
        cases e : a.mv r with
        | none => rw [e] at h2; cases h2
        | some a' =>
          refine ⟨.nd (.nd a' b) (.nd a' c), ?_, ?_⟩
          · simp [belo, go, mv, spr, e]
          · simp [belo, go, mv, spr, e]
      | [true] =>
        rw [mv_t, mv_nil] at h2
        match c, h2 with
        | .nd c1 c2, _ =>
          refine ⟨.nd (.nd (.nd a b) (.nd a c1)) (.nd (.nd a b) (.nd a c2)), ?_, ?_⟩
          · simp [belo, go, mv, spr]
          · simp [belo, go, mv, spr]
      | true :: false :: r =>
        rw [mv_t, mv_f] at h2
        cases e : b.mv r with
        | none => rw [e] at h2; cases h2
        | some b' =>
          refine ⟨.nd (.nd a b') (.nd a c), ?_, ?_⟩
          · simp [belo, go, mv, spr, e]
          · simp [belo, go, mv, spr, e]
      | true :: true :: r =>
        rw [mv_t, mv_t] at h2
        cases e : c.mv r with
        | none => rw [e] at h2; cases h2
        | some c' =>
          refine ⟨.nd (.nd a b) (.nd a c'), ?_, ?_⟩
          · simp [belo, go, mv, spr, e]
          · simp [belo, go, mv, spr, e]
theorem map_some' {α β : Type} {o : Option α} {f : α → β} (h : (o.map f).isSome) : o.isSome := by cases o <;> simp_all
/-- MAIN: two moves meet by their crossing -/
theorem crs_meet : ∀ (b : Bush) (p q : Pl), (b.mv p).isSome → (b.mv q).isSome → Meet b p q (crs p q)
  | b, [], q, h1, h2 => by rw [crs_nil]; exact belo_meet b q h1 h2
  | b, x :: p, [], h1, h2 => by rw [crs_nil2]; exact (belo_meet b (x :: p) h2 h1).swap
  | .lf, x :: p, y :: q, h1, h2 => by cases h1
  | .nd a b, x :: p, y :: q, h1, h2 => by
    cases x <;> cases y
    · rw [mv_f] at h1 h2
      obtain ⟨d, g1, g2⟩ := crs_meet a p q (map_some' h1) (map_some' h2)
      rw [crs_cons]
      refine ⟨.nd d b, ?_, ?_⟩
      · show (Bush.nd a b).go ((p :: (crs p q).1).map (false :: ·)) = _
        rw [go_f, g1]; rfl
      · show (Bush.nd a b).go ((q :: (crs p q).2).map (false :: ·)) = _
        rw [go_f, g2]; rfl
    · rw [mv_f] at h1
      rw [mv_t] at h2
      rw [crs_ne (by simp)]
      cases e1 : a.mv p with
      | none => rw [e1] at h1; cases h1
      | some a' =>
        cases e2 : b.mv q with
        | none => rw [e2] at h2; cases h2
        | some b' => exact ⟨.nd a' b', by simp [go, mv, e1, e2], by simp [go, mv, e1, e2]⟩
    · rw [mv_t] at h1
      rw [mv_f] at h2
      rw [crs_ne (by simp)]
      cases e1 : b.mv p with
      | none => rw [e1] at h1; cases h1
      | some b' =>
        cases e2 : a.mv q with
        | none => rw [e2] at h2; cases h2
        | some a' => exact ⟨.nd a' b', by simp [go, mv, e1, e2], by simp [go, mv, e1, e2]⟩
    · rw [mv_t] at h1 h2
      obtain ⟨d, g1, g2⟩ := crs_meet b p q (map_some' h1) (map_some' h2)
      rw [crs_cons]
      refine ⟨.nd a d, ?_, ?_⟩
      · show (Bush.nd a b).go ((p :: (crs p q).1).map (true :: ·)) = _
        rw [go_t, g1]; rfl
      · show (Bush.nd a b).go ((q :: (crs p q).2).map (true :: ·)) = _
        rw [go_t, g2]; rfl
end Pv
-- PvBush3
set_option maxRecDepth 100000
namespace Pv
open PySem L2
theorem bit_eq0 {x : Bool} : eqf (bitP x) (.int 0) = some (!x) := by cases x <;> simp [bitP]
theorem cut_tail {x : PV} {r : List PV} : slicef (.tuple (x :: r)) (some 1) none = some (.v (.tuple r)) := by
  have := HT.sIx_nat (r.length + 1) 0 1
  have e : HT.sIx (r.length + 1) 0 (some 1) = 1 := by
    rw [show (some (1 : Int)) = some ((1 : Nat) : Int) from rfl, this]
    omega
  simp [slicef, cutP, e, HT.sIx_none]
theorem put_in_spec {T : Nat → Option FD} {i : Nat} (hT : T i = some ⟨3, 3, [], q_put_in i⟩) : ∀ (p : List Bool) (b o : Bush) (k : Nat), (b.at_ p).isSome = true → p.length + 1 ≤ k → runF T k i [.v b.enc, .v (encP p), .v o.enc] = .ret (.v (b.put p o).enc) []
  | [], b, o, k, _, h => by
    obtain ⟨k, rfl⟩ : ∃ j, k = j + 1 := ⟨k - 1, by omega⟩
    rw [y_run hT]
    cases b <;> simp [q_put_in, encP, opf2, cmpf, ioOk, outsOf, Bush.put, free]
  | x :: p, .lf, o, k, h, _ => by rw [Bush.at_] at h; cases h
  | x :: p, .nd a b, o, k, h, hk => by
    rw [List.length_cons] at hk
    obtain ⟨k, rfl⟩ : ∃ j, k = j + 1 := ⟨k - 1, by omega⟩
    rw [Bush.at_] at h
    have ih := put_in_spec hT p (if x then b else a) o k h (by omega)
    have e0 : idxf (encP (x :: p)) (.int 0) = some (.v (bitP x)) := by simp [encP, idxf, atI, ixN]
    have e1 : slicef (encP (x :: p)) (some 1) none = some (.v (encP p)) := by unfold encP; rw [List.map_cons, cut_tail]
    have e2 : eqf (encP (x :: p)) (.tuple []) = some false := by simp [encP]
    have a0 : idxf (Bush.nd a b).enc (.int 0) = some (.v a.enc) := by simp [Bush.enc, idxf, atI, ixN]
    have a1 : idxf (Bush.nd a b).enc (.int 1) = some (.v b.enc) := by simp [Bush.enc, idxf, atI, ixN]
    rw [y_run hT]
    cases x with
    | false =>
      simp only [Bool.false_eq_true, if_false] at ih
      simp [q_put_in, opf1, opf2, cmpf, ioOk, outsOf, free, e0, e1, e2, a0, a1, bit_eq0, bInt, ih, handsOk, ioNames, putBack, Bush.put]
      simp [Bush.enc]
    | true =>
      simp only [if_true] at ih
      simp [q_put_in, opf1, opf2, cmpf, ioOk, outsOf, free, e0, e1, e2, a0, a1, bit_eq0, bInt, ih, handsOk, ioNames, putBack, Bush.put]
      simp [Bush.enc]
theorem place_loop {cf : Nat → List Ob → CR} {o0 o1 : Option Ob} : ∀ (p : List Bool) (b : Bush) (o3 : Option Ob),
    ∃ e', forL (forT cf [] (.inr 3) (.cons (.ite (.op .eq (.cons false (.x 2) (.cons false (.tup .nil) .nil))) (.cons (.ret (.c (.bool false))) .nil) .nil) (.cons (.asg true 2 (.op .idx (.cons false (.x 2) (.cons false (.x 3) .nil)))) .nil))) (p.map bitP) [o0, o1, some (.v b.enc), o3] =
      .ok (if (b.at_ p).isSome then .nx else .rt (.v (.bool false))) e'
  | [], b, o3 => ⟨_, by rw [List.map_nil, forL, Bush.at_]; rfl⟩
  | x :: p, .lf, o3 => by
    refine ⟨[o0, o1, some (.v Bush.lf.enc), some (.v (bitP x))], ?_⟩
    rw [List.map_cons, forL, Bush.at_]
    simp [forT, setTg, free, opf2, cmpf, Bush.enc]
  | x :: p, .nd a b, o3 => by
    obtain ⟨e', h'⟩ := place_loop (cf := cf) (o0 := o0) (o1 := o1) p (if x then b else a) (some (.v (bitP x)))
    refine ⟨e', ?_⟩
    rw [List.map_cons, forL, Bush.at_, ← h']
    have e2 : eqf (Bush.nd a b).enc (.tuple []) = some false := by simp [Bush.enc]
    simp [forT, setTg, free, opf2, cmpf, step_idx, e2]
theorem is_place_in_spec {T : Nat → Option FD} {i : Nat} (hT : T i = some ⟨2, 4, [], q_is_place_in⟩) (k : Nat) (b : Bush) (p : List Bool) : runF T (k + 1) i [.v b.enc, .v (encP p)] = .ret (.v (.bool (b.at_ p).isSome)) [] := by
  obtain ⟨e', h'⟩ := place_loop (cf := runF T k) (o0 := some (.v b.enc)) (o1 := some (.v (encP p))) p b none
  rw [y_run hT]
  simp [q_is_place_in, ioOk, free, freeTg, encP, itemsOf, outsOf] at h' ⊢
  rw [h']
  cases h : (b.at_ p).isSome <;> simp [outsOf]
def addP (x : Int) : PV → PV
  | .tuple xs => .tuple (.int x :: xs)
  | d => d
theorem pre_ok {cf : Nat → List Ob → CR} {x : Int} {src : IE} {ps : List (List Bool)} {env : En} {oa ob : Option Ob} {o : Ob} (hsz : ∀ p ∈ ps, p.length < 1000000) (hl : ps.length ≤ 16777216) (he : evE cf [] src env = .ok o [oa, ob, none]) (ho : ∀ e, fzR o e = .ok (.list (ps.map encP)) e) :
    evE cf [] (.lc [2] (.inr 2) (.seq src) .nil (.op .add (.cons false (.tup (.cons false (.c (.int x)) .nil)) (.cons false (.x 2) .nil)))) env = .ok (.ml ((ps.map encP).map (addP x))) [oa, ob, none] := by
  refine lc_map (addP x) (by simp) ?_ rfl (by simpa using hl) fun d hd => ?_
  · simp [he, ho, itemsOf]
  · obtain ⟨p, hp, rfl⟩ := List.mem_map.mp hd
    have := hsz p hp
    refine ⟨_, .v (addP x (encP p)), [oa, ob, some (.v (encP p))], rfl, ?_, rfl, rfl⟩
    have h2 : 1 + p.length ≤ 16777216 := by omega
    simp [opf2, addf, encP, addP, h2]
theorem addP_enc {x : Bool} {ps : List (List Bool)} : (ps.map encP).map (addP (if x then 1 else 0)) = (ps.map (x :: ·)).map encP := by
  rw [List.map_map, List.map_map]
  rfl
theorem place_short : ∀ {b : Bush} {p : List Bool}, p ∈ b.places → p.length ≤ b.height
  | .lf, p, h => by
    rw [Bush.places] at h
    have : p = [] := by simpa using h
    rw [this]; exact Nat.zero_le _
  | .nd a b, p, h => by
    rw [Bush.places] at h
    rw [Bush.height]
    rcases List.mem_cons.mp h with e | h
    · rw [e]; exact Nat.zero_le _
    · rcases List.mem_append.mp h with h | h
      · obtain ⟨q, hq, rfl⟩ := List.mem_map.mp h
        have := place_short hq
        rw [List.length_cons]; omega
      · obtain ⟨q, hq, rfl⟩ := List.mem_map.mp h
        have := place_short hq
        rw [List.length_cons]; omega
theorem places_in_spec {T : Nat → Option FD} {i : Nat} (hT : T i = some ⟨1, 3, [], q_places_in i⟩) : ∀ (b : Bush) (k : Nat), b.leaves ≤ 100000 → b.height + 1 ≤ k → runF T k i [.v b.enc] = .ret (.ml (b.places.map encP)) []
  | .lf, k, _, h => by
    obtain ⟨k, rfl⟩ : ∃ j, k = j + 1 := ⟨k - 1, by omega⟩
    rw [y_run hT]
    simp [q_places_in, Bush.enc, opf2, cmpf, ioOk, outsOf, Bush.places, free, encP]
  | .nd a b, k, hl, h => by
    obtain ⟨k, rfl⟩ : ∃ j, k = j + 1 := ⟨k - 1, by omega⟩
    rw [Bush.height] at h
    rw [Bush.leaves] at hl
    have ha := places_in_spec hT a k (by omega) (by omega)
    have hb := places_in_spec hT b k (by omega) (by omega)
    have la := places_len a
    have lb := places_len b
    have a0 : idxf (Bush.nd a b).enc (.int 0) = some (.v a.enc) := by simp [Bush.enc, idxf, atI, ixN]
    have a1 : idxf (Bush.nd a b).enc (.int 1) = some (.v b.enc) := by simp [Bush.enc, idxf, atI, ixN]
    have e2 : eqf (Bush.nd a b).enc (.tuple []) = some false := by simp [Bush.enc]
    have ga := pre_ok (cf := runF T k) (x := 0) (src := .call i (.cons false (.op .idx (.cons false (.x 0) (.cons false (.c (.int 0)) .nil))) .nil)) (ps := a.places) (env := [some (.v (Bush.nd a b).enc), none, none]) (o := .ml (a.places.map encP))
      (oa := some (.v (Bush.nd a b).enc)) (ob := none) (fun p hp => by have := place_short hp; have := height_lt a; omega) (by omega) (by simp [opf2, a0, ha, handsOk, ioNames, putBack]) (fun e => rfl)
    have gb := pre_ok (cf := runF T k) (x := 1) (src := .call i (.cons false (.op .idx (.cons false (.x 0) (.cons false (.c (.int 1)) .nil))) .nil)) (ps := b.places) (env := [some (.v (Bush.nd a b).enc), some (.v (.list ((a.places.map (false :: ·)).map encP))), none]) (o := .ml (b.places.map encP))
      (oa := some (.v (Bush.nd a b).enc)) (ob := some (.v (.list ((a.places.map (false :: ·)).map encP)))) (fun p hp => by have := place_short hp; have := height_lt b; omega) (by omega) (by simp [opf2, a1, hb, handsOk, ioNames, putBack]) (fun e => rfl)
    rw [show (0 : Int) = if false = true then 1 else 0 from rfl, addP_enc] at ga
    rw [show (1 : Int) = if true = true then 1 else 0 from rfl, addP_enc] at gb
    have s1 : 1 + a.places.length ≤ 16777216 := by omega
    have s2 : a.places.length + 1 + b.places.length ≤ 16777216 := by omega
    rw [y_run hT]
    simp only [Bool.false_eq_true, if_false, if_true] at ga gb
    simp [-List.map_map, q_places_in, opf1, opf2, cmpf, ioOk, outsOf, free, e2, ga, gb, addf, s1, s2, Bush.places]
    simp [encP]
theorem idx_last {pre : List PV} {x : PV} : idxf (.list (pre ++ [x])) (.int (-1)) = some (.v x) := by
  have h : ¬ ((0 : Int) ≤ -1) := by omega
  have h2 : -(((pre ++ [x]).length : Nat) : Int) ≤ -1 := by simp; omega
  have h3 : (-1 + (((pre ++ [x]).length : Nat) : Int)).toNat = pre.length := by
    rw [List.length_append, List.length_singleton]; omega
  simp only [idxf, atI, ixN]
  rw [if_neg h, if_pos h2, h3]
  simp
theorem lefts_loop {cf : Nat → List Ob → CR} {o0 : Option Ob} : ∀ (b : Bush) (pre : List PV) (n : Nat), b.lefts.length < n → pre.length + b.lefts.length ≤ 16777216 →
    whileN (whlC cf [] (.op .ne (.cons false (.op .idx (.cons false (.x 1) (.cons false (.op .neg (.cons false (.c (.int 1)) .nil)) .nil))) (.cons false (.tup .nil) .nil)))) (whlB cf [] (.cons (.ap 1 (.op .idx (.cons false (.op .idx (.cons false (.x 1) (.cons false (.op .neg (.cons false (.c (.int 1)) .nil)) .nil))) (.cons false (.c (.int 0)) .nil)))) .nil)) n
      [o0, some (.ml (pre ++ [b.enc]))] = .ok .nx [o0, some (.ml (pre ++ b.lefts.map Bush.enc))]
  | .lf, pre, n, h, _ => by
    obtain ⟨n, rfl⟩ : ∃ j, n = j + 1 := ⟨n - 1, by omega⟩
    have e2 : nef Bush.lf.enc (.tuple []) = some false := by simp [Bush.enc]
    rw [whileN]
    simp [whlC, whlB, opf1, opf2, cmpf, negf, vI, idx_last, e2, Bush.lefts]
  | .nd a b, pre, n, h, hl => by
    rw [Bush.lefts, List.length_cons] at h hl
    obtain ⟨n, rfl⟩ : ∃ j, n = j + 1 := ⟨n - 1, by omega⟩
    have ih := lefts_loop (cf := cf) (o0 := o0) a (pre ++ [(Bush.nd a b).enc]) n (by omega) (by rw [List.length_append, List.length_singleton]; omega)
    have e2 : nef (Bush.nd a b).enc (.tuple []) = some true := by simp [Bush.enc]
    have a0 : idxf (Bush.nd a b).enc (.int 0) = some (.v a.enc) := by simp [Bush.enc, idxf, atI, ixN]
    have hlt : pre.length + 1 < 16777216 := by
      have : 1 ≤ a.lefts.length := by cases a <;> simp [Bush.lefts]
      omega
    rw [whileN]
    simp only [List.append_assoc, List.cons_append, List.nil_append] at ih
    simp [whlC, whlB, opf1, opf2, cmpf, negf, vI, idx_last, e2, a0, isMl, hlt, ih, Bush.lefts]
theorem lefts_len : ∀ b : Bush, b.lefts.length = (b.lefts.length - 1) + 1 ∧ b.lefts.length ≤ b.height + 1
  | .lf => ⟨rfl, Nat.le_refl _⟩
  | .nd a b => by
    have := (lefts_len a).2
    rw [Bush.lefts, Bush.height, List.length_cons]
    omega
theorem lefts_in_spec {T : Nat → Option FD} {i : Nat} (hT : T i = some ⟨1, 2, [], q_lefts_in⟩) (k : Nat) (b : Bush) (hb : b.height ≤ 100000) : runF T (k + 1) i [.v b.enc] = .ret (.ml (b.lefts.map Bush.enc)) [] := by
  have hl := (lefts_len b).2
  have h := lefts_loop (cf := runF T k) (o0 := some (.v b.enc)) b [] wfuel (by unfold wfuel; omega) (by simp; omega)
  rw [y_run hT]
  simp only [List.nil_append] at h
  simp [q_lefts_in, ioOk, free, outsOf, h]
end Pv
-- PvBush4
set_option maxRecDepth 100000
namespace Pv
open PySem L2
/-- a value that stands for a bush: tuples or lists -/
structure Soft (d : PV) (b : Bush) : Prop where
  n : nice d = true
  t : tupP d = b.enc
  d : d.depth ≤ b.height + 1
theorem Soft.enc (b : Bush) : Soft b.enc b := ⟨enc_nice b, enc_tup b, by rw [enc_depth b]; exact Nat.le_refl _⟩
/-- the defs of bushes in a table -/
structure BushFns (T : Nat → Option FD) (long tup isb sure : Nat) : Prop where
  h1 : T long = some ⟨2, 2, [], q_is_long⟩
  h2 : T tup = some ⟨1, 2, [], q_tupled tup⟩
  h3 : T isb = some ⟨1, 1, [], q_is_bush_in long isb⟩
  h4 : T sure = some ⟨1, 2, [], q_sure_bush tup isb⟩
theorem sure_soft {T : Nat → Option FD} {long tup isb sure : Nat} (F : BushFns T long tup isb sure) {d : PV} {b : Bush} (s : Soft d b) (k : Nat) (hk : b.height + 4 ≤ k) : runF T k sure [.v d] = .ret (.v b.enc) [] := by
  obtain ⟨k, rfl⟩ : ∃ j, k = j + 1 := ⟨k - 1, by omega⟩
  have := s.d
  rw [sure_bush_spec F.h4 F.h2 F.h3 F.h1 k d s.n (by rw [s.t]; exact enc_nice b) (by omega) (by rw [s.t, enc_depth]; omega) (by rw [s.t]; exact enc_bush b), s.t]
def int01 : PV → Bool
  | .int i => i == 0 || i == 1
  | _ => false
def zerosP : PV → Bool
  | .tuple xs => xs.all int01
  | _ => false
def told1 (d : PV) : PV := .bool (mem d [.int 0, .int 1] && !isBoolV d)
def isI (d : PV) : PV := .bool (isIntV d)
theorem all_map {f : PV → Bool} : ∀ xs : List PV, bBools (xs.map fun d => .bool (f d)) = some (xs.map f)
  | [] => rfl
  | x :: xs => by rw [List.map_cons, bBools, all_map xs]; rfl
theorem and_same {α : Type} {f g : α → Bool} : ∀ xs : List α, ((xs.map f).all id && (xs.map g).all id) = xs.all fun x => f x && g x
  | [] => rfl
  | x :: xs => by
    rw [List.map_cons, List.map_cons, List.all_cons, List.all_cons, List.all_cons, ← and_same xs]
    cases f x <;> cases g x <;> simp
theorem told1_ok {d : PV} (h : nice d = true) : (isIntV d && (mem d [.int 0, .int 1] && !isBoolV d)) = int01 d := by
  cases d <;> first | (cases h; done) | simp [isIntV, mem, isBoolV, int01, PyData.eqv]
  rename_i i
  rw [Bool.eq_iff_iff]
  simp
  omega
theorem told_spec {T : Nat → Option FD} {i : Nat} (hT : T i = some ⟨1, 2, [], q_is_place_told⟩) (k : Nat) (xs : List PV) (hx : niceA xs = true) (hl : xs.length ≤ 16777216) (hd : ∀ d ∈ xs, d.depth ≤ 150) :
    runF T (k + 1) i [.v (.tuple xs)] = .ret (.v (.bool ((xs.map fun d => mem d [.int 0, .int 1] && !isBoolV d).all id))) [] := by
  have hs : evE (runF T k) [] (.lc [1] (.inr 1) (.seq (.x 0)) .nil (.and (.op .isin (.cons false (.x 1) (.cons false (.tup (.cons false (.c (.int 0)) (.cons false (.c (.int 1)) .nil))) .nil))) (.not (.op .isBool (.cons false (.x 1) .nil))))) [some (.v (.tuple xs)), none] =
      .ok (.ml (xs.map told1)) [some (.v (.tuple xs)), none] := by
    refine lc_map told1 (by simp) (by simp [itemsOf]) rfl (by simpa using hl) fun d hd' => ?_
    have hn := niceA_mem hx hd'
    have h1 : isD d = false := by cases d <;> first | rfl | (cases hn)
    have h2 := hd d hd'
    refine ⟨_, .v (told1 d), [some (.v (.tuple xs)), some (.v d)], rfl, ?_, rfl, rfl⟩
    simp [opf1, opf2, cmpf, inf, h1, h2, kindf, vB, told1]
    cases mem d [.int 0, .int 1] <;> simp
  rw [y_run hT]
  simp [q_is_place_told, ioOk, opf1, opf2, kindf, vB, isTupV, hs, allf, outsOf]
  rw [show xs.map told1 = xs.map fun d => .bool (mem d [.int 0, .int 1] && !isBoolV d) from rfl, all_map]
  simp [outsOf]
theorem zeros_spec {T : Nat → Option FD} {i j : Nat} (hT : T i = some ⟨1, 2, [], q_is_zeros_and_ones j⟩) (hj : T j = some ⟨1, 2, [], q_is_place_told⟩) (k : Nat) (d : PV) (hn : nice d = true) (hd : d.depth ≤ 150) :
    runF T (k + 2) i [.v d] = .ret (.v (.bool (zerosP d))) [] := by
  rw [y_run hT]
  cases d with
  | dict _ => cases hn
  | none => simp [q_is_zeros_and_ones, ioOk, opf1, opf2, kindf, vB, isTupV, outsOf, zerosP]
  | bool _ => simp [q_is_zeros_and_ones, ioOk, opf1, opf2, kindf, vB, isTupV, outsOf, zerosP]
  | int _ => simp [q_is_zeros_and_ones, ioOk, opf1, opf2, kindf, vB, isTupV, outsOf, zerosP]
  | str _ => simp [q_is_zeros_and_ones, ioOk, opf1, opf2, kindf, vB, isTupV, outsOf, zerosP]
  | list _ => simp [q_is_zeros_and_ones, ioOk, opf1, opf2, kindf, vB, isTupV, outsOf, zerosP]
  | tuple xs =>
    rw [nice] at hn
    obtain ⟨h1, h2⟩ := and2 hn
    have hl := of_decide_eq_true h1
    rw [PyData.depth] at hd
    have ht := told_spec hj k xs h2 hl fun d hd' => by
      have := depth_mem hd'
      omega
    have hs : evE (runF T (k + 1)) [] (.lc [1] (.inr 1) (.seq (.x 0)) .nil (.op .isInt (.cons false (.x 1) .nil))) [some (.v (.tuple xs)), none] = .ok (.ml (xs.map isI)) [some (.v (.tuple xs)), none] := by
      refine lc_map isI (by simp) (by simp [itemsOf]) rfl (by simpa using hl) fun d hd' => ?_
      have hn := niceA_mem h2 hd'
      have h1 : isD d = false := by cases d <;> first | rfl | (cases hn)
      refine ⟨_, .v (isI d), [some (.v (.tuple xs)), some (.v d)], rfl, ?_, rfl, rfl⟩
      simp [opf1, kindf, h1, vB, isI]
    have e : zerosP (.tuple xs) = ((xs.map isIntV).all id && (xs.map fun d => mem d [.int 0, .int 1] && !isBoolV d).all id) := by
      rw [and_same, zerosP]
      clear hs ht hd hl hn h1
      induction xs with
      | nil => rfl
      | cons x xs ih =>
        rw [niceA] at h2
        obtain ⟨n1, n2⟩ := and2 h2
        rw [List.all_cons, List.all_cons, ih n2, told1_ok n1]
    rw [e]
    have hb : bBools (xs.map isI) = some (xs.map isIntV) := all_map xs
    generalize hA : (xs.map isIntV).all id = A
    generalize (xs.map fun d => mem d [.int 0, .int 1] && !isBoolV d).all id = B at ht
    simp [q_is_zeros_and_ones, ioOk, opf1, opf2, kindf, vB, isTupV, hs, allf, hb]
    have hA2 : (∀ x, x ∈ xs → isIntV x = true) ↔ A = true := by rw [← hA]; simp
    have hA3 : xs.all isIntV = A := by rw [← hA, List.all_map]; rfl
    simp only [hA2, hA3]
    cases A <;> simp [outsOf, ht, handsOk, ioNames, putBack]
end Pv
-- PvBush5
set_option maxRecDepth 100000
namespace Pv
open PySem L2
/-- a value that stands for a place -/
structure SoftP (d : PV) (p : List Bool) : Prop where
  n : nice d = true
  t : tupP d = encP p
  d : d.depth ≤ 2
theorem bits_nice : ∀ p : List Bool, niceA (p.map bitP) = true
  | [] => rfl
  | x :: p => by
    rw [List.map_cons, niceA, bits_nice p]; cases x <;> rfl
theorem bits_depth : ∀ p : List Bool, PyData.depthAll (p.map bitP) = 0
  | [] => rfl
  | x :: p => by
    rw [List.map_cons, PyData.depthAll, bits_depth p]; cases x <;> rfl
theorem bits_tup : ∀ p : List Bool, tupPs (p.map bitP) = p.map bitP
  | [] => rfl
  | x :: p => by
    rw [List.map_cons, tupPs, bits_tup p]; cases x <;> rfl
theorem bits_01 : ∀ p : List Bool, (p.map bitP).all int01 = true
  | [] => rfl
  | x :: p => by
    rw [List.map_cons, List.all_cons, bits_01 p]; cases x <;> rfl
theorem encP_nice {p : List Bool} (h : p.length ≤ 16777216) : nice (encP p) = true := by
  rw [encP, nice, bits_nice, List.length_map]; simpa using h
theorem encP_depth {p : List Bool} : (encP p).depth = 1 := by rw [encP, PyData.depth, bits_depth]
theorem SoftP.enc {p : List Bool} (h : p.length ≤ 16777216) : SoftP (encP p) p := ⟨encP_nice h, by rw [encP, tupP, bits_tup], by rw [encP_depth]; omega⟩
theorem SoftP.lst {p : List Bool} (h : p.length ≤ 16777216) : SoftP (.list (p.map bitP)) p := ⟨by rw [nice, bits_nice, List.length_map]; simpa using h, by rw [tupP, bits_tup]; rfl, by rw [PyData.depth, bits_depth]; omega⟩
theorem zerosP_enc {p : List Bool} : zerosP (encP p) = true := by rw [encP, zerosP, bits_01]
structure PlaceFns (T : Nat → Option FD) (tup told zer stold isin sp : Nat) : Prop where
  h1 : T tup = some ⟨1, 2, [], q_tupled tup⟩
  h2 : T told = some ⟨1, 2, [], q_is_place_told⟩
  h3 : T zer = some ⟨1, 2, [], q_is_zeros_and_ones told⟩
  h4 : T stold = some ⟨1, 2, [], q_sure_place_told tup zer⟩
  h5 : T isin = some ⟨2, 4, [], q_is_place_in⟩
  h6 : T sp = some ⟨2, 3, [], q_sure_place stold isin⟩
theorem stold_spec {T : Nat → Option FD} {tup told zer stold isin sp : Nat} (F : PlaceFns T tup told zer stold isin sp) (k : Nat) {d : PV} {p : List Bool} (s : SoftP d p) (hl : p.length ≤ 16777216) : runF T (k + 4) stold [.v d] = .ret (.v (encP p)) [] := by
  have h1 := tupled_spec F.h1 (k + 3) d s.n (by have := s.d; omega)
  rw [s.t] at h1
  have h2 := zeros_spec F.h3 F.h2 (k + 1) (encP p) (encP_nice hl) (by rw [encP_depth]; omega)
  rw [zerosP_enc] at h2
  rw [y_run F.h4]
  simp [q_sure_place_told, ioOk, free, h1, h2, handsOk, ioNames, putBack, outsOf]
theorem sp_spec {T : Nat → Option FD} {tup told zer stold isin sp : Nat} (F : PlaceFns T tup told zer stold isin sp) (k : Nat) {b : Bush} {d : PV} {p : List Bool} (s : SoftP d p) (hl : p.length ≤ 16777216) (hp : (b.at_ p).isSome = true) :
    runF T (k + 5) sp [.v b.enc, .v d] = .ret (.v (encP p)) [] := by
  have h1 := stold_spec F k s hl
  have h2 := is_place_in_spec F.h5 (k + 3) b p
  rw [hp] at h2
  rw [y_run F.h6]
  simp [q_sure_place, ioOk, free, h1, h2, handsOk, ioNames, putBack, outsOf]
section
variable {T : Nat → Option FD} {long tup isb sure : Nat} (F : BushFns T long tup isb sure) {d : PV} {b : Bush}
include F
theorem leaves_spec {i li : Nat} (hT : T i = some ⟨1, 1, [], q_leaves li sure⟩) (hl : T li = some ⟨1, 1, [], q_leaves_in li⟩) (s : Soft d b) (k : Nat) (hk : b.height + 5 ≤ k) : runF T k i [.v d] = .ret (.v (.int b.leaves)) [] := by
  obtain ⟨k, rfl⟩ : ∃ j, k = j + 1 := ⟨k - 1, by omega⟩
  have h1 := sure_soft F s k (by omega)
  have h2 := leaves_in_spec hl b k (by omega)
  rw [y_run hT]
  simp [q_leaves, ioOk, h1, h2, handsOk, ioNames, putBack, outsOf]
theorem height_spec {i li : Nat} (hT : T i = some ⟨1, 1, [], q_height li sure⟩) (hl : T li = some ⟨1, 1, [], q_height_in li⟩) (s : Soft d b) (k : Nat) (hk : b.height + 5 ≤ k) : runF T k i [.v d] = .ret (.v (.int b.height)) [] := by
  obtain ⟨k, rfl⟩ : ∃ j, k = j + 1 := ⟨k - 1, by omega⟩
  have h1 := sure_soft F s k (by omega)
  have h2 := height_in_spec hl b k (by omega)
  rw [y_run hT]
  simp [q_height, ioOk, h1, h2, handsOk, ioNames, putBack, outsOf]
theorem mirrored_spec {i li : Nat} (hT : T i = some ⟨1, 1, [], q_mirrored li sure⟩) (hl : T li = some ⟨1, 1, [], q_mirrored_in li⟩) (s : Soft d b) (k : Nat) (hk : b.height + 5 ≤ k) : runF T k i [.v d] = .ret (.v b.mirror.enc) [] := by
  obtain ⟨k, rfl⟩ : ∃ j, k = j + 1 := ⟨k - 1, by omega⟩
  have h1 := sure_soft F s k (by omega)
  have h2 := mirror_in_spec hl b k (by omega)
  rw [y_run hT]
  simp [q_mirrored, ioOk, h1, h2, handsOk, ioNames, putBack, outsOf]
theorem all_places_spec {i li : Nat} (hT : T i = some ⟨1, 1, [], q_all_places li sure⟩) (hl : T li = some ⟨1, 3, [], q_places_in li⟩) (s : Soft d b) (hb : b.leaves ≤ 100000) (k : Nat) (hk : b.height + 5 ≤ k) : runF T k i [.v d] = .ret (.ml (b.places.map encP)) [] := by
  obtain ⟨k, rfl⟩ : ∃ j, k = j + 1 := ⟨k - 1, by omega⟩
  have h1 := sure_soft F s k (by omega)
  have h2 := places_in_spec hl b k hb (by omega)
  rw [y_run hT]
  simp [q_all_places, ioOk, h1, h2, handsOk, ioNames, putBack, outsOf]
theorem part_at_spec {i pi told zer stold isin sp : Nat} (P : PlaceFns T tup told zer stold isin sp) (hT : T i = some ⟨2, 3, [], q_part_at sure pi sp⟩) (hp : T pi = some ⟨2, 4, [], q_part_in⟩) (s : Soft d b) {e : PV} {p : List Bool} (sp' : SoftP e p) (hl : p.length ≤ 16777216) {c : Bush} (hc : b.at_ p = some c) (k : Nat) (hk : b.height + 7 ≤ k) :
    runF T k i [.v d, .v e] = .ret (.v c.enc) [] := by
  obtain ⟨k, rfl⟩ : ∃ j, k = j + 6 := ⟨k - 6, by omega⟩
  have h1 := sure_soft F s (k + 5) (by omega)
  have h2 := sp_spec P k (b := b) sp' hl (by rw [hc]; rfl)
  have h3 := part_in_spec hp (k + 4) hc
  rw [y_run hT]
  simp [q_part_at, ioOk, free, h1, h2, h3, handsOk, ioNames, putBack, outsOf]
theorem put_at_spec {i pi told zer stold isin sp : Nat} (P : PlaceFns T tup told zer stold isin sp) (hT : T i = some ⟨3, 5, [], q_put_at sure sp pi⟩) (hp : T pi = some ⟨3, 3, [], q_put_in pi⟩) (s : Soft d b) {e : PV} {p : List Bool} (sp' : SoftP e p) (hl : p.length ≤ 16777216) {g : PV} {o : Bush} (so : Soft g o) (hc : (b.at_ p).isSome = true) (k : Nat) (hk : b.height + 7 ≤ k) (hk2 : o.height + 7 ≤ k) (hk3 : p.length + 2 ≤ k) :
    runF T k i [.v d, .v e, .v g] = .ret (.v (b.put p o).enc) [] := by
  obtain ⟨k, rfl⟩ : ∃ j, k = j + 6 := ⟨k - 6, by omega⟩
  have h1 := sure_soft F s (k + 5) (by omega)
  have h1' := sure_soft F so (k + 5) (by omega)
  have h2 := sp_spec P k (b := b) sp' hl hc
  have h3 := put_in_spec hp p b o (k + 5) hc (by omega)
  rw [y_run hT]
  simp [q_put_at, ioOk, free, h1, h1', h2, h3, handsOk, ioNames, putBack, outsOf]
theorem is_place_spec {i told zer stold isin sp : Nat} (P : PlaceFns T tup told zer stold isin sp) (hT : T i = some ⟨2, 3, [], q_is_place sure zer isin⟩) (s : Soft d b) (e : PV) (hn : nice e = true) (hd : e.depth ≤ 150) (k : Nat) (hk : b.height + 7 ≤ k) :
    runF T k i [.v d, .v e] = .ret (.v (.bool (zerosP e && match e with
      | .tuple xs => (b.at_ (xs.map fun x => match x with | .int 1 => true | _ => false)).isSome
      | _ => false))) [] := by
  obtain ⟨k, rfl⟩ : ∃ j, k = j + 6 := ⟨k - 6, by omega⟩
  have h1 := sure_soft F s (k + 5) (by omega)
  have h2 := zeros_spec P.h3 P.h2 (k + 3) e hn hd
  rw [y_run hT]
  by_cases hz : zerosP e = true
  · cases e <;> first | (cases hz; done) | skip
    rename_i xs
    have hx : xs = (xs.map fun x => match x with | .int 1 => true | _ => false).map bitP := by
      rw [zerosP] at hz
      clear h2 hn hd
      induction xs with
      | nil => rfl
      | cons x xs ih =>
        rw [List.all_cons] at hz
        obtain ⟨z1, z2⟩ := and2 hz
        rw [List.map_cons, List.map_cons, ← ih z2]
        congr 1
        cases x <;> first | (cases z1; done) | skip
        rename_i v
        unfold int01 at z1
        simp at z1
        rcases z1 with rfl | rfl <;> rfl
    have h3 := is_place_in_spec P.h5 (k + 4) b (xs.map fun x => match x with | .int 1 => true | _ => false)
    rw [encP, ← hx] at h3
    simp [q_is_place, ioOk, free, h1, h2, h3, hz, handsOk, ioNames, putBack, outsOf]
  · have hz : zerosP e = false := by simpa using hz
    simp [q_is_place, ioOk, free, h1, h2, hz, handsOk, ioNames, putBack, outsOf]
end
end Pv
-- PvBush6
set_option maxRecDepth 100000
namespace Pv
open PySem L2
def decB : PV → Bool
  | .int 1 => true
  | _ => false
def decP : PV → List Bool
  | .tuple xs => xs.map decB
  | _ => []
theorem decP_enc (p : List Bool) : decP (encP p) = p := by
  rw [encP, decP, List.map_map]
  induction p with
  | nil => rfl
  | cons x p ih => rw [List.map_cons, ih]; cases x <;> rfl
theorem mem_places : ∀ {b : Bush} {p : List Bool}, p ∈ b.places ↔ (b.at_ p).isSome = true
  | .lf, [] => by simp [Bush.places, Bush.at_]
  | .lf, _ :: _ => by simp [Bush.places, Bush.at_]
  | .nd a b, [] => by simp [Bush.places, Bush.at_]
  | .nd a b, x :: p => by
    have ha := @mem_places a p
    have hb := @mem_places b p
    cases x <;> simp [Bush.places, Bush.at_, ha, hb]
def Bush.ends (b : Bush) : List (List Bool) := b.places.filter fun p => decide (b.at_ p = some .lf)
theorem fm_enc {f : List Bool → Bool} : ∀ ps : List (List Bool), (ps.map encP).filterMap (fun d => if f (decP d) then some d else none) = (ps.filter f).map encP
  | [] => rfl
  | p :: ps => by
    rw [List.map_cons, List.filterMap_cons, List.filter_cons, decP_enc]
    cases f p <;> simp [fm_enc ps]
section
variable {T : Nat → Option FD} {long tup isb sure : Nat} (F : BushFns T long tup isb sure) {d : PV} {b : Bush}
include F
theorem leaf_places_spec {i li pi : Nat} (hT : T i = some ⟨1, 3, [], q_leaf_places sure li pi⟩) (hl : T li = some ⟨1, 3, [], q_places_in li⟩) (hp : T pi = some ⟨2, 4, [], q_part_in⟩) (s : Soft d b) (hb : b.leaves ≤ 100000) (k : Nat) (hk : b.height + 5 ≤ k) :
    runF T k i [.v d] = .ret (.ml (b.ends.map encP)) [] := by
  obtain ⟨k, rfl⟩ : ∃ j, k = j + 2 := ⟨k - 2, by omega⟩
  have h1 := sure_soft F s (k + 1) (by omega)
  have h2 := places_in_spec hl b (k + 1) hb (by omega)
  have hlen := places_len b
  have hc : evE (runF T (k + 1)) [] (.lc [2] (.inr 2) (.seq (.call li (.cons false (.x 1) .nil))) (.cons false (.op .eq (.cons false (.call pi (.cons false (.x 1) (.cons false (.x 2) .nil))) (.cons false (.tup .nil) .nil))) .nil) (.x 2)) [some (.v d), some (.v b.enc), none] =
      .ok (.ml ((b.places.map encP).filterMap fun d => if decide (b.at_ (decP d) = some .lf) then some d else none)) [some (.v d), some (.v b.enc), none] := by
    refine lc_fm _ (by simp) ?_ rfl (by simp; omega) fun e he => ?_
    · simp [h2, handsOk, ioNames, putBack, itemsOf]
    · obtain ⟨p, hp', rfl⟩ := List.mem_map.mp he
      have hs := mem_places.mp hp'
      obtain ⟨c, hc⟩ := Option.isSome_iff_exists.mp hs
      have h3 := part_in_spec hp k hc
      refine ⟨[some (.v d), some (.v b.enc), some (.v (encP p))], rfl, ?_⟩
      rw [decP_enc, hc]
      cases c with
      | lf =>
        have hg : (if decide (some Bush.lf = some Bush.lf) = true then some (encP p) else none) = some (encP p) := by simp
        simp only [hg]
        exact ⟨[some (.v d), some (.v b.enc), some (.v (encP p))], .v (encP p), [some (.v d), some (.v b.enc), some (.v (encP p))], by simp [h3, handsOk, ioNames, putBack, opf2, cmpf, enc_nil], by simp, rfl, rfl⟩
      | nd x y =>
        have hg : (if decide (some (Bush.nd x y) = some Bush.lf) = true then some (encP p) else none) = none := by simp
        simp only [hg]
        exact ⟨[some (.v d), some (.v b.enc), some (.v (encP p))], by simp [h3, handsOk, ioNames, putBack, opf2, cmpf, enc_nil], rfl⟩
  rw [fm_enc (f := fun p => decide (b.at_ p = some .lf))] at hc
  rw [y_run hT]
  simp [q_leaf_places, ioOk, free, h1, handsOk, ioNames, putBack, hc, Bush.ends, outsOf]
theorem left_parts_spec {i li : Nat} (hT : T i = some ⟨1, 1, [], q_left_parts li sure⟩) (hl : T li = some ⟨1, 2, [], q_lefts_in⟩) (s : Soft d b) (hb : b.height ≤ 100000) (k : Nat) (hk : b.height + 5 ≤ k) : runF T k i [.v d] = .ret (.v (.tuple (b.lefts.map Bush.enc))) [] := by
  obtain ⟨k, rfl⟩ : ∃ j, k = j + 2 := ⟨k - 2, by omega⟩
  have h1 := sure_soft F s (k + 1) (by omega)
  have h2 := lefts_in_spec hl k b hb
  rw [y_run hT]
  simp [q_left_parts, ioOk, h1, h2, handsOk, ioNames, putBack, outsOf, opf1, tuplef]
end
def Bush.rights : Bush → List Bush
  | .lf => []
  | .nd a b => a.rights ++ [b]
def secP : PV → PV
  | .tuple [_, b] => b
  | _ => .none
theorem lefts_cut : ∀ b : Bush, ((b.lefts.map Bush.enc).dropLast.map secP).reverse = b.rights.map Bush.enc
  | .lf => rfl
  | .nd a b => by
    have ih := lefts_cut a
    have hne : a.lefts.map Bush.enc ≠ [] := by cases a <;> simp [Bush.lefts]
    rw [Bush.lefts, List.map_cons, List.dropLast_cons_of_ne_nil hne, List.map_cons, List.reverse_cons, ih, Bush.rights, List.map_append]
    rfl
theorem cut_last {xs : List PV} : cutP xs none (some (-1)) = xs.dropLast := by
  have h : HT.sIx xs.length xs.length (some (-1)) = xs.length - 1 := by
    show (if (-1 : Int) < 0 then (-1 + (xs.length : Int)).toNat else min (-1 : Int).toNat xs.length) = _
    rw [if_pos (by omega)]
    omega
  rw [cutP, h, HT.sIx_none, List.drop_zero, Nat.sub_zero, List.dropLast_eq_take]
theorem lefts_nd : ∀ (b : Bush) (d : PV), d ∈ (b.lefts.map Bush.enc).dropLast → ∃ x y : Bush, d = (Bush.nd x y).enc
  | .lf, d, h => by cases h
  | .nd a b, d, h => by
    have hne : a.lefts.map Bush.enc ≠ [] := by cases a <;> simp [Bush.lefts]
    rw [Bush.lefts, List.map_cons, List.dropLast_cons_of_ne_nil hne] at h
    rcases List.mem_cons.mp h with e | h
    · exact ⟨a, b, e⟩
    · exact lefts_nd a d h
section
variable {T : Nat → Option FD} {long tup isb sure : Nat} (F : BushFns T long tup isb sure) {d : PV} {b : Bush}
include F
theorem right_parts_spec {i li : Nat} (hT : T i = some ⟨1, 2, [], q_right_parts li sure⟩) (hl : T li = some ⟨1, 2, [], q_lefts_in⟩) (s : Soft d b) (hb : b.height ≤ 100000) (k : Nat) (hk : b.height + 5 ≤ k) : runF T k i [.v d] = .ret (.v (.tuple (b.rights.map Bush.enc))) [] := by
  obtain ⟨k, rfl⟩ : ∃ j, k = j + 2 := ⟨k - 2, by omega⟩
  have h1 := sure_soft F s (k + 1) (by omega)
  have h2 := lefts_in_spec hl k b hb
  have hlen := (lefts_len b).2
  have hc : evE (runF T (k + 1)) [] (.lc [1] (.inr 1) (.seq (.op (.slice false true) (.cons false (.call li (.cons false (.call sure (.cons false (.x 0) .nil)) .nil)) (.cons false (.op .neg (.cons false (.c (.int 1)) .nil)) .nil)))) .nil (.op .idx (.cons false (.x 1) (.cons false (.c (.int 1)) .nil)))) [some (.v d), none] =
      .ok (.ml ((b.lefts.map Bush.enc).dropLast.map secP)) [some (.v d), none] := by
    refine lc_map secP (by simp) ?_ rfl (by simp; omega) fun e he => ?_
    · simp [h1, h2, handsOk, ioNames, putBack, opf1, opf2, negf, vI, bInt, slicef, cut_last, itemsOf]
    · obtain ⟨x, y, rfl⟩ := lefts_nd b e he
      refine ⟨[some (.v d), some (.v (Bush.nd x y).enc)], .v y.enc, [some (.v d), some (.v (Bush.nd x y).enc)], rfl, ?_, by rw [enc_fz]; rfl, rfl⟩
      have a1 : idxf (Bush.nd x y).enc (.int 1) = some (.v y.enc) := by simp [Bush.enc, idxf, atI, ixN]
      simp [opf2, a1]
  rw [y_run hT]
  simp [-List.map_dropLast, q_right_parts, ioOk, hc, opf1, revf, tuplef, lefts_cut, outsOf]
end
end Pv
-- PvMem
set_option maxRecDepth 100000
namespace Pv
open PySem L2
theorem eqv_bits : ∀ p q : List Bool, PyData.eqvAll (p.map bitP) (q.map bitP) = decide (p = q)
  | [], [] => by simp [PyData.eqvAll]
  | [], _ :: _ => by simp [PyData.eqvAll]
  | _ :: _, [] => by simp [PyData.eqvAll]
  | x :: p, y :: q => by
    rw [List.map_cons, List.map_cons, PyData.eqvAll, eqv_bits p q]
    cases x <;> cases y <;> simp [bitP, PyData.eqv]
theorem mem_enc (q : List Bool) : ∀ ps : List (List Bool), mem (encP q) (ps.map encP) = decide (q ∈ ps)
  | [] => by simp [mem]
  | p :: ps => by
    have ih := mem_enc q ps
    unfold mem at ih ⊢
    rw [List.map_cons, List.any_cons, ih]
    have : PyData.eqv (encP p) (encP q) = decide (p = q) := by
      rw [encP, encP, PyData.eqv, eqv_bits]
    rw [this, Bool.eq_iff_iff]
    simp only [Bool.or_eq_true, decide_eq_true_iff, List.mem_cons]
    constructor
    · rintro (h | h)
      · exact .inl h.symm
      · exact .inr h
    · rintro (h | h)
      · exact .inl h.symm
      · exact .inr h
theorem mem_at (b : Bush) (q : List Bool) : mem (encP q) (b.places.map encP) = (b.at_ q).isSome := by
  rw [mem_enc, Bool.eq_iff_iff, decide_eq_true_iff, mem_places]
end Pv
-- PvCg
set_option maxRecDepth 100000
namespace Pv
open PySem L2
theorem bind_cg {α β : Type} {a b : Rs α} {f : α → En → Rs β} (h : a = b) : a.bind f = b.bind f := by rw [h]
/-- likeness to itself -/
theorem pvEq_self : ∀ d : PV, nice d = true → pvEq d d = true
  | .none, _ => rfl
  | .bool b, _ => by simp [pvEq]
  | .int i, _ => by simp [pvEq]
  | .str s, _ => by simp [pvEq]
  | .list xs, h => by
    rw [nice] at h
    rw [pvEq]
    exact pvEqs_self xs (and2 h).2
  | .tuple xs, h => by
    rw [nice] at h
    rw [pvEq]
    exact pvEqs_self xs (and2 h).2
  | .dict _, h => by cases h
where pvEqs_self : ∀ xs : List PV, niceA xs = true → pvEqs xs xs = true
  | [], _ => rfl
  | x :: xs, h => by
    rw [niceA] at h
    obtain ⟨h1, h2⟩ := and2 h
    rw [pvEqs, pvEq_self x h1, pvEqs_self xs h2]; rfl
end Pv
-- PvStep
set_option maxRecDepth 100000
namespace Pv
open PySem L2
section
variable {cf : Nat → List Ob → CR} {lk : List Nat} {r : ISs} {env env' env'' : En}
theorem st_asg {z : Bool} {i : Nat} {e : IE} {o : Ob} (hf : free lk i = true) (h : evE cf lk e env = .ok o env') (hs : env'.set i (some (fzIf z o)) = env'') : evSs cf lk (.cons (.asg z i e) r) env = evSs cf lk r env'' := by
  rw [y_ss1, y_asg, if_pos hf, h, Rs.bind_ok, Rs.bind_ok, hs]
theorem st_par {is : List Nat} {es : IEs} {os : List Ob} (hf : (is.all (free lk) && decide is.Nodup) = true) (h : evO cf lk es env = .ok os env') (hs : setObs env' is os = some env'') : evSs cf lk (.cons (.par is es) r) env = evSs cf lk r env'' := by
  rw [y_ss1, y_par, if_pos hf, h, Rs.bind_ok, hs, optR_some, Rs.bind_ok, Rs.bind_ok]
theorem st_for {tg : List Nat ⊕ Nat} {it : IT} {b : ISs} {ds : List PV} (hf : freeTg lk tg = true) (h : evIt cf lk it env = .ok ds env') (hl : forL (forT cf lk tg b) ds env' = .ok .nx env'') : evSs cf lk (.cons (.for_ tg it b) r) env = evSs cf lk r env'' := by
  rw [y_ss1, y_for, if_pos hf, h, Rs.bind_ok, hl, Rs.bind_ok]
theorem st_whl {c : IE} {b : ISs} (h : whileN (whlC cf lk c) (whlB cf lk b) wfuel env = .ok .nx env') : evSs cf lk (.cons (.whl c b) r) env = evSs cf lk r env' := by
  rw [y_ss1, y_whl, h, Rs.bind_ok]
theorem st_skip {c : IE} {a b : ISs} (h : evT cf lk c env = .ok false env') (hb : evSs cf lk b env' = .ok .nx env'') : evSs cf lk (.cons (.ite c a b) r) env = evSs cf lk r env'' := by
  rw [y_ss1, y_ifs, h, Rs.bind_ok]
  simp only [Bool.false_eq_true, if_false, hb, Rs.bind_ok]
theorem st_ret {e : IE} {o : Ob} (hx : e.isX = none) (h : evE cf lk e env = .ok o env') : evSs cf lk (.cons (.ret e) .nil) env = .ok (.rt o) env' := by
  rw [y_ss1, y_ret, y_retE hx, h, Rs.bind_ok, Rs.bind_ok]
end
end Pv
-- PvLc
set_option maxRecDepth 100000
namespace Pv
open PySem L2
section
variable {cf : Nat → List Ob → CR} {lk : List Nat} {own : List Nat} {tg : List Nat ⊕ Nat}
theorem lc_mapQ {α : Type} (en : α → PV) (o : α → Ob) (f : α → PV) {it : IT} {elt : IE} {env env0 : En} {ds : List α} (hlk : own.any (fun i => lk.contains i) = false) (hit : evIt cf lk it env = .ok (ds.map en) env0) (h0 : wipeL env0 own = env0) (hl : ds.length ≤ lim)
    (h : ∀ d ∈ ds, ∃ e1, setTg env0 tg (en d) = some e1 ∧ wipeL e1 own = env0 ∧ evE cf lk elt e1 = .ok (o d) e1 ∧ ∀ env, fzR (o d) env = .ok (f d) env) :
    evE cf lk (.lc own tg it .nil elt) env = .ok (.ml (ds.map f)) env0 :=
  lc_mapE en f hlk hit h0 hl fun d hd => by
    obtain ⟨e1, q1, q2, q3, q4⟩ := h d hd
    exact ⟨e1, o d, e1, q1, q3, q4 e1, q2⟩
theorem lc_fmQ {α : Type} (en : α → PV) (c : α → Bool) (o : α → Ob) (f : α → PV) {it : IT} {cond : IEs} {elt : IE} {env env0 : En} {ds : List α} (hlk : own.any (fun i => lk.contains i) = false) (hit : evIt cf lk it env = .ok (ds.map en) env0) (h0 : wipeL env0 own = env0) (hl : ds.length ≤ lim)
    (h : ∀ d ∈ ds, ∃ e1, setTg env0 tg (en d) = some e1 ∧ wipeL e1 own = env0 ∧ evK cf lk cond e1 = .ok (c d) e1 ∧ (c d = true → evE cf lk elt e1 = .ok (o d) e1 ∧ ∀ env, fzR (o d) env = .ok (f d) env)) :
    evE cf lk (.lc own tg it cond elt) env = .ok (.ml ((ds.filter c).map f)) env0 := by
  have := lc_fmE (cf := cf) (lk := lk) (tg := tg) (cond := cond) (elt := elt) en (fun d => if c d then some (f d) else none) hlk hit h0 hl fun d hd => by
    obtain ⟨e1, q1, q2, q3, q4⟩ := h d hd
    refine ⟨e1, q1, ?_⟩
    by_cases hc : c d = true
    · rw [if_pos hc]
      rw [hc] at q3
      exact ⟨e1, o d, e1, q3, (q4 hc).1, (q4 hc).2 e1, q2⟩
    · rw [if_neg hc]
      rw [show c d = false by simpa using hc] at q3
      exact ⟨e1, q3, q2⟩
  rw [this]
  congr 2
  clear h hl hit this
  induction ds with
  | nil => rfl
  | cons d ds ih =>
    rw [List.filterMap_cons, List.filter_cons]
    by_cases hc : c d = true
    · rw [if_pos hc, if_pos hc, List.map_cons, ih]
    · rw [if_neg hc, if_neg hc, ih]
end
section
variable {cf : Nat → List Ob → CR} {lk : List Nat} {r : ISs} {env env'' : En}
theorem st_asgQ {z : Bool} {i : Nat} {e : IE} {o : Ob} (hf : free lk i = true) (h : evE cf lk e env = .ok o env) (hs : env.set i (some (fzIf z o)) = env'') : evSs cf lk (.cons (.asg z i e) r) env = evSs cf lk r env'' := st_asg hf h hs
theorem st_skipQ {c : IE} {a b : ISs} (h : evT cf lk c env = .ok false env) (hb : evSs cf lk b env = .ok .nx env) : evSs cf lk (.cons (.ite c a b) r) env = evSs cf lk r env := st_skip h hb
theorem st_then {c : IE} {a b : ISs} {env' env2 : En} (h : evT cf lk c env = .ok true env') (hb : evSs cf lk a env' = .ok .nx env2) : evSs cf lk (.cons (.ite c a b) r) env = evSs cf lk r env2 := by
  rw [y_ss1, y_ifs, h, Rs.bind_ok]
  simp only [if_true, hb, Rs.bind_ok]
theorem st_else {c : IE} {a b : ISs} {env' env2 : En} (h : evT cf lk c env = .ok false env') (hb : evSs cf lk b env' = .ok .nx env2) : evSs cf lk (.cons (.ite c a b) r) env = evSs cf lk r env2 := st_skip h hb
end
@[simp] theorem y_swp {cf : Nat → List Ob → CR} {lk : List Nat} {env : En} {i : Nat} {x1 x2 e1 e2 : IE} : evS cf lk (.swp i x1 x2 e1 e2) env = (evF cf lk (.cons false e1 (.cons false e2 .nil)) env).bind fun ds env => (match ds with
      | [d1, d2] => ((stI cf lk i x1 d1 env).bind fun _ env => stI cf lk i x2 d2 env).bind fun _ env => .ok .nx env
      | _ => .no) := by rw [evS] <;> rfl
section
variable {a b : Int}
theorem i_add : opf2 .add (.int a) (.int b) = some (.v (.int (a + b))) := by unfold opf2 addf vI; rfl
theorem i_sub : opf2 .sub (.int a) (.int b) = some (.v (.int (a - b))) := by unfold opf2 subf vI; rfl
theorem i_mul (h : (small a || small b) = true) : opf2 .mul (.int a) (.int b) = some (.v (.int (a * b))) := by
  have : opf2 .mul (.int a) (.int b) = mulf (.int a) (.int b) := by unfold opf2; rfl
  rw [this, mulf, if_pos h, vI]
theorem i_eq : opf2 .eq (.int a) (.int b) = some (.v (.bool (a == b))) := by
  have : opf2 .eq (.int a) (.int b) = (eqf (.int a) (.int b)).map fun k => .v (.bool k) := by unfold opf2 cmpf; rfl
  rw [this, eqf_ii]; rfl
theorem i_ne : opf2 .ne (.int a) (.int b) = some (.v (.bool (a != b))) := by
  have : opf2 .ne (.int a) (.int b) = (nef (.int a) (.int b)).map fun k => .v (.bool k) := by unfold opf2 cmpf; rfl
  rw [this, nef_ii]; rfl
theorem i_lt : opf2 .lt (.int a) (.int b) = some (.v (.bool (decide (a < b)))) := by unfold opf2 cmpf ltf; rfl
theorem i_le : opf2 .le (.int a) (.int b) = some (.v (.bool (decide (a ≤ b)))) := by unfold opf2 cmpf lef; rfl
theorem i_gt : opf2 .gt (.int a) (.int b) = some (.v (.bool (decide (b < a)))) := by unfold opf2 cmpf gtf; rfl
theorem i_ge : opf2 .ge (.int a) (.int b) = some (.v (.bool (decide (b ≤ a)))) := by unfold opf2 cmpf gef; rfl
theorem i_neg : opf1 .neg (.int a) = some (.v (.int (-a))) := by unfold opf1 negf vI; rfl
end
theorem o_idx {d : PV} {i : Int} {o : Ob} (h : idxf d (.int i) = some o) : opf2 .idx d (.int i) = some o := by
  have : opf2 .idx d (.int i) = idxf d (.int i) := by unfold opf2; rfl
  rw [this, h]
theorem o_add {d e : PV} {o : Ob} (h : addf d e = some o) : opf2 .add d e = some o := by
  have : opf2 .add d e = addf d e := by unfold opf2; rfl
  rw [this, h]
theorem o_len {d : PV} {o : Ob} (h : lenf d = some o) : opf1 .len d = some o := by
  have : opf1 .len d = lenf d := by unfold opf1; rfl
  rw [this, h]
end Pv
-- PvBush7
set_option maxRecDepth 100000
namespace Pv
open PySem L2
structure SoftL (d : PV) (bs : List Bush) (h : Nat) : Prop where
  n : nice d = true
  t : tupP d = .tuple (bs.map Bush.enc)
  d : d.depth ≤ h
  h : ∀ b ∈ bs, b.height + 2 ≤ h
  l : bs.length ≤ 100000
theorem encs_nice : ∀ bs : List Bush, niceA (bs.map Bush.enc) = true
  | [] => rfl
  | b :: bs => by rw [List.map_cons, niceA, enc_nice, encs_nice bs]; rfl
theorem all_true {α : Type} : ∀ xs : List α, bBools (xs.map fun _ => PyData.bool true) = some (xs.map fun _ => true)
  | [] => rfl
  | x :: xs => by rw [List.map_cons, bBools, all_true xs]; rfl
theorem all_const {α : Type} : ∀ xs : List α, (xs.map fun _ => true).all id = true
  | [] => rfl
  | x :: xs => by rw [List.map_cons, List.all_cons, all_const xs]; rfl
def constP (c : PV) (_ : PV) : PV := c
def Bush.build (bs : List Bush) : Bush := bs.foldl Bush.nd .lf
theorem sums : ∀ bs : List Bush, bInts (bs.map fun b => PyData.int b.leaves) = some (bs.map fun b => (b.leaves : Int))
  | [] => rfl
  | b :: bs => by rw [List.map_cons, bInts, sums bs]; rfl
theorem build_loop {cf : Nat → List Ob → CR} {o0 o1 : Option Ob} : ∀ (bs : List Bush) (acc : Bush) (o2 : Option Ob),
    ∃ o2', forL (forT cf [] (.inr 2) (.cons (.asg true 3 (.tup (.cons false (.x 3) (.cons false (.x 2) .nil)))) .nil)) (bs.map Bush.enc) [o0, o1, o2, some (.v acc.enc)] = .ok .nx [o0, o1, o2', some (.v (bs.foldl Bush.nd acc).enc)]
  | [], acc, o2 => ⟨o2, by simp [forL]⟩
  | b :: bs, acc, o2 => by
    obtain ⟨o2', h'⟩ := build_loop (cf := cf) (o0 := o0) (o1 := o1) bs (Bush.nd acc b) (some (.v b.enc))
    refine ⟨o2', ?_⟩
    rw [List.map_cons, forL, List.foldl_cons, ← h']
    simp [forT, setTg, free, Bush.enc]
theorem enc_inj : ∀ {a b : Bush}, a.enc = b.enc → a = b
  | .lf, .lf, _ => rfl
  | .lf, .nd _ _, h => by simp [Bush.enc] at h
  | .nd _ _, .lf, h => by simp [Bush.enc] at h
  | .nd a b, .nd c d, h => by
    simp only [Bush.enc, PyData.tuple.injEq, List.cons.injEq, and_true] at h
    rw [enc_inj h.1, enc_inj h.2]
section
variable {T : Nat → Option FD} {long tup isb sure : Nat} (F : BushFns T long tup isb sure) {d : PV} {bs : List Bush} {h : Nat}
include F
theorem sure_bushes_spec {i : Nat} (hT : T i = some ⟨1, 3, [], q_sure_bushes tup isb⟩) (s : SoftL d bs h) (k : Nat) (hk : h + 3 ≤ k) : runF T k i [.v d] = .ret (.v (.tuple (bs.map Bush.enc))) [] := by
  obtain ⟨k, rfl⟩ : ∃ j, k = j + 1 := ⟨k - 1, by omega⟩
  have h1 := tupled_spec F.h2 k d s.n (by have := s.d; omega)
  rw [s.t] at h1
  have hc : evE (runF T k) [] (.lc [2] (.inr 2) (.seq (.x 1)) .nil (.call isb (.cons false (.x 2) .nil))) [some (.v d), some (.v (.tuple (bs.map Bush.enc))), none] =
      .ok (.ml ((bs.map Bush.enc).map fun _ => .bool true)) [some (.v d), some (.v (.tuple (bs.map Bush.enc))), none] := by
    refine lc_map _ (by simp) (by simp [itemsOf]) rfl (by simp; have := s.l; omega) fun e he => ?_
    obtain ⟨b, hb, rfl⟩ := List.mem_map.mp he
    have h2 := is_bush_spec F.h3 F.h1 k b.enc (enc_nice b) (by rw [enc_depth]; have := s.h b hb; omega)
    rw [enc_bush] at h2
    exact ⟨[some (.v d), some (.v (.tuple (bs.map Bush.enc))), some (.v b.enc)], .v (.bool true), [some (.v d), some (.v (.tuple (bs.map Bush.enc))), some (.v b.enc)], rfl, by simp [h2, handsOk, ioNames, putBack], rfl, rfl⟩
  rw [y_run hT]
  have h3 := all_true (bs.map Bush.enc)
  have h4 := all_const (bs.map Bush.enc)
  simp only [List.map_map] at h3 h4
  simp [q_sure_bushes, ioOk, free, h1, handsOk, ioNames, putBack, opf1, kindf, isTupV, vB, hc, allf, outsOf, h3, h4]
theorem from_rights_spec {i sb li : Nat} (hT : T i = some ⟨1, 4, [], q_from_right_parts sb li⟩) (hs : T sb = some ⟨1, 3, [], q_sure_bushes tup isb⟩) (hl : T li = some ⟨1, 1, [], q_leaves_in li⟩) (s : SoftL d bs h) (hsum : 1 + (bs.map fun b => (b.leaves : Int)).sum ≤ 12) (k : Nat) (hk : h + 4 ≤ k) : runF T k i [.v d] = .ret (.v (Bush.build bs).enc) [] := by
  obtain ⟨k, rfl⟩ : ∃ j, k = j + 1 := ⟨k - 1, by omega⟩
  have h1 := sure_bushes_spec F hs s k (by omega)
  have hc : evE (runF T k) [] (.lc [2] (.inr 2) (.seq (.x 1)) .nil (.call li (.cons false (.x 2) .nil))) [some (.v d), some (.v (.tuple (bs.map Bush.enc))), none, none] =
      .ok (.ml (bs.map fun b => .int b.leaves)) [some (.v d), some (.v (.tuple (bs.map Bush.enc))), none, none] := by
    refine lc_mapE Bush.enc _ (by simp) (by simp [itemsOf]) rfl (by simp; have := s.l; omega) fun b hb => ?_
    have h2 := leaves_in_spec hl b k (by have := s.h b hb; omega)
    exact ⟨[some (.v d), some (.v (.tuple (bs.map Bush.enc))), some (.v b.enc), none], .v (.int b.leaves), [some (.v d), some (.v (.tuple (bs.map Bush.enc))), some (.v b.enc), none], rfl, by simp [h2, handsOk, ioNames, putBack], rfl, rfl⟩
  obtain ⟨o2', hloop⟩ := build_loop (cf := runF T k) (o0 := some (.v d)) (o1 := some (.v (.tuple (bs.map Bush.enc)))) bs .lf none
  have hn : ¬ (12 : Int) < 1 + (bs.map fun b => (b.leaves : Int)).sum := by omega
  rw [y_run hT]
  simp only [Bush.enc] at hloop
  simp [q_from_right_parts, ioOk, free, freeTg, h1, handsOk, ioNames, putBack, opf1, opf2, cmpf, hc, sumf, sums, vI, addf, gtf, hn, itemsOf, hloop, outsOf, Bush.build]
end
end Pv
-- PvBushLaw
set_option maxRecDepth 100000
namespace Pv
open PySem L2
mutual
def listP : PV → PV
  | .list xs => .list (listPs xs)
  | .tuple xs => .list (listPs xs)
  | d => d
def listPs : List PV → List PV
  | [] => []
  | x :: xs => listP x :: listPs xs
end
theorem listPs_map : ∀ xs : List PV, listPs xs = xs.map listP
  | [] => rfl
  | x :: xs => by rw [listPs, List.map_cons, listPs_map xs]
/-- as it comes back -/
def listO : PV → Ob
  | .list xs => .ml (xs.map listP)
  | .tuple xs => .ml (xs.map listP)
  | d => .v d
theorem listO_fz (d : PV) (h : nice d = true) (env : En) : fzR (listO d) env = .ok (listP d) env := by
  cases d <;> first | (cases h; done) | rfl | (simp [listO, listP, listPs_map])
theorem lists_spec {T : Nat → Option FD} {i : Nat} (hT : T i = some ⟨1, 2, [], q_law_lists i⟩) : ∀ (k : Nat) (d : PV), nice d = true → d.depth + 1 ≤ k → runF T k i [.v d] = .ret (listO d) []
  | 0, d, _, h => by omega
  | k + 1, d, hd, hk => by
    have seq : ∀ (xs : List PV) (mk : List PV → PV), niceA xs = true → xs.length ≤ 16777216 → PyData.depthAll xs + 1 ≤ k → itemsOf (mk xs) = some xs → isD (mk xs) = false →
        evE (runF T k) [] (.lc [1] (.inr 1) (.seq (.x 0)) .nil (.call i (.cons false (.x 1) .nil))) [some (.v (mk xs)), none] = .ok (.ml (xs.map listP)) [some (.v (mk xs)), none] := fun xs mk hx hl hdep hi hd => by
      refine lc_map listP (by simp) ?_ rfl (by simpa using hl) fun d hd => ?_
      · have e1 := y_fzv (env := [some (.v (mk xs)), none]) hd
        simp [e1, hi]
      · have dm := depth_mem hd
        have hn := niceA_mem hx hd
        have ih := lists_spec hT k d hn (by omega)
        exact ⟨[some (.v (mk xs)), some (.v d)], listO d, [some (.v (mk xs)), some (.v d)], rfl, by simp [ih, handsOk, ioNames, putBack], listO_fz d hn _, rfl⟩
    rw [y_run hT]
    cases d with
    | dict _ => cases hd
    | list xs =>
      rw [nice] at hd
      obtain ⟨h1, h2⟩ := and2 hd
      rw [PyData.depth] at hk
      have := seq xs .list h2 (of_decide_eq_true h1) (by omega) rfl rfl
      simp [q_law_lists, ioOk, opf1, opf2, kindf, vB, isSeqV, isListV, isTupV, this, outsOf, listO]
    | tuple xs =>
      rw [nice] at hd
      obtain ⟨h1, h2⟩ := and2 hd
      rw [PyData.depth] at hk
      have := seq xs .tuple h2 (of_decide_eq_true h1) (by omega) rfl rfl
      simp [q_law_lists, ioOk, opf1, opf2, kindf, vB, isSeqV, isListV, isTupV, this, outsOf, listO]
    | none => simp [q_law_lists, ioOk, opf1, opf2, kindf, vB, isSeqV, isListV, isTupV, outsOf, listO]
    | bool _ => simp [q_law_lists, ioOk, opf1, opf2, kindf, vB, isSeqV, isListV, isTupV, outsOf, listO]
    | int _ => simp [q_law_lists, ioOk, opf1, opf2, kindf, vB, isSeqV, isListV, isTupV, outsOf, listO]
    | str _ => simp [q_law_lists, ioOk, opf1, opf2, kindf, vB, isSeqV, isListV, isTupV, outsOf, listO]
def Bush.soft (b : Bush) : PV := listP b.enc
theorem soft_nice : ∀ b : Bush, nice b.soft = true
  | .lf => rfl
  | .nd a b => by
    have := soft_nice a
    have := soft_nice b
    simp_all [Bush.soft, Bush.enc, listP, listPs, nice, niceA]
theorem soft_tup : ∀ b : Bush, tupP b.soft = b.enc
  | .lf => rfl
  | .nd a b => by
    have := soft_tup a
    have := soft_tup b
    simp_all [Bush.soft, Bush.enc, listP, listPs, tupP, tupPs]
theorem soft_depth : ∀ b : Bush, b.soft.depth = b.height + 1
  | .lf => rfl
  | .nd a b => by
    have ha := soft_depth a
    have hb := soft_depth b
    simp only [Bush.soft] at ha hb
    simp only [Bush.soft, Bush.enc, listP, listPs, PyData.depth, PyData.depthAll, ha, hb, Bush.height]
    omega
theorem Soft.soft (b : Bush) : Soft b.soft b := ⟨soft_nice b, soft_tup b, by rw [soft_depth]; exact Nat.le_refl _⟩
theorem lists_enc {T : Nat → Option FD} {i : Nat} (hT : T i = some ⟨1, 2, [], q_law_lists i⟩) (k : Nat) (b : Bush) (hk : b.height + 2 ≤ k) : ∃ xs, runF T k i [.v b.enc] = .ret (.ml xs) [] ∧ b.soft = .list xs := by
  have h := lists_spec hT k b.enc (enc_nice b) (by rw [enc_depth]; omega)
  cases b with
  | lf => exact ⟨_, h, rfl⟩
  | nd x y => exact ⟨_, h, rfl⟩
def sumL (bs : List Bush) : Nat := (bs.map Bush.leaves).sum
theorem len_sumL (st : List Bush) : st.length ≤ sumL st := by
  induction st with
  | nil => exact Nat.le_refl _
  | cons b st ih =>
    have := height_lt b
    simp only [sumL, List.map_cons, List.sum_cons, List.length_cons] at ih ⊢
    omega
theorem leafs_loop {cf : Nat → List Ob → CR} {o0 : Option Ob} : ∀ (n : Nat) (st : List Bush) (c : Nat) (o3 : Option Ob), 2 * sumL st < n + st.length → sumL st ≤ 10000 →
    ∃ o3', whileN (whlC cf [] (.op .ne (.cons false (.x 1) (.cons false (.lst .nil) .nil)))) (whlB cf [] (.cons (.asg true 3 (.pop 1))
      (.cons (.ite (.op .eq (.cons false (.x 3) (.cons false (.tup .nil) .nil))) (.cons (.asg true 2 (.op .add (.cons false (.x 2) (.cons false (.c (.int 1)) .nil)))) .nil) (.cons (.ext 1 (.lst (.cons false (.op .idx (.cons false (.x 3) (.cons false (.c (.int 0)) .nil))) (.cons false (.op .idx (.cons false (.x 3) (.cons false (.c (.int 1)) .nil))) .nil)))) .nil)) .nil))) n
      [o0, some (.ml (st.map Bush.enc)), some (.v (.int c)), o3] = .ok .nx [o0, some (.ml []), some (.v (.int ((c + sumL st : Nat) : Int))), o3']
  | 0, st, c, o3, h, _ => by
    exfalso
    have := len_sumL st
    omega
  | n + 1, st, c, o3, h, hl => by
    rcases List.eq_nil_or_concat st with rfl | ⟨st', b, rfl⟩
    · refine ⟨o3, ?_⟩
      rw [whileN]
      simp [whlC, opf2, cmpf, sumL]
    · have hs : sumL (st' ++ [b]) = sumL st' + b.leaves := by simp [sumL]
      rw [List.concat_eq_append] at h hl ⊢
      rw [hs, List.length_append, List.length_singleton] at h
      rw [hs] at hl
      rw [hs]
      cases b with
      | lf =>
        obtain ⟨o3', h'⟩ := leafs_loop (cf := cf) (o0 := o0) n st' (c + 1) (some (.v Bush.lf.enc)) (by simp only [Bush.leaves] at h; omega) (by simp only [Bush.leaves] at hl; omega)
        refine ⟨o3', ?_⟩
        have e : c + (sumL st' + Bush.lf.leaves) = c + 1 + sumL st' := by simp only [Bush.leaves]; omega
        rw [e, ← h', whileN]
        simp [whlC, whlB, opf2, cmpf, free, Bush.enc, addf, vI]
      | nd x y =>
        have hs2 : sumL (st' ++ [x, y]) = sumL st' + (Bush.nd x y).leaves := by simp [sumL, Bush.leaves]
        obtain ⟨o3', h'⟩ := leafs_loop (cf := cf) (o0 := o0) n (st' ++ [x, y]) c (some (.v (Bush.nd x y).enc)) (by rw [hs2, List.length_append]; simp only [List.length_cons, List.length_nil]; omega) (by rw [hs2]; exact hl)
        refine ⟨o3', ?_⟩
        have e2 : eqf (Bush.nd x y).enc (.tuple []) = some false := by simp [Bush.enc]
        have a0 : idxf (Bush.nd x y).enc (.int 0) = some (.v x.enc) := by simp [Bush.enc, idxf, atI, ixN]
        have a1 : idxf (Bush.nd x y).enc (.int 1) = some (.v y.enc) := by simp [Bush.enc, idxf, atI, ixN]
        have hlen : st'.length + 2 ≤ 16777216 := by have := len_sumL st'; omega
        rw [← hs2, ← h', whileN]
        simp [whlC, whlB, opf2, cmpf, free, e2, a0, a1, isMl, hlen]
theorem leafs_spec {T : Nat → Option FD} {i : Nat} (hT : T i = some ⟨1, 4, [], q_law_leafs⟩) (k : Nat) (b : Bush) (hb : b.leaves ≤ 10000) : runF T (k + 1) i [.v b.enc] = .ret (.v (.int b.leaves)) [] := by
  obtain ⟨o3', h'⟩ := leafs_loop (cf := runF T k) (o0 := some (.v b.enc)) wfuel [b] 0 none (by simp [sumL]; unfold wfuel; omega) (by simp [sumL]; omega)
  rw [y_run hT]
  simp [sumL] at h'
  simp [q_law_leafs, ioOk, free, setObs, h', outsOf]
end Pv
-- PvBushLaw2
set_option maxRecDepth 100000
namespace Pv
open PySem L2
theorem law_mirror_spec {T : Nat → Option FD} {i : Nat} (hT : T i = some ⟨1, 1, [], q_law_mirror i⟩) : ∀ (b : Bush) (k : Nat), b.height + 1 ≤ k → runF T k i [.v b.enc] = .ret (.v b.mirror.enc) [] := fun b k h => mirror_in_spec (i := i) hT b k h
theorem law_part_loop {cf : Nat → List Ob → CR} {o1 : Option Ob} : ∀ (p : List Bool) (b c : Bush) (o3 : Option Ob), b.at_ p = some c →
    ∃ o3', forL (forT cf [] (.inr 2) (.cons (.asg true 0 (.op .idx (.cons false (.x 0) (.cons false (.x 2) .nil)))) .nil)) (p.map bitP) [some (.v b.enc), o1, o3] = .ok .nx [some (.v c.enc), o1, o3']
  | [], b, c, o3, h => by
    rw [Bush.at_] at h
    cases h
    exact ⟨o3, by simp [forL]⟩
  | x :: p, .lf, c, o3, h => by rw [Bush.at_] at h; cases h
  | x :: p, .nd a b, c, o3, h => by
    rw [Bush.at_] at h
    obtain ⟨o3', h'⟩ := law_part_loop (cf := cf) (o1 := o1) p _ c (some (.v (bitP x))) h
    refine ⟨o3', ?_⟩
    rw [List.map_cons, forL, ← h']
    simp [forT, setTg, free, opf2, step_idx]
theorem law_part_spec {T : Nat → Option FD} {i : Nat} (hT : T i = some ⟨2, 3, [], q_law_part⟩) (k : Nat) {b c : Bush} {p : List Bool} (h : b.at_ p = some c) : runF T (k + 1) i [.v b.enc, .v (encP p)] = .ret (.v c.enc) [] := by
  obtain ⟨o3', h'⟩ := law_part_loop (cf := runF T k) (o1 := some (.v (encP p))) p b c none h
  rw [y_run hT]
  simp [q_law_part, ioOk, free, freeTg, encP, itemsOf, outsOf] at h' ⊢
  simp [h', outsOf]
theorem law_put_spec {T : Nat → Option FD} {i : Nat} (hT : T i = some ⟨3, 3, [], q_law_put i⟩) : ∀ (p : List Bool) (b o : Bush) (k : Nat), (b.at_ p).isSome = true → p.length + 1 ≤ k → runF T k i [.v b.enc, .v (encP p), .v o.enc] = .ret (.v (b.put p o).enc) []
  | [], b, o, k, _, h => by
    obtain ⟨k, rfl⟩ : ∃ j, k = j + 1 := ⟨k - 1, by omega⟩
    rw [y_run hT]
    cases b <;> simp [q_law_put, encP, opf2, cmpf, ioOk, outsOf, Bush.put, free]
  | x :: p, .lf, o, k, h, _ => by rw [Bush.at_] at h; cases h
  | x :: p, .nd a b, o, k, h, hk => by
    rw [List.length_cons] at hk
    obtain ⟨k, rfl⟩ : ∃ j, k = j + 1 := ⟨k - 1, by omega⟩
    rw [Bush.at_] at h
    have ih := law_put_spec hT p (if x then b else a) o k h (by omega)
    have e0 : idxf (encP (x :: p)) (.int 0) = some (.v (bitP x)) := by simp [encP, idxf, atI, ixN]
    have e1 : slicef (encP (x :: p)) (some 1) none = some (.v (encP p)) := by unfold encP; rw [List.map_cons, cut_tail]
    have e2 : eqf (encP (x :: p)) (.tuple []) = some false := by simp [encP]
    have a0 : idxf (Bush.nd a b).enc (.int 0) = some (.v a.enc) := by simp [Bush.enc, idxf, atI, ixN]
    have a1 : idxf (Bush.nd a b).enc (.int 1) = some (.v b.enc) := by simp [Bush.enc, idxf, atI, ixN]
    rw [y_run hT]
    cases x with
    | false =>
      simp only [Bool.false_eq_true, if_false] at ih
      simp [q_law_put, opf1, opf2, cmpf, ioOk, outsOf, free, e0, e1, e2, a0, a1, bit_eq0, bInt, ih, handsOk, ioNames, putBack, Bush.put]
      simp [Bush.enc]
    | true =>
      simp only [if_true] at ih
      simp [q_law_put, opf1, opf2, cmpf, ioOk, outsOf, free, e0, e1, e2, a0, a1, bit_eq0, bInt, ih, handsOk, ioNames, putBack, Bush.put]
      simp [Bush.enc]
theorem law_spots_spec {T : Nat → Option FD} {i : Nat} (hT : T i = some ⟨1, 3, [], q_law_spots i⟩) : ∀ (b : Bush) (k : Nat), b.leaves ≤ 100000 → b.height + 1 ≤ k → runF T k i [.v b.enc] = .ret (.v (.list (b.places.map encP))) []
  | .lf, k, _, h => by
    obtain ⟨k, rfl⟩ : ∃ j, k = j + 1 := ⟨k - 1, by omega⟩
    rw [y_run hT]
    simp [q_law_spots, Bush.enc, opf2, cmpf, ioOk, outsOf, Bush.places, free, encP]
  | .nd a b, k, hl, h => by
    obtain ⟨k, rfl⟩ : ∃ j, k = j + 1 := ⟨k - 1, by omega⟩
    rw [Bush.height] at h
    rw [Bush.leaves] at hl
    have ha := law_spots_spec hT a k (by omega) (by omega)
    have hb := law_spots_spec hT b k (by omega) (by omega)
    have la := places_len a
    have lb := places_len b
    have a0 : idxf (Bush.nd a b).enc (.int 0) = some (.v a.enc) := by simp [Bush.enc, idxf, atI, ixN]
    have a1 : idxf (Bush.nd a b).enc (.int 1) = some (.v b.enc) := by simp [Bush.enc, idxf, atI, ixN]
    have e2 : nef (Bush.nd a b).enc (.tuple []) = some true := by simp [Bush.enc]
    have ga := pre_ok (cf := runF T k) (x := 0) (src := .call i (.cons false (.op .idx (.cons false (.x 0) (.cons false (.c (.int 0)) .nil))) .nil)) (ps := a.places) (env := [some (.v (Bush.nd a b).enc), some (.v (.list [.tuple []])), none]) (o := .v (.list (a.places.map encP)))
      (oa := some (.v (Bush.nd a b).enc)) (ob := some (.v (.list [.tuple []]))) (fun p hp => by have := place_short hp; have := height_lt a; omega) (by omega) (by simp [opf2, a0, ha, handsOk, ioNames, putBack]) (fun e => rfl)
    have gb := pre_ok (cf := runF T k) (x := 1) (src := .call i (.cons false (.op .idx (.cons false (.x 0) (.cons false (.c (.int 1)) .nil))) .nil)) (ps := b.places) (env := [some (.v (Bush.nd a b).enc), some (.v (.list [.tuple []])), none]) (o := .v (.list (b.places.map encP)))
      (oa := some (.v (Bush.nd a b).enc)) (ob := some (.v (.list [.tuple []]))) (fun p hp => by have := place_short hp; have := height_lt b; omega) (by omega) (by simp [opf2, a1, hb, handsOk, ioNames, putBack]) (fun e => rfl)
    rw [show (0 : Int) = if false = true then 1 else 0 from rfl, addP_enc] at ga
    rw [show (1 : Int) = if true = true then 1 else 0 from rfl, addP_enc] at gb
    have s1 : 1 + a.places.length ≤ 16777216 := by omega
    have s2 : a.places.length + 1 + b.places.length ≤ 16777216 := by omega
    rw [y_run hT]
    simp only [Bool.false_eq_true, if_false, if_true] at ga gb
    simp [-List.map_map, q_law_spots, opf1, opf2, cmpf, ioOk, outsOf, free, e2, ga, gb, addf, s1, s2, Bush.places]
    simp [encP]
theorem law_of_spec {T : Nat → Option FD} {i t : Nat} (hT : T i = some ⟨2, 2, [0], q_law_of t⟩) (ht : T t = some ⟨2, 6, [0], q_law_take⟩) (k : Nat) {A B C : Int} (h : TinOk A C) (xs : List PV) (h0 : 0 < xs.length) (h1 : xs.length < 1000000) (hx : niceA xs = true) :
    ∃ x A' C', x ∈ xs ∧ runF T (k + 2) i [.ml (tin A B C), .v (.list xs)] = .ret (.v x) [.ml (tin A' B C')] ∧ 0 ≤ A' ∧ C ≤ C' ∧ C' ≤ C + 1 := by
  obtain ⟨v, A', C', hr, hv0, hv1, hA, hC, hC2⟩ := take_spec ht k (B := B) (n := xs.length) h (by omega) (by omega)
  have hlt : v.toNat < xs.length := by omega
  have hget : idxf (.list xs) (.int v) = some (.v xs[v.toNat]) := by
    simp only [idxf, atI, ixN]
    rw [if_pos hv0, if_pos hv1]
    simp [hlt]
  refine ⟨xs[v.toNat], A', C', List.getElem_mem _, ?_, hA, hC, hC2⟩
  rw [y_run hT]
  simp [q_law_of, ioOk, opf1, opf2, lenf, vI, hr, handsOk, ioNames, putBack, hget, outsOf]
end Pv
-- PvMv1
set_option maxRecDepth 100000
namespace Pv
open PySem L2
def optE : Option Bush → PV
  | some b => b.enc
  | none => .none
theorem optE_fz (o : Option Bush) (env : En) : fzR (.v (optE o)) env = .ok (optE o) env := by
  cases o with
  | none => rfl
  | some b => exact enc_fz
theorem optE_isD (o : Option Bush) : isD (optE o) = false := by
  cases o with
  | none => rfl
  | some b => exact enc_isD
theorem enc_eqn (b : Bush) : eqf b.enc (.tuple []) = some (decide (b = .lf)) := enc_nil
theorem ix_0 (a b : Bush) : idxf (Bush.nd a b).enc (.int 0) = some (.v a.enc) := by simp [Bush.enc, idxf, atI, ixN]
theorem ix_1 (a b : Bush) : idxf (Bush.nd a b).enc (.int 1) = some (.v b.enc) := by simp [Bush.enc, idxf, atI, ixN]
theorem o_nei {d e : PV} {k : Bool} (h : nef d e = some k) : opf2 .ne d e = some (.v (.bool k)) := by
  have : opf2 .ne d e = (nef d e).map fun k => .v (.bool k) := by unfold opf2 cmpf; rfl
  rw [this, h]; rfl
theorem o_eqi {d e : PV} {k : Bool} (h : eqf d e = some k) : opf2 .eq d e = some (.v (.bool k)) := by
  have : opf2 .eq d e = (eqf d e).map fun k => .v (.bool k) := by unfold opf2 cmpf; rfl
  rw [this, h]; rfl
section
variable {T : Nat → Option FD}
theorem spreads_spec {i : Nat} (hT : T i = some ⟨1, 1, [], q_spreads⟩) (k : Nat) (b : Bush) : runF T (k + 1) i [.v b.enc] = .ret (.v (.bool b.spr.isSome)) [] := by
  rw [y_run hT]
  match b with
  | .lf =>
    have e0 := o_nei (enc_nnil (b := .lf))
    simp [q_spreads, ioOk, e0, outsOf, Bush.spr]
  | .nd a .lf =>
    have e0 := o_nei (enc_nnil (b := .nd a .lf))
    have e1 := o_nei (enc_nnil (b := .lf))
    have i1 := o_idx (ix_1 a .lf)
    simp [q_spreads, ioOk, e0, i1, e1, outsOf, Bush.spr]
  | .nd a (.nd b c) =>
    have e0 := o_nei (enc_nnil (b := .nd a (.nd b c)))
    have e1 := o_nei (enc_nnil (b := .nd b c))
    have i1 := o_idx (ix_1 a (.nd b c))
    simp [q_spreads, ioOk, e0, i1, e1, outsOf, Bush.spr]
theorem spread_in_spec {i : Nat} (hT : T i = some ⟨1, 1, [], q_spread_in⟩) (k : Nat) {b c : Bush} (h : b.spr = some c) : runF T (k + 1) i [.v b.enc] = .ret (.v c.enc) [] := by
  match b, h with
  | .nd a (.nd b c), h =>
    cases h
    have i0 := o_idx (ix_0 a (.nd b c))
    have i1 := o_idx (ix_1 a (.nd b c))
    have j0 := o_idx (ix_0 b c)
    have j1 := o_idx (ix_1 b c)
    rw [y_run hT]
    simp [q_spread_in, ioOk, i0, i1, j0, j1, outsOf]
    simp [Bush.enc]
theorem mvd_loop {cf : Nat → List Ob → CR} {o0 o1 : Option Ob} : ∀ (p : List Bool) (b : Bush) (o3 : Option Ob),
    ∃ e', forL (forT cf [] (.inr 3) (.cons (.ite (.op .eq (.cons false (.x 2) (.cons false (.tup .nil) .nil))) (.cons (.ret (.c .none)) .nil) .nil) (.cons (.asg true 2 (.op .idx (.cons false (.x 2) (.cons false (.x 3) .nil)))) .nil))) (p.map bitP) [o0, o1, some (.v b.enc), o3] =
      match b.at_ p with
      | some c => .ok .nx [o0, o1, some (.v c.enc), e']
      | none => .ok (.rt (.v .none)) [o0, o1, some (.v Bush.lf.enc), e']
  | [], b, o3 => ⟨o3, by rw [List.map_nil, forL, show b.at_ [] = some b by cases b <;> rfl]⟩
  | x :: p, .lf, o3 => by
    refine ⟨some (.v (bitP x)), ?_⟩
    rw [List.map_cons, forL, Bush.at_]
    simp [forT, setTg, free, opf2, cmpf, Bush.enc]
  | x :: p, .nd a b, o3 => by
    obtain ⟨e', h'⟩ := mvd_loop (cf := cf) (o0 := o0) (o1 := o1) p (if x then b else a) (some (.v (bitP x)))
    refine ⟨e', ?_⟩
    rw [List.map_cons, forL, Bush.at_, ← h']
    have e2 : eqf (Bush.nd a b).enc (.tuple []) = some false := by simp [Bush.enc]
    simp [forT, setTg, free, opf2, cmpf, step_idx, e2]
theorem moved_in_spec {i s p m : Nat} (hT : T i = some ⟨2, 4, [], q_moved_in s p m⟩) (hs : T s = some ⟨1, 1, [], q_spreads⟩) (hp : T p = some ⟨3, 3, [], q_put_in p⟩) (hm : T m = some ⟨1, 1, [], q_spread_in⟩) (k : Nat) (b : Bush) (pl : List Bool) (hk : b.height + 3 ≤ k) : runF T k i [.v b.enc, .v (encP pl)] = .ret (.v (optE (b.mv pl))) [] := by
  obtain ⟨k, rfl⟩ : ∃ j, k = j + 2 := ⟨k - 2, by omega⟩
  obtain ⟨e', h'⟩ := mvd_loop (cf := runF T (k + 1)) (o0 := some (.v b.enc)) (o1 := some (.v (encP pl))) pl b none
  rw [Bush.mv_at]
  cases hc : b.at_ pl with
  | none =>
    rw [hc] at h'
    rw [y_run hT]
    simp [q_moved_in, ioOk, free, freeTg, encP, itemsOf, outsOf] at h' ⊢
    rw [h']
    simp [outsOf, optE]
  | some c =>
    rw [hc] at h'
    have g1 := spreads_spec hs k c
    rw [Option.bind_some]
    cases hd : c.spr with
    | none =>
      rw [hd] at g1
      rw [y_run hT]
      simp [q_moved_in, ioOk, free, freeTg, encP, itemsOf, outsOf] at h' ⊢
      rw [h']
      simp [g1, handsOk, ioNames, putBack, outsOf, optE]
    | some d =>
      rw [hd] at g1
      have g2 := spread_in_spec hm k hd
      have hl : pl.length ≤ b.height := Bush.at_len hc
      have g3 := put_in_spec hp pl b d (k + 1) (by rw [hc]; rfl) (by omega)
      rw [y_run hT]
      simp only [encP] at g3
      simp [q_moved_in, ioOk, free, freeTg, encP, itemsOf, outsOf] at h' ⊢
      rw [h']
      simp [g1, g2, g3, handsOk, ioNames, putBack, outsOf, optE]
end
end Pv
-- PvMv2
set_option maxRecDepth 100000
namespace Pv
open PySem L2
abbrev encR (ps : List Pl) : PV := .tuple (ps.map encP)
abbrev encB (bs : List Bush) : List PV := bs.map Bush.enc
theorem o_last {L : List PV} {d : PV} : opf2 .idx (.list (L ++ [d])) (.int (-1)) = some (.v d) := by
  refine o_idx ?_
  simp only [idxf, atI, ixN, List.length_append, List.length_singleton]
  have h1 : ¬ (0 : Int) ≤ -1 := by omega
  have h2 : (0 : Int) ≤ -1 + ((L.length + 1 : Nat) : Int) := by omega
  simp [h2]
  have h3 : (-1 + ((L.length : Int) + 1)).toNat = L.length := by omega
  have h4 : (1 : Int) ≤ (L.length : Int) + 1 := by omega
  simp [h3, h4]
section
variable {cf : Nat → List Ob → CR} {o0 o1 o3 o4 : Option Ob}
abbrev stB (f : Nat) : ISs := .cons (.asg true 4 (.call f (.cons false (.op .idx (.cons false (.x 2) (.cons false (.op .neg (.cons false (.c (.int 1)) .nil)) .nil))) (.cons false (.x 3) .nil)))) (.cons (.ite (.op .isN (.cons false (.x 4) (.cons false (.c .none) .nil))) (.cons (.ret (.x 2)) .nil) .nil) (.cons (.ap 2 (.x 4)) .nil))
theorem st_turn_n {f : Nat} {L : List PV} {b : Bush} {d : PV} (h : cf f [.v b.enc, .v d] = .ret (.v .none) []) : forT cf [] (.inr 3) (stB f) d [o0, o1, some (.ml (L ++ [b.enc])), o3, o4] = .ok (.rt (.ml (L ++ [b.enc]))) [o0, o1, none, some (.v d), some (.v .none)] := by
  rw [forT]
  simp only [setTg, List.set]
  have e1 : opf2 .isN .none .none = some (.v (.bool true)) := rfl
  rw [st_asgQ (o := .v .none) (env'' := [o0, o1, some (.ml (L ++ [b.enc])), some (.v d), some (.v .none)]) rfl (by simp [i_neg, o_last, h, handsOk, ioNames, putBack]) rfl]
  simp [e1, free]
theorem st_turn_s {f : Nat} {L : List PV} {b c : Bush} {d : PV} (h : cf f [.v b.enc, .v d] = .ret (.v c.enc) []) (hl : L.length ≤ 100000) : forT cf [] (.inr 3) (stB f) d [o0, o1, some (.ml (L ++ [b.enc])), o3, o4] = .ok .nx [o0, o1, some (.ml (L ++ [b.enc] ++ [c.enc])), some (.v d), some (.v c.enc)] := by
  rw [forT]
  simp only [setTg, List.set]
  have e1 : opf2 .isN c.enc .none = some (.v (.bool false)) := by cases c <;> rfl
  have hl2 : L.length + 1 < 16777216 := by omega
  rw [st_asgQ (o := .v c.enc) (env'' := [o0, o1, some (.ml (L ++ [b.enc])), some (.v d), some (.v c.enc)]) rfl (by simp [i_neg, o_last, h, handsOk, ioNames, putBack]) (by cases c <;> rfl)]
  simp [e1, isMl, hl2]
theorem st_loop {f H : Nat} (h : ∀ (b : Bush) (p : Pl), b.height ≤ H → cf f [.v b.enc, .v (encP p)] = .ret (.v (optE (b.mv p))) []) : ∀ (ps : List Pl) (b : Bush) (L : List PV) (o3 o4 : Option Ob), b.height + ps.length ≤ H → L.length + ps.length ≤ 10000 →
    match b.go ps with
    | some _ => ∃ o3' o4', forL (forT cf [] (.inr 3) (stB f)) (ps.map encP) [o0, o1, some (.ml (L ++ [b.enc])), o3, o4] = .ok .nx [o0, o1, some (.ml (L ++ encB (b.stepsL ps))), o3', o4']
    | none => ∃ e', forL (forT cf [] (.inr 3) (stB f)) (ps.map encP) [o0, o1, some (.ml (L ++ [b.enc])), o3, o4] = .ok (.rt (.ml (L ++ encB (b.stepsL ps)))) e'
  | [], b, L, o3, o4, _, _ => ⟨o3, o4, by rw [List.map_nil, forL]; rfl⟩
  | p :: ps, b, L, o3, o4, hH, hl => by
    rw [List.length_cons] at hH hl
    have hm := h b p (by omega)
    rw [Bush.go, Bush.stepsL]
    cases e : b.mv p with
    | none =>
      rw [e] at hm
      simp only [Option.bind_none]
      exact ⟨_, by rw [List.map_cons, forL, st_turn_n hm, Rs.bind_ok]; rfl⟩
    | some c =>
      rw [e] at hm
      have hh := Bush.mv_height e
      have ih := st_loop h ps c (L ++ [b.enc]) (some (.v (encP p))) (some (.v c.enc)) (by omega) (by rw [List.length_append, List.length_singleton]; omega)
      have ap : L ++ [b.enc] ++ encB (c.stepsL ps) = L ++ encB (b :: c.stepsL ps) := by rw [List.append_assoc]; rfl
      simp only [Option.bind_some]
      cases e2 : c.go ps with
      | none =>
        rw [e2] at ih
        obtain ⟨e', ih⟩ := ih
        exact ⟨e', by rw [List.map_cons, forL, st_turn_s hm (by omega), Rs.bind_ok]; simp only; rw [ih, ap]⟩
      | some d =>
        rw [e2] at ih
        obtain ⟨o3', o4', ih⟩ := ih
        exact ⟨o3', o4', by rw [List.map_cons, forL, st_turn_s hm (by omega), Rs.bind_ok]; simp only; rw [ih, ap]⟩
end
section
variable {T : Nat → Option FD}
structure MvFns (T : Nat → Option FD) (spr put spi mvi sti : Nat) : Prop where
  h1 : T spr = some ⟨1, 1, [], q_spreads⟩
  h2 : T put = some ⟨3, 3, [], q_put_in put⟩
  h3 : T spi = some ⟨1, 1, [], q_spread_in⟩
  h4 : T mvi = some ⟨2, 4, [], q_moved_in spr put spi⟩
  h5 : T sti = some ⟨2, 5, [], q_steps_in mvi⟩
variable {spr put spi mvi sti : Nat} (M : MvFns T spr put spi mvi sti)
include M
theorem steps_in_spec (b : Bush) (ps : List Pl) (hp : ps.length ≤ 1000) (k : Nat) (hk : b.height + ps.length + 4 ≤ k) : runF T k sti [.v b.enc, .v (encR ps)] = .ret (.ml (encB (b.stepsL ps))) [] := by
  obtain ⟨k, rfl⟩ : ∃ j, k = j + 1 := ⟨k - 1, by omega⟩
  have hm : ∀ (c : Bush) (p : Pl), c.height ≤ b.height + ps.length → runF T k mvi [.v c.enc, .v (encP p)] = .ret (.v (optE (c.mv p))) [] := fun c p hc => moved_in_spec M.h4 M.h1 M.h2 M.h3 k c p (by omega)
  have ih := st_loop (o0 := some (.v b.enc)) (o1 := some (.v (encR ps))) hm ps b [] none none (by omega) (by simp; omega)
  simp only [List.nil_append] at ih
  rw [y_run M.h5]
  have c1 : (ioOk [] 0 [Ob.v b.enc, Ob.v (encR ps)]) = true := by simp [ioOk]
  cases e : b.go ps with
  | none =>
    rw [e] at ih
    obtain ⟨e', ih⟩ := ih
    simp [q_steps_in, c1, free, freeTg, itemsOf, ih, outsOf]
  | some d =>
    rw [e] at ih
    obtain ⟨o3', o4', ih⟩ := ih
    simp [q_steps_in, c1, free, freeTg, itemsOf, ih, outsOf]
end
end Pv
-- PvMv3
set_option maxRecDepth 100000
namespace Pv
open PySem L2
/-- a row as it may be told -/
structure SoftR (d : PV) (ps : List Pl) : Prop where
  n : nice d = true
  t : tupP d = encR ps
  d : d.depth ≤ 3
theorem encR_nice {ps : List Pl} (h : ∀ p ∈ ps, p.length ≤ 100000) (hl : ps.length ≤ 100000) : nice (encR ps) = true := by
  have : niceA (ps.map encP) = true := by
    clear hl
    induction ps with
    | nil => rfl
    | cons p ps ih =>
      rw [List.map_cons, niceA, encP_nice (by have := h p List.mem_cons_self; omega), ih fun q hq => h q (List.mem_cons_of_mem _ hq)]; rfl
  rw [nice, this, List.length_map]
  simp; omega
theorem encR_depth (ps : List Pl) : (encR ps).depth ≤ 2 := by
  rw [PyData.depth]
  have : PyData.depthAll (ps.map encP) ≤ 1 := by
    induction ps with
    | nil => simp [PyData.depthAll]
    | cons p ps ih => rw [List.map_cons, PyData.depthAll, encP_depth]; omega
  omega
theorem encR_tup : ∀ ps : List Pl, tupPs (ps.map encP) = ps.map encP
  | [] => rfl
  | p :: ps => by rw [List.map_cons, tupPs, encR_tup ps, encP, tupP, bits_tup]
theorem SoftR.enc {ps : List Pl} (h : ∀ p ∈ ps, p.length ≤ 100000) (hl : ps.length ≤ 100000) : SoftR (encR ps) ps := ⟨encR_nice h hl, by rw [tupP, encR_tup], by have := encR_depth ps; omega⟩
def rwP : PV → Bool
  | .tuple xs => xs.all zerosP
  | _ => false
theorem depthAll_in : ∀ {xs : List PV} {d : PV}, d ∈ xs → d.depth ≤ PyData.depthAll xs
  | x :: xs, d, h => by
    rw [PyData.depthAll]
    rcases List.mem_cons.mp h with rfl | h
    · omega
    · have := depthAll_in h; omega
theorem rwP_enc (ps : List Pl) : rwP (encR ps) = true := by
  simp [rwP, List.all_map, zerosP_enc]
section
variable {T : Nat → Option FD}
theorem is_row_in_spec {i z t : Nat} (hT : T i = some ⟨1, 2, [], q_is_row_in z⟩) (hz : T z = some ⟨1, 2, [], q_is_zeros_and_ones t⟩) (ht : T t = some ⟨1, 2, [], q_is_place_told⟩) (k : Nat) (d : PV) (hd : nice d = true) (hdep : d.depth ≤ 100) : runF T (k + 3) i [.v d] = .ret (.v (.bool (rwP d))) [] := by
  rw [y_run hT]
  cases d with
  | tuple xs =>
    have hx : niceA xs = true ∧ xs.length ≤ 16777216 := (by simpa [nice] using hd : xs.length ≤ 16777216 ∧ niceA xs = true).symm
    have c : evE (runF T (k + 2)) [] (.lc [1] (.inr 1) (.seq (.x 0)) .nil (.call z (.cons false (.x 1) .nil))) [some (.v (.tuple xs)), none] = .ok (.ml (xs.map fun d => .bool (zerosP d))) [some (.v (.tuple xs)), none] :=
      lc_map (fun d => .bool (zerosP d)) (by simp) (by simp [itemsOf]) rfl (by rw [lim_nat]; exact hx.2) fun d hd => by
        have hs := zeros_spec hz ht k d (niceA_mem hx.1 hd) (by
          have := depthAll_in hd
          rw [PyData.depth] at hdep; omega)
        exact ⟨_, .v (.bool (zerosP d)), [some (.v (.tuple xs)), some (.v d)], rfl, by simp [hs, handsOk, ioNames, putBack], rfl, rfl⟩
    have a : allf (.list (xs.map fun d => .bool (zerosP d))) = some (.v (.bool (xs.all zerosP))) := by
      rw [allf, all_map, Option.bind_some, vB, List.all_map]; rfl
    simp [q_is_row_in, ioOk, c, opf1, kindf, vB, isTupV, a, outsOf, rwP]
  | dict _ => simp [nice] at hd
  | _ => simp [q_is_row_in, ioOk, opf1, kindf, vB, isTupV, outsOf, rwP]
theorem sure_row_spec {i tu ri z t : Nat} (hT : T i = some ⟨1, 2, [], q_sure_row tu ri⟩) (hu : T tu = some ⟨1, 2, [], q_tupled tu⟩) (hr : T ri = some ⟨1, 2, [], q_is_row_in z⟩) (hz : T z = some ⟨1, 2, [], q_is_zeros_and_ones t⟩) (ht : T t = some ⟨1, 2, [], q_is_place_told⟩) (k : Nat) {d : PV} {ps : List Pl} (s : SoftR d ps) (hn : nice (encR ps) = true) : runF T (k + 5) i [.v d] = .ret (.v (encR ps)) [] := by
  have h1 := tupled_spec hu (k + 4) d s.n (by have := s.d; omega)
  rw [s.t] at h1
  have h2 := is_row_in_spec hr hz ht (k + 1) (encR ps) hn (by have := encR_depth ps; omega)
  rw [rwP_enc] at h2
  rw [y_run hT]
  simp [q_sure_row, ioOk, free, h1, h2, handsOk, ioNames, putBack, outsOf]
structure RowFns (T : Nat → Option FD) (long tup isb sure told zer stold isin sp spr put spi mvi sti srow isr : Nat) : Prop where
  b : BushFns T long tup isb sure
  p : PlaceFns T tup told zer stold isin sp
  m : MvFns T spr put spi mvi sti
  r1 : T srow = some ⟨1, 2, [], q_sure_row tup isr⟩
  r2 : T isr = some ⟨1, 2, [], q_is_row_in zer⟩
variable {long tup isb sure told zer stold isin sp spr put spi mvi sti srow isr : Nat} (R : RowFns T long tup isb sure told zer stold isin sp spr put spi mvi sti srow isr)
include R
theorem moved_spec {i : Nat} (hT : T i = some ⟨2, 4, [], q_moved sure mvi sp⟩) {d e : PV} {b c : Bush} {p : Pl} (s : Soft d b) (s' : SoftP e p) (hl : p.length ≤ 100000) (hm : b.mv p = some c) (k : Nat) (hk : b.height + 8 ≤ k) : runF T k i [.v d, .v e] = .ret (.v c.enc) [] := by
  obtain ⟨k, rfl⟩ : ∃ j, k = j + 6 := ⟨k - 6, by omega⟩
  have h1 := sure_soft R.b s (k + 5) (by omega)
  have hat : (b.at_ p).isSome = true := by
    rw [Bush.mv_at] at hm
    cases e : b.at_ p with
    | none => rw [e] at hm; cases hm
    | some x => rfl
  have h2 := sp_spec R.p k (b := b) s' (by omega) hat
  have h3 := moved_in_spec R.m.h4 R.m.h1 R.m.h2 R.m.h3 (k + 5) b p (by omega)
  rw [hm] at h3
  have e1 : opf2 .isN c.enc .none = some (.v (.bool false)) := by cases c <;> rfl
  have e2 : (Ob.v c.enc).frozen = .v c.enc := by cases c <;> rfl
  rw [y_run hT]
  simp only [optE] at h3
  simp [q_moved, ioOk, free, h1, h2, h3, handsOk, ioNames, putBack, e1, e2, outsOf]
theorem row_bushes_spec {i : Nat} (hT : T i = some ⟨2, 5, [], q_row_bushes sure srow sti⟩) {d e : PV} {b c : Bush} {ps : List Pl} (s : Soft d b) (s' : SoftR e ps) (hn : nice (encR ps) = true) (hl : ps.length ≤ 1000) (hm : b.go ps = some c) (k : Nat) (hk : b.height + ps.length + 8 ≤ k) : runF T k i [.v d, .v e] = .ret (.v (.tuple (encB (b.stepsL ps)))) [] := by
  obtain ⟨k, rfl⟩ : ∃ j, k = j + 6 := ⟨k - 6, by omega⟩
  have h1 := sure_soft R.b s (k + 5) (by omega)
  have h2 := sure_row_spec R.r1 R.p.h1 R.r2 R.p.h3 R.p.h2 k s' hn
  have h3 := steps_in_spec R.m b ps hl (k + 5) (by omega)
  have h4 := Bush.stepsL_go ps b
  rw [hm] at h4
  have l1 : opf1 .len (.list (encB (b.stepsL ps))) = some (.v (.int ((ps.length : Int) + 1))) := o_len (by rw [lenf, List.length_map, h4.1]; rfl)
  have l2 : opf1 .len (encR ps) = some (.v (.int (ps.length : Int))) := o_len (by rw [lenf, List.length_map]; rfl)
  have l3 : opf2 .le (.int ((ps.length : Int) + 1)) (.int (ps.length : Int)) = some (.v (.bool false)) := by rw [i_le]; simp; omega
  have t1 : opf1 .tuple (.list (encB (b.stepsL ps))) = some (.v (.tuple (encB (b.stepsL ps)))) := rfl
  rw [y_run hT]
  generalize (ps.length : Int) = n at l1 l2 l3
  simp [q_row_bushes, ioOk, free, h1, h2, h3, handsOk, ioNames, putBack, l1, l2, l3, outsOf, t1]
theorem row_led_spec {i rb : Nat} (hT : T i = some ⟨2, 2, [], q_row_led rb⟩) (hB : T rb = some ⟨2, 5, [], q_row_bushes sure srow sti⟩) {d e : PV} {b c : Bush} {ps : List Pl} (s : Soft d b) (s' : SoftR e ps) (hn : nice (encR ps) = true) (hl : ps.length ≤ 1000) (hm : b.go ps = some c) (k : Nat) (hk : b.height + ps.length + 9 ≤ k) : runF T k i [.v d, .v e] = .ret (.v c.enc) [] := by
  obtain ⟨k, rfl⟩ : ∃ j, k = j + 1 := ⟨k - 1, by omega⟩
  have h1 := row_bushes_spec R hB s s' hn hl hm k (by omega)
  have h4 := Bush.stepsL_go ps b
  rw [hm] at h4
  have e1 : opf2 .idx (.tuple (encB (b.stepsL ps))) (.int (-1)) = some (.v c.enc) := by
    obtain ⟨r, hr⟩ : ∃ r, b.stepsL ps = r ++ [c] := by
      have := List.getLast?_eq_some_iff.mp h4.2
      exact this
    have e2 := o_last (L := encB r) (d := c.enc)
    rw [hr, encB, List.map_append]
    have : opf2 .idx (.tuple (r.map Bush.enc ++ [c].map Bush.enc)) (.int (-1)) = opf2 .idx (.list (r.map Bush.enc ++ [c].map Bush.enc)) (.int (-1)) := rfl
    rw [this]; exact e2
  rw [y_run hT]
  simp [q_row_led, ioOk, h1, handsOk, ioNames, putBack, i_neg, e1, outsOf]
end
end Pv
-- PvMv4
set_option maxRecDepth 100000
namespace Pv
open PySem L2
theorem o_notin (b : Bush) (p : Pl) : opf2 .notin (encP p) (.list (b.places.map encP)) = some (.v (.bool (!(b.at_ p).isSome))) := by
  have h1 : inf (encP p) (.list (b.places.map encP)) = some (b.at_ p).isSome := by
    have hd : isD (encP p) = false := rfl
    have hx : decide ((encP p).depth ≤ 150) = true := by rw [encP_depth]; rfl
    rw [inf, hd, hx, mem_at]; rfl
  have : opf2 .notin (encP p) (.list (b.places.map encP)) = ((inf (encP p) (.list (b.places.map encP))).map (!·)).map fun k => .v (.bool k) := by unfold opf2 cmpf; rfl
  rw [this, h1]; rfl
theorem leaves_pow : ∀ b : Bush, b.leaves ≤ 2 ^ b.height
  | .lf => by simp [Bush.leaves, Bush.height]
  | .nd a b => by
    have h1 := leaves_pow a
    have h2 := leaves_pow b
    simp only [Bush.leaves, Bush.height]
    have h3 : 2 ^ a.height ≤ 2 ^ max a.height b.height := Nat.pow_le_pow_right (by omega) (by omega)
    have h4 : 2 ^ b.height ≤ 2 ^ max a.height b.height := Nat.pow_le_pow_right (by omega) (by omega)
    rw [Nat.add_comm 1, Nat.pow_succ]
    omega
section
variable {T : Nat → Option FD}
structure LmFns (T : Nat → Option FD) (spo par put mov : Nat) : Prop where
  h1 : T spo = some ⟨1, 3, [], q_law_spots spo⟩
  h2 : T par = some ⟨2, 3, [], q_law_part⟩
  h3 : T put = some ⟨3, 3, [], q_law_put put⟩
  h4 : T mov = some ⟨2, 6, [], q_law_move spo par put⟩
variable {spo par put mov : Nat} (F : LmFns T spo par put mov)
include F
theorem law_move_spec (b : Bush) (p : Pl) (hl : b.leaves ≤ 100000) (k : Nat) (hk : b.height + 3 ≤ k) : runF T k mov [.v b.enc, .v (encP p)] = .ret (.v (optE (b.mv p))) [] := by
  obtain ⟨k, rfl⟩ : ∃ j, k = j + 2 := ⟨k - 2, by omega⟩
  have h1 := law_spots_spec F.h1 b (k + 1) hl (by omega)
  have n1 := o_notin b p
  rw [Bush.mv_at]
  cases hc : b.at_ p with
  | none =>
    rw [hc] at n1
    rw [y_run F.h4]
    simp only [Option.isSome_none, Bool.not_false] at n1
    simp [q_law_move, ioOk, h1, n1, handsOk, ioNames, putBack, outsOf, optE]
  | some c =>
    rw [hc] at n1
    simp only [Option.isSome_some, Bool.not_true] at n1
    have h2 := law_part_spec F.h2 k hc
    rw [Option.bind_some]
    have e2 : (Ob.v c.enc).frozen = .v c.enc := by cases c <;> rfl
    match c, h2, hc, e2 with
    | .lf, h2, hc, e2 =>
      have e0 := o_eqi (enc_nil (b := .lf))
      rw [y_run F.h4]
      simp [q_law_move, ioOk, free, h1, n1, h2, e0, e2, handsOk, ioNames, putBack, outsOf, optE, Bush.spr]
    | .nd a .lf, h2, hc, e2 =>
      have e0 := o_eqi (enc_nil (b := .nd a .lf))
      have e1 := o_eqi (enc_nil (b := .lf))
      have i1 := o_idx (ix_1 a .lf)
      rw [y_run F.h4]
      simp [q_law_move, ioOk, free, h1, n1, h2, e0, e1, e2, i1, handsOk, ioNames, putBack, outsOf, optE, Bush.spr]
    | .nd a (.nd x y), h2, hc, e2 =>
      have e0 := o_eqi (enc_nil (b := .nd a (.nd x y)))
      have e1 := o_eqi (enc_nil (b := .nd x y))
      have i1 := o_idx (ix_1 a (.nd x y))
      have h3 := law_put_spec F.h3 p b (.nd (.nd a x) (.nd a y)) (k + 1) (by rw [hc]; rfl) (by have := Bush.at_len hc; omega)
      have e3 : ∀ b : Bush, (Ob.v b.enc).frozen = .v b.enc := fun b => by cases b <;> rfl
      rw [y_run F.h4]
      simp only [show (Bush.nd (.nd a x) (.nd a y)).enc = .tuple [.tuple [a.enc, x.enc], .tuple [a.enc, y.enc]] from rfl] at h3
      have e4 : (Bush.nd a (.nd x y)).enc = .tuple [a.enc, .tuple [x.enc, y.enc]] := rfl
      simp [q_law_move, ioOk, free, h1, n1, h2, e0, e1, e2, i1, handsOk, ioNames, putBack, outsOf, optE, Bush.spr]
      simp [e4, setTgs, h3, e3, handsOk, ioNames, putBack, outsOf]
omit F in
abbrev goB (f : Nat) : ISs := .cons (.asg true 0 (.ite (.op .notN (.cons false (.x 0) (.cons false (.c .none) .nil))) (.call f (.cons false (.x 0) (.cons false (.x 2) .nil))) (.c .none))) .nil
omit F in
theorem go_turn_n {cf : Nat → List Ob → CR} {f : Nat} {o1 o2 : Option Ob} {d : PV} : forT cf [] (.inr 2) (goB f) d [some (.v .none), o1, o2] = .ok .nx [some (.v .none), o1, some (.v d)] := by
  have e1 : opf2 .notN .none .none = some (.v (.bool false)) := rfl
  rw [forT]
  simp [setTg, free, e1]
omit F in
theorem go_turn_s {cf : Nat → List Ob → CR} {f : Nat} {o1 o2 : Option Ob} {d : PV} {b : Bush} {o : Option Bush} (h : cf f [.v b.enc, .v d] = .ret (.v (optE o)) []) : forT cf [] (.inr 2) (goB f) d [some (.v b.enc), o1, o2] = .ok .nx [some (.v (optE o)), o1, some (.v d)] := by
  have e1 : opf2 .notN b.enc .none = some (.v (.bool true)) := by cases b <;> rfl
  have e2 : (Ob.v (optE o)).frozen = .v (optE o) := by
    cases o with
    | none => rfl
    | some b => cases b <;> rfl
  rw [forT]
  simp [setTg, free, e1, h, handsOk, ioNames, putBack, e2]
omit F in
theorem go_loop_n {cf : Nat → List Ob → CR} {f : Nat} {o1 : Option Ob} : ∀ (ps : List Pl) (o2 : Option Ob), ∃ o2', forL (forT cf [] (.inr 2) (goB f)) (ps.map encP) [some (.v .none), o1, o2] = .ok .nx [some (.v .none), o1, o2']
  | [], o2 => ⟨o2, by rw [List.map_nil, forL]⟩
  | p :: ps, o2 => by
    obtain ⟨o2', ih⟩ := go_loop_n ps (some (.v (encP p)))
    exact ⟨o2', by rw [List.map_cons, forL, go_turn_n, Rs.bind_ok]; exact ih⟩
omit F in
theorem go_loop {cf : Nat → List Ob → CR} {f H : Nat} {o1 : Option Ob} (h : ∀ (b : Bush) (p : Pl), b.height ≤ H → cf f [.v b.enc, .v (encP p)] = .ret (.v (optE (b.mv p))) []) : ∀ (ps : List Pl) (b : Bush) (o2 : Option Ob), b.height + ps.length ≤ H →
    ∃ o2', forL (forT cf [] (.inr 2) (goB f)) (ps.map encP) [some (.v b.enc), o1, o2] = .ok .nx [some (.v (optE (b.go ps))), o1, o2']
  | [], b, o2, _ => ⟨o2, by rw [List.map_nil, forL]; rfl⟩
  | p :: ps, b, o2, hH => by
    rw [List.length_cons] at hH
    have hm := h b p (by omega)
    rw [Bush.go]
    cases e : b.mv p with
    | none =>
      rw [e] at hm
      obtain ⟨o2', ih⟩ := go_loop_n (cf := cf) (f := f) (o1 := o1) ps (some (.v (encP p)))
      exact ⟨o2', by rw [List.map_cons, forL, go_turn_s hm, Rs.bind_ok]; exact ih⟩
    | some c =>
      rw [e] at hm
      have := Bush.mv_height e
      obtain ⟨o2', ih⟩ := go_loop h ps c (some (.v (encP p))) (by omega)
      exact ⟨o2', by rw [List.map_cons, forL, go_turn_s hm, Rs.bind_ok]; exact ih⟩
theorem law_go_spec {i : Nat} (hT : T i = some ⟨2, 3, [], q_law_go mov⟩) (b : Bush) (ps : List Pl) (hh : b.height + ps.length ≤ 16) (k : Nat) (hk : b.height + ps.length + 4 ≤ k) : runF T k i [.v b.enc, .v (encR ps)] = .ret (.v (optE (b.go ps))) [] := by
  obtain ⟨k, rfl⟩ : ∃ j, k = j + 1 := ⟨k - 1, by omega⟩
  have hm : ∀ (c : Bush) (p : Pl), c.height ≤ b.height + ps.length → runF T k mov [.v c.enc, .v (encP p)] = .ret (.v (optE (c.mv p))) [] := fun c p hc => by
    refine law_move_spec F c p ?_ k (by omega)
    have h1 := leaves_pow c
    have h2 : 2 ^ c.height ≤ 2 ^ 16 := Nat.pow_le_pow_right (by omega) (by omega)
    omega
  obtain ⟨o2', ih⟩ := go_loop (o1 := some (.v (encR ps))) hm ps b none (by omega)
  have e2 : (Ob.v (optE (b.go ps))).frozen = .v (optE (b.go ps)) := by
    cases b.go ps with
    | none => rfl
    | some b => cases b <;> rfl
  rw [y_run hT]
  simp [q_law_go, ioOk, free, freeTg, itemsOf, ih, outsOf, readX, e2]
omit F in
def stp (b : Bush) (p : Pl) : Option PV := (b.mv p).map fun c => .tuple [encP p, c.enc]
omit F in
abbrev lsB (f : Nat) : ISs := .cons (.asg true 3 (.call f (.cons false (.x 0) (.cons false (.x 2) .nil)))) (.cons (.ite (.op .notN (.cons false (.x 3) (.cons false (.c .none) .nil))) (.cons (.ap 1 (.tup (.cons false (.x 2) (.cons false (.x 3) .nil)))) .nil) .nil) .nil)
omit F in
theorem ls_turn {cf : Nat → List Ob → CR} {f : Nat} {o2 o3 : Option Ob} {acc : List PV} {b : Bush} {p : Pl} (h : cf f [.v b.enc, .v (encP p)] = .ret (.v (optE (b.mv p))) []) (hl : acc.length < 100000) :
    forT cf [] (.inr 2) (lsB f) (encP p) [some (.v b.enc), some (.ml acc), o2, o3] = .ok .nx [some (.v b.enc), some (.ml (acc ++ ((stp b p).toList))), some (.v (encP p)), some (.v (optE (b.mv p)))] := by
  have e2 : (Ob.v (optE (b.mv p))).frozen = .v (optE (b.mv p)) := by
    cases b.mv p with
    | none => rfl
    | some b => cases b <;> rfl
  rw [forT]
  simp only [setTg, List.set]
  rw [st_asgQ (o := .v (optE (b.mv p))) (env'' := [some (.v b.enc), some (.ml acc), some (.v (encP p)), some (.v (optE (b.mv p)))]) rfl (by simp [h, handsOk, ioNames, putBack]) (by simp [fzIf, e2])]
  have hl2 : acc.length < 16777216 := by omega
  unfold stp
  cases b.mv p with
  | none =>
    have e1 : opf2 .notN .none .none = some (.v (.bool false)) := rfl
    simp [optE, e1]
  | some c =>
    have e1 : opf2 .notN c.enc .none = some (.v (.bool true)) := by cases c <;> rfl
    have e3 : (Ob.v c.enc).frozen = .v c.enc := by cases c <;> rfl
    have e4 : fzR (.v (.tuple [encP p, c.enc])) [some (.v b.enc), some (.ml acc), some (.v (encP p)), some (.v c.enc)] = .ok (.tuple [encP p, c.enc]) [some (.v b.enc), some (.ml acc), some (.v (encP p)), some (.v c.enc)] := rfl
    simp [optE, e1, isMl, e4, hl2]
omit F in
theorem ls_loop {cf : Nat → List Ob → CR} {f : Nat} {b : Bush} (h : ∀ p : Pl, cf f [.v b.enc, .v (encP p)] = .ret (.v (optE (b.mv p))) []) : ∀ (ps : List Pl) (acc : List PV) (o2 o3 : Option Ob), acc.length + ps.length ≤ 100000 →
    ∃ o2' o3', forL (forT cf [] (.inr 2) (lsB f)) (ps.map encP) [some (.v b.enc), some (.ml acc), o2, o3] = .ok .nx [some (.v b.enc), some (.ml (acc ++ ps.filterMap (stp b))), o2', o3']
  | [], acc, o2, o3, _ => ⟨o2, o3, by rw [List.map_nil, forL]; simp⟩
  | p :: ps, acc, o2, o3, hl => by
    rw [List.length_cons] at hl
    have hl3 : ((stp b p).toList).length ≤ 1 := by cases stp b p <;> simp
    obtain ⟨o2', o3', ih⟩ := ls_loop h ps (acc ++ (stp b p).toList) (some (.v (encP p))) (some (.v (optE (b.mv p)))) (by rw [List.length_append]; omega)
    refine ⟨o2', o3', ?_⟩
    rw [List.map_cons, forL, ls_turn (h p) (by omega), Rs.bind_ok]
    simp only
    rw [ih, List.append_assoc, List.filterMap_cons]
    cases stp b p <;> simp
theorem law_steps_spec {i : Nat} (hT : T i = some ⟨1, 4, [], q_law_steps spo mov⟩) (b : Bush) (hl : b.leaves ≤ 10000) (k : Nat) (hk : b.height + 5 ≤ k) : runF T k i [.v b.enc] = .ret (.ml (b.places.filterMap (stp b))) [] := by
  obtain ⟨k, rfl⟩ : ∃ j, k = j + 1 := ⟨k - 1, by omega⟩
  have h1 := law_spots_spec F.h1 b k (by omega) (by omega)
  have hp := places_len b
  obtain ⟨o2', o3', ih⟩ := ls_loop (cf := runF T k) (fun p => law_move_spec F b p (by omega) k (by omega)) b.places [] none none (by simp; omega)
  rw [List.nil_append] at ih
  rw [y_run hT]
  simp [q_law_steps, ioOk, free, freeTg, itemsOf, h1, handsOk, ioNames, putBack, ih, outsOf]
end
end Pv
-- PvQc05
set_option maxRecDepth 100000
namespace Pv
open PySem L2
def q_law_2.t1c0 : IE := .lc [2] (.inr 2) (.range (.cons false (.op .len (.cons false (.x 1) .nil)) .nil)) .nil (.call 41 (.cons true (.call 29 (.cons false (.x 1) (.cons false (.x 2) .nil))) .nil))
@[simp] theorem q_law_2.t1c0_x : q_law_2.t1c0.isX = none := rfl
def q_law_2.t1 : ISs := .cons (.ret (.op .all (.cons false q_law_2.t1c0 .nil))) .nil
def q_law_2.t0 : ISs := .cons (.asg true 1 (.call 31 (.cons false (.x 0) (.cons false (.c (.int 2)) .nil)))) q_law_2.t1
theorem q_law_2_eq : q_law_2 31 41 29 = q_law_2.t0 := rfl
def q_law_move.t0a0 : ISs := .cons (.ret (.c .none)) .nil
def q_law_move.t2a0 : ISs := .cons (.ret (.c .none)) .nil
def q_law_move.t4 : ISs := .cons (.ret (.call 37 (.cons false (.x 0) (.cons false (.x 1) (.cons false (.tup (.cons false (.tup (.cons false (.x 3) (.cons false (.x 4) .nil))) (.cons false (.tup (.cons false (.x 3) (.cons false (.x 5) .nil))) .nil))) .nil))))) .nil
def q_law_move.t3 : ISs := .cons (.unpn 3 [4, 5] (.x 2)) q_law_move.t4
def q_law_move.t2 : ISs := .cons (.ite (.or (.op .eq (.cons false (.x 2) (.cons false (.tup .nil) .nil))) (.op .eq (.cons false (.op .idx (.cons false (.x 2) (.cons false (.c (.int 1)) .nil))) (.cons false (.tup .nil) .nil)))) q_law_move.t2a0 .nil) q_law_move.t3
def q_law_move.t1 : ISs := .cons (.asg true 2 (.call 36 (.cons false (.x 0) (.cons false (.x 1) .nil)))) q_law_move.t2
def q_law_move.t0 : ISs := .cons (.ite (.op .notin (.cons false (.x 1) (.cons false (.call 35 (.cons false (.x 0) .nil)) .nil))) q_law_move.t0a0 .nil) q_law_move.t1
theorem q_law_move_eq : q_law_move 35 36 37 = q_law_move.t0 := rfl
def q_law_steps.t1b1a0 : ISs := .cons (.ap 1 (.tup (.cons false (.x 2) (.cons false (.x 3) .nil)))) .nil
def q_law_steps.t1b1 : ISs := .cons (.ite (.op .notN (.cons false (.x 3) (.cons false (.c .none) .nil))) q_law_steps.t1b1a0 .nil) .nil
def q_law_steps.t1b0 : ISs := .cons (.asg true 3 (.call 38 (.cons false (.x 0) (.cons false (.x 2) .nil)))) q_law_steps.t1b1
def q_law_steps.t2 : ISs := .cons (.ret (.x 1)) .nil
def q_law_steps.t1 : ISs := .cons (.for_ (.inr 2) (.seq (.call 35 (.cons false (.x 0) .nil))) q_law_steps.t1b0) q_law_steps.t2
def q_law_steps.t0 : ISs := .cons (.asg false 1 (.lst .nil)) q_law_steps.t1
theorem q_law_steps_eq : q_law_steps 35 38 = q_law_steps.t0 := rfl
def q_law_go.t0b0 : ISs := .cons (.asg true 0 (.ite (.op .notN (.cons false (.x 0) (.cons false (.c .none) .nil))) (.call 38 (.cons false (.x 0) (.cons false (.x 2) .nil))) (.c .none))) .nil
def q_law_go.t1 : ISs := .cons (.ret (.x 0)) .nil
def q_law_go.t0 : ISs := .cons (.for_ (.inr 2) (.seq (.x 1)) q_law_go.t0b0) q_law_go.t1
theorem q_law_go_eq : q_law_go 38 = q_law_go.t0 := rfl
def q_crossing_in.t0a0 : ISs := .cons (.ret (.tup (.cons false (.tup .nil) (.cons false (.tup .nil) .nil)))) .nil
def q_crossing_in.t1a0 : ISs := .cons (.ret (.call 22 (.cons false (.x 0) (.cons false (.op (.slice true false) (.cons false (.x 1) (.cons false (.op .len (.cons false (.x 0) .nil)) .nil))) .nil)))) .nil
def q_crossing_in.t2a1 : ISs := .cons (.ret (.tup (.cons false (.x 3) (.cons false (.x 2) .nil)))) .nil
def q_crossing_in.t2a0 : ISs := .cons (.unp [2, 3] (.call 22 (.cons false (.x 1) (.cons false (.op (.slice true false) (.cons false (.x 0) (.cons false (.op .len (.cons false (.x 1) .nil)) .nil))) .nil)))) q_crossing_in.t2a1
def q_crossing_in.t3 : ISs := .cons (.ret (.tup (.cons false (.tup (.cons false (.x 1) .nil)) (.cons false (.tup (.cons false (.x 0) .nil)) .nil)))) .nil
def q_crossing_in.t2 : ISs := .cons (.ite (.op .eq (.cons false (.op (.slice false true) (.cons false (.x 0) (.cons false (.op .len (.cons false (.x 1) .nil)) .nil))) (.cons false (.x 1) .nil))) q_crossing_in.t2a0 .nil) q_crossing_in.t3
def q_crossing_in.t1 : ISs := .cons (.ite (.op .eq (.cons false (.op (.slice false true) (.cons false (.x 1) (.cons false (.op .len (.cons false (.x 0) .nil)) .nil))) (.cons false (.x 0) .nil))) q_crossing_in.t1a0 .nil) q_crossing_in.t2
def q_crossing_in.t0 : ISs := .cons (.ite (.op .eq (.cons false (.x 0) (.cons false (.x 1) .nil))) q_crossing_in.t0a0 .nil) q_crossing_in.t1
theorem q_crossing_in_eq : q_crossing_in 22 = q_crossing_in.t0 := rfl
def q_below_in.t0a0 : ISs := .cons (.ret (.tup (.cons false (.tup (.cons false (.op .add (.cons false (.x 0) (.cons false (.tup (.cons false (.c (.int 1)) .nil)) .nil))) (.cons false (.x 0) .nil))) (.cons false (.tup (.cons false (.x 0) (.cons false (.op .add (.cons false (.x 0) (.cons false (.tup (.cons false (.c (.int 1)) .nil)) .nil))) (.cons false (.op .add (.cons false (.x 0) (.cons false (.tup (.cons false (.c (.int 0)) .nil)) .nil))) .nil)))) .nil)))) .nil
def q_below_in.t1a0 : ISs := .cons (.ret (.tup (.cons false (.tup (.cons false (.op .add (.cons false (.op .add (.cons false (.x 0) (.cons false (.tup (.cons false (.c (.int 0)) (.cons false (.c (.int 0)) .nil))) .nil))) (.cons false (.op (.slice true false) (.cons false (.x 1) (.cons false (.c (.int 1)) .nil))) .nil))) (.cons false (.op .add (.cons false (.op .add (.cons false (.x 0) (.cons false (.tup (.cons false (.c (.int 1)) (.cons false (.c (.int 0)) .nil))) .nil))) (.cons false (.op (.slice true false) (.cons false (.x 1) (.cons false (.c (.int 1)) .nil))) .nil))) .nil))) (.cons false (.tup (.cons false (.x 0) .nil)) .nil)))) .nil
def q_below_in.t2 : ISs := .cons (.ret (.tup (.cons false (.tup (.cons false (.op .add (.cons false (.op .add (.cons false (.x 0) (.cons false (.ite (.op .eq (.cons false (.op .idx (.cons false (.x 1) (.cons false (.c (.int 1)) .nil))) (.cons false (.c (.int 0)) .nil))) (.tup (.cons false (.c (.int 0)) (.cons false (.c (.int 1)) .nil))) (.tup (.cons false (.c (.int 1)) (.cons false (.c (.int 1)) .nil)))) .nil))) (.cons false (.op (.slice true false) (.cons false (.x 1) (.cons false (.c (.int 2)) .nil))) .nil))) .nil)) (.cons false (.tup (.cons false (.x 0) .nil)) .nil)))) .nil
def q_below_in.t1 : ISs := .cons (.ite (.op .eq (.cons false (.op .idx (.cons false (.x 1) (.cons false (.c (.int 0)) .nil))) (.cons false (.c (.int 0)) .nil))) q_below_in.t1a0 .nil) q_below_in.t2
def q_below_in.t0 : ISs := .cons (.ite (.op .eq (.cons false (.x 1) (.cons false (.tup (.cons false (.c (.int 1)) .nil)) .nil))) q_below_in.t0a0 .nil) q_below_in.t1
theorem q_below_in_eq : q_below_in = q_below_in.t0 := rfl
def q_rows_in.t0a0 : ISs := .cons (.ret (.tup (.cons false (.x 1) (.cons false (.tup .nil) .nil)))) .nil
def q_rows_in.t1a0 : ISs := .cons (.ret (.tup (.cons false (.tup .nil) (.cons false (.x 0) .nil)))) .nil
def q_rows_in.t2a0 : ISs := .cons .never .nil
def q_rows_in.t7 : ISs := .cons (.ret (.tup (.cons false (.op .add (.cons false (.x 5) (.cons false (.x 7) .nil))) (.cons false (.x 8) .nil)))) .nil
def q_rows_in.t6 : ISs := .cons (.unp [7, 8] (.call 23 (.cons false (.op .add (.cons false (.x 4) (.cons false (.x 6) .nil))) (.cons false (.op (.slice true false) (.cons false (.x 1) (.cons false (.c (.int 1)) .nil))) (.cons true (.x 2) .nil))))) q_rows_in.t7
def q_rows_in.t5 : ISs := .cons (.unp [5, 6] (.call 23 (.cons false (.op (.slice true false) (.cons false (.x 0) (.cons false (.c (.int 1)) .nil))) (.cons false (.x 3) (.cons true (.x 2) .nil))))) q_rows_in.t6
def q_rows_in.t4 : ISs := .cons (.unp [3, 4] (.call 21 (.cons false (.op .idx (.cons false (.x 0) (.cons false (.c (.int 0)) .nil))) (.cons false (.op .idx (.cons false (.x 1) (.cons false (.c (.int 0)) .nil))) .nil)))) q_rows_in.t5
def q_rows_in.t3 : ISs := .cons (.sub 2 (.c (.int 0)) (.op .sub (.cons false (.op .idx (.cons false (.x 2) (.cons false (.c (.int 0)) .nil))) (.cons false (.c (.int 1)) .nil)))) q_rows_in.t4
def q_rows_in.t2 : ISs := .cons (.ite (.op .eq (.cons false (.op .idx (.cons false (.x 2) (.cons false (.c (.int 0)) .nil))) (.cons false (.c (.int 0)) .nil))) q_rows_in.t2a0 .nil) q_rows_in.t3
def q_rows_in.t1 : ISs := .cons (.ite (.op .eq (.cons false (.x 1) (.cons false (.tup .nil) .nil))) q_rows_in.t1a0 .nil) q_rows_in.t2
def q_rows_in.t0 : ISs := .cons (.ite (.op .eq (.cons false (.x 0) (.cons false (.tup .nil) .nil))) q_rows_in.t0a0 .nil) q_rows_in.t1
theorem q_rows_in_eq : q_rows_in 21 23 = q_rows_in.t0 := rfl
def q_rows_crossing.t1 : ISs := .cons (.ret (.call 23 (.cons false (.x 2) (.cons false (.call 20 (.cons false (.x 1) .nil)) (.cons true (.lst (.cons false (.c (.int 400)) .nil)) .nil))))) .nil
def q_rows_crossing.t0 : ISs := .cons (.asg true 2 (.call 20 (.cons false (.x 0) .nil))) q_rows_crossing.t1
theorem q_rows_crossing_eq : q_rows_crossing 20 23 = q_rows_crossing.t0 := rfl
def q_is_crossing.t3a0 : ISs := .cons (.ret (.c (.bool false))) .nil
def q_is_crossing.t6 : ISs := .cons (.ret (.and (.op .gt (.cons false (.op .len (.cons false (.x 9) .nil)) (.cons false (.op .len (.cons false (.x 7) .nil)) .nil))) (.and (.op .gt (.cons false (.op .len (.cons false (.x 10) .nil)) (.cons false (.op .len (.cons false (.x 8) .nil)) .nil))) (.op .eq (.cons false (.op .idx (.cons false (.x 9) (.cons false (.op .neg (.cons false (.c (.int 1)) .nil)) .nil))) (.cons false (.op .idx (.cons false (.x 10) (.cons false (.op .neg (.cons false (.c (.int 1)) .nil)) .nil))) .nil)))))) .nil
def q_is_crossing.t5 : ISs := .cons (.par [9, 10] (.cons true (.call 15 (.cons false (.x 4) (.cons false (.x 7) .nil))) (.cons true (.call 15 (.cons false (.x 4) (.cons false (.x 8) .nil))) .nil))) q_is_crossing.t6
def q_is_crossing.t4 : ISs := .cons (.par [7, 8] (.cons true (.op .add (.cons false (.x 5) (.cons false (.op .idx (.cons false (.x 3) (.cons false (.c (.int 0)) .nil))) .nil))) (.cons true (.op .add (.cons false (.x 6) (.cons false (.op .idx (.cons false (.x 3) (.cons false (.c (.int 1)) .nil))) .nil))) .nil))) q_is_crossing.t5
def q_is_crossing.t3 : ISs := .cons (.ite (.or (.not (.call 0 (.cons false (.x 3) (.cons false (.c (.int 2)) .nil)))) (.or (.not (.call 11 (.cons false (.op .idx (.cons false (.x 3) (.cons false (.c (.int 0)) .nil))) .nil))) (.not (.call 11 (.cons false (.op .idx (.cons false (.x 3) (.cons false (.c (.int 1)) .nil))) .nil))))) q_is_crossing.t3a0 .nil) q_is_crossing.t4
def q_is_crossing.t2 : ISs := .cons (.asg true 6 (.call 20 (.cons false (.x 2) .nil))) q_is_crossing.t3
def q_is_crossing.t1 : ISs := .cons (.asg true 5 (.call 20 (.cons false (.x 1) .nil))) q_is_crossing.t2
def q_is_crossing.t0 : ISs := .cons (.asg true 4 (.call 3 (.cons false (.x 0) .nil))) q_is_crossing.t1
theorem q_is_crossing_eq : q_is_crossing 3 20 0 11 15 = q_is_crossing.t0 := rfl
def q_law_right_5.t1c0 : IE := .lc [3] (.inr 3) (.seq (.call 39 (.cons false (.x 1) .nil))) .nil (.op .idx (.cons false (.x 3) (.cons false (.c (.int 0)) .nil)))
@[simp] theorem q_law_right_5.t1c0_x : q_law_right_5.t1c0.isX = none := rfl
def q_law_right_5.t2b0b3a0 : ISs := .cons (.ret (.c (.bool false))) .nil
def q_law_right_5.t2b0b5a0 : ISs := .cons (.ret (.c (.bool false))) .nil
def q_law_right_5.t2b0b8a0 : ISs := .cons (.ret (.c (.bool false))) .nil
def q_law_right_5.t2b0b9a4a0 : ISs := .cons (.ret (.c (.bool false))) .nil
def q_law_right_5.t2b0b9a4 : ISs := .cons (.ite (.not (.call 33 (.cons false (.x 6) (.cons false (.op .idx (.cons false (.x 15) (.cons false (.meth .lindex (.cons false (.x 14) .nil) (.cons false (.c (.bool true)) .nil)) .nil))) .nil)))) q_law_right_5.t2b0b9a4a0 .nil) .nil
def q_law_right_5.t2b0b9a3 : ISs := .cons (.asg true 15 (.op .add (.cons false (.x 15) (.cons false (.lst (.cons false (.tup (.cons false (.tup (.cons false (.op .add (.cons false (.op .add (.cons false (.x 4) (.cons false (.tup (.cons false (.c (.int 0)) (.cons false (.c (.int 1)) .nil))) .nil))) (.cons false (.op (.slice true false) (.cons false (.x 13) (.cons false (.c (.int 2)) .nil))) .nil))) .nil)) (.cons false (.tup (.cons false (.x 4) .nil)) .nil))) (.cons false (.tup (.cons false (.tup (.cons false (.op .add (.cons false (.op .add (.cons false (.x 4) (.cons false (.tup (.cons false (.c (.int 1)) (.cons false (.c (.int 1)) .nil))) .nil))) (.cons false (.op (.slice true false) (.cons false (.x 13) (.cons false (.c (.int 2)) .nil))) .nil))) .nil)) (.cons false (.tup (.cons false (.x 4) .nil)) .nil))) .nil))) .nil)))) q_law_right_5.t2b0b9a4
def q_law_right_5.t2b0b9a2 : ISs := .cons (.asg true 15 (.lst (.cons false (.tup (.cons false (.tup (.cons false (.op .add (.cons false (.op .add (.cons false (.x 4) (.cons false (.tup (.cons false (.c (.int 0)) (.cons false (.c (.int 0)) .nil))) .nil))) (.cons false (.op (.slice true false) (.cons false (.x 13) (.cons false (.c (.int 1)) .nil))) .nil))) (.cons false (.op .add (.cons false (.op .add (.cons false (.x 4) (.cons false (.tup (.cons false (.c (.int 1)) (.cons false (.c (.int 0)) .nil))) .nil))) (.cons false (.op (.slice true false) (.cons false (.x 13) (.cons false (.c (.int 1)) .nil))) .nil))) .nil))) (.cons false (.tup (.cons false (.x 4) .nil)) .nil))) (.cons false (.tup (.cons false (.tup (.cons false (.op .add (.cons false (.x 4) (.cons false (.tup (.cons false (.c (.int 1)) .nil)) .nil))) (.cons false (.x 4) .nil))) (.cons false (.tup (.cons false (.x 4) (.cons false (.op .add (.cons false (.x 4) (.cons false (.tup (.cons false (.c (.int 1)) .nil)) .nil))) (.cons false (.op .add (.cons false (.x 4) (.cons false (.tup (.cons false (.c (.int 0)) .nil)) .nil))) .nil)))) .nil))) .nil)))) q_law_right_5.t2b0b9a3
def q_law_right_5.t2b0b9a1 : ISs := .cons (.asg true 14 (.lst (.cons false (.op .eq (.cons false (.op .idx (.cons false (.x 13) (.cons false (.c (.int 0)) .nil))) (.cons false (.c (.int 0)) .nil))) (.cons false (.op .eq (.cons false (.x 13) (.cons false (.tup (.cons false (.c (.int 1)) .nil)) .nil))) (.cons false (.and (.op .eq (.cons false (.op (.slice false true) (.cons false (.x 13) (.cons false (.c (.int 2)) .nil))) (.cons false (.tup (.cons false (.c (.int 1)) (.cons false (.c (.int 0)) .nil))) .nil))) (.op .gt (.cons false (.op .len (.cons false (.x 13) .nil)) (.cons false (.c (.int 1)) .nil)))) (.cons false (.op .eq (.cons false (.op (.slice false true) (.cons false (.x 13) (.cons false (.c (.int 2)) .nil))) (.cons false (.tup (.cons false (.c (.int 1)) (.cons false (.c (.int 1)) .nil))) .nil))) .nil)))))) q_law_right_5.t2b0b9a2
def q_law_right_5.t2b0b9a0 : ISs := .cons (.asg true 13 (.op (.slice true false) (.cons false (.x 5) (.cons false (.op .len (.cons false (.x 4) .nil)) .nil)))) q_law_right_5.t2b0b9a1
def q_law_right_5.t2b0b9 : ISs := .cons (.ite (.and (.not (.x 11)) (.and (.op .ne (.cons false (.x 4) (.cons false (.x 5) .nil))) (.op .lt (.cons false (.op .len (.cons false (.x 4) .nil)) (.cons false (.op .len (.cons false (.x 5) .nil)) .nil))))) q_law_right_5.t2b0b9a0 .nil) .nil
def q_law_right_5.t2b0b8 : ISs := .cons (.ite (.not (.call 33 (.cons false (.x 12) (.cons false (.lst (.cons false (.x 11) (.cons false (.op .eq (.cons false (.op (.slice false true) (.cons false (.x 4) (.cons false (.op .len (.cons false (.x 5) .nil)) .nil))) (.cons false (.x 5) .nil))) (.cons false (.op .eq (.cons false (.op (.slice false true) (.cons false (.x 5) (.cons false (.op .len (.cons false (.x 4) .nil)) .nil))) (.cons false (.x 4) .nil))) (.cons false (.tup (.cons false (.x 8) (.cons false (.x 7) .nil))) (.cons false (.c (.bool true)) (.cons false (.x 9) (.cons false (.x 6) .nil)))))))) .nil)))) q_law_right_5.t2b0b8a0 .nil) q_law_right_5.t2b0b9
def q_law_right_5.t2b0b7 : ISs := .cons (.asg true 12 (.op .add (.cons false (.x 12) (.cons false (.lst (.cons false (.call 17 (.cons false (.call 16 (.cons false (.x 1) (.cons false (.x 4) .nil))) (.cons false (.x 7) .nil))) (.cons false (.callk 24 [1, 0] (.cons false (.op .list (.cons false (.x 5) .nil)) (.cons false (.op .list (.cons false (.x 4) .nil)) .nil))) .nil))) .nil)))) q_law_right_5.t2b0b8
def q_law_right_5.t2b0b6 : ISs := .cons (.asg true 12 (.lst (.cons false (.call 26 (.cons false (.x 4) (.cons false (.x 5) .nil))) (.cons false (.call 27 (.cons false (.x 4) (.cons false (.x 5) .nil))) (.cons false (.callk 27 [1, 0] (.cons false (.x 4) (.cons false (.x 5) .nil))) (.cons false (.call 24 (.cons false (.x 5) (.cons false (.x 4) .nil))) (.cons false (.call 28 (.cons false (.x 1) (.cons false (.tup (.cons false (.x 4) .nil)) (.cons false (.tup (.cons false (.x 5) .nil)) (.cons false (.x 6) .nil))))) .nil))))))) q_law_right_5.t2b0b7
def q_law_right_5.t2b0b5 : ISs := .cons (.ite (.or (.and (.x 11) (.op .ne (.cons false (.tup (.cons false (.x 7) (.cons false (.x 8) .nil))) (.cons false (.tup (.cons false (.tup (.cons false (.x 5) .nil)) (.cons false (.tup (.cons false (.x 4) .nil)) .nil))) .nil)))) (.and (.op .eq (.cons false (.x 4) (.cons false (.x 5) .nil))) (.op .ne (.cons false (.x 6) (.cons false (.tup (.cons false (.tup .nil) (.cons false (.tup .nil) .nil))) .nil))))) q_law_right_5.t2b0b5a0 .nil) q_law_right_5.t2b0b6
def q_law_right_5.t2b0b4 : ISs := .cons (.asg true 11 (.and (.op .ne (.cons false (.op (.slice false true) (.cons false (.x 4) (.cons false (.op .len (.cons false (.x 5) .nil)) .nil))) (.cons false (.x 5) .nil))) (.op .ne (.cons false (.op (.slice false true) (.cons false (.x 5) (.cons false (.op .len (.cons false (.x 4) .nil)) .nil))) (.cons false (.x 4) .nil))))) q_law_right_5.t2b0b5
def q_law_right_5.t2b0b3 : ISs := .cons (.ite (.or (.op .isN (.cons false (.x 9) (.cons false (.c .none) .nil))) (.op .ne (.cons false (.x 9) (.cons false (.x 10) .nil)))) q_law_right_5.t2b0b3a0 .nil) q_law_right_5.t2b0b4
def q_law_right_5.t2b0b2 : ISs := .cons (.par [9, 10] (.cons true (.call 40 (.cons false (.x 1) (.cons false (.op .add (.cons false (.tup (.cons false (.x 4) .nil)) (.cons false (.x 7) .nil))) .nil))) (.cons true (.call 40 (.cons false (.x 1) (.cons false (.op .add (.cons false (.tup (.cons false (.x 5) .nil)) (.cons false (.x 8) .nil))) .nil))) .nil))) q_law_right_5.t2b0b3
def q_law_right_5.t2b0b1 : ISs := .cons (.unp [7, 8] (.x 6)) q_law_right_5.t2b0b2
def q_law_right_5.t2b0b0 : ISs := .cons (.asg true 6 (.call 24 (.cons false (.x 4) (.cons false (.x 5) .nil)))) q_law_right_5.t2b0b1
def q_law_right_5.t2b0 : ISs := .cons (.for_ (.inr 5) (.seq (.x 2)) q_law_right_5.t2b0b0) .nil
def q_law_right_5.t3c0 : IE := .lc [18] (.inr 18) (.range (.cons false (.call 30 (.cons true (.x 0) (.cons false (.c (.int 5)) .nil))) .nil)) .nil (.call 30 (.cons true (.x 0) (.cons false (.c (.int 2)) .nil)))
@[simp] theorem q_law_right_5.t3c0_x : q_law_right_5.t3c0.isX = none := rfl
def q_law_right_5.t3c1 : IE := .lc [18] (.inr 18) (.range (.cons false (.call 30 (.cons true (.x 0) (.cons false (.c (.int 5)) .nil))) .nil)) .nil (.call 30 (.cons true (.x 0) (.cons false (.c (.int 2)) .nil)))
@[simp] theorem q_law_right_5.t3c1_x : q_law_right_5.t3c1.isX = none := rfl
def q_law_right_5.t4a0 : ISs := .cons (.asg true 17 (.op .add (.cons false (.x 16) (.cons false (.x 17) .nil)))) .nil
def q_law_right_5.t5c0 : IE := .lc [18] (.inr 18) (.range (.cons false (.call 30 (.cons true (.x 0) (.cons false (.c (.int 4)) .nil))) .nil)) .nil (.call 30 (.cons true (.x 0) (.cons false (.c (.int 2)) .nil)))
@[simp] theorem q_law_right_5.t5c0_x : q_law_right_5.t5c0.isX = none := rfl
def q_law_right_5.t7c0 : IE := .lc [3] (.inr 3) (.seq (.x 4)) .nil (.op .add (.cons false (.x 19) (.cons false (.x 3) .nil)))
@[simp] theorem q_law_right_5.t7c0_x : q_law_right_5.t7c0.isX = none := rfl
def q_law_right_5.t7c1 : IE := .lc [3] (.inr 3) (.seq (.x 5)) .nil (.op .add (.cons false (.x 19) (.cons false (.x 3) .nil)))
@[simp] theorem q_law_right_5.t7c1_x : q_law_right_5.t7c1.isX = none := rfl
def q_law_right_5.t9a0 : ISs := .cons (.ret (.c (.bool false))) .nil
def q_law_right_5.t10a0 : ISs := .cons (.ret (.c (.bool true))) .nil
def q_law_right_5.t15b0c0 : IE := .lc [24] (.inr 24) (.seq (.x 23)) (.cons false (.not (.op .isTuple (.cons false (.x 24) .nil))) .nil) (.c (.int 1))
@[simp] theorem q_law_right_5.t15b0c0_x : q_law_right_5.t15b0c0.isX = none := rfl
def q_law_right_5.t15b0c1 : IE := .lc [23] (.inr 23) (.seq (.x 3)) (.cons false (.or (.not (.op .isTuple (.cons false (.x 23) .nil))) (.op .ne (.cons false q_law_right_5.t15b0c0 (.cons false (.lst .nil) .nil)))) .nil) (.c (.int 1))
@[simp] theorem q_law_right_5.t15b0c1_x : q_law_right_5.t15b0c1.isX = none := rfl
def q_law_right_5.t15b2 : ISs := .cons (.ap 20 (.and (.x 22) (.and (.op .notN (.cons false (.x 9) (.cons false (.c .none) .nil))) (.op .eq (.cons false (.x 9) (.cons false (.call 40 (.cons false (.x 1) (.cons false (.op .add (.cons false (.tup (.cons false (.x 5) .nil)) (.cons false (.op .idx (.cons false (.x 3) (.cons false (.c (.int 1)) .nil))) .nil))) .nil))) .nil)))))) .nil
def q_law_right_5.t15b1 : ISs := .cons (.asg true 9 (.ite (.x 22) (.call 40 (.cons false (.x 1) (.cons false (.op .add (.cons false (.tup (.cons false (.x 4) .nil)) (.cons false (.op .idx (.cons false (.x 3) (.cons false (.c (.int 0)) .nil))) .nil))) .nil))) (.c .none))) q_law_right_5.t15b2
def q_law_right_5.t15b0 : ISs := .cons (.asg true 22 (.and (.op .isTuple (.cons false (.x 3) .nil)) (.and (.op .eq (.cons false (.op .len (.cons false (.x 3) .nil)) (.cons false (.c (.int 2)) .nil))) (.op .eq (.cons false q_law_right_5.t15b0c1 (.cons false (.lst .nil) .nil)))))) q_law_right_5.t15b1
def q_law_right_5.t16c0 : IE := .lc [3] (.inr 3) (.seq (.x 21)) .nil (.call 28 (.cons false (.x 1) (.cons false (.tup (.cons false (.x 4) .nil)) (.cons false (.tup (.cons false (.x 5) .nil)) (.cons false (.x 3) .nil)))))
@[simp] theorem q_law_right_5.t16c0_x : q_law_right_5.t16c0.isX = none := rfl
def q_law_right_5.t16 : ISs := .cons (.ret (.call 33 (.cons false q_law_right_5.t16c0 (.cons false (.x 20) .nil)))) .nil
def q_law_right_5.t15 : ISs := .cons (.for_ (.inr 3) (.seq (.x 21)) q_law_right_5.t15b0) q_law_right_5.t16
def q_law_right_5.t14 : ISs := .cons (.asg false 20 (.lst .nil)) q_law_right_5.t15
def q_law_right_5.t13 : ISs := .cons (.asg true 21 (.lst (.cons false (.x 6) (.cons false (.op .list (.cons false (.x 6) .nil)) (.cons false (.tup (.cons false (.op .list (.cons false (.op .idx (.cons false (.x 6) (.cons false (.c (.int 0)) .nil))) .nil)) (.cons false (.op .idx (.cons false (.x 6) (.cons false (.c (.int 1)) .nil))) .nil))) (.cons false (.c .none) (.cons false (.tup .nil) (.cons false (.op (.slice false true) (.cons false (.x 6) (.cons false (.c (.int 1)) .nil))) (.cons false (.op .add (.cons false (.x 6) (.cons false (.tup (.cons false (.tup .nil) .nil)) .nil))) (.cons false (.tup (.cons false (.op .add (.cons false (.op .idx (.cons false (.x 6) (.cons false (.c (.int 0)) .nil))) (.cons false (.tup (.cons false (.tup .nil) .nil)) .nil))) (.cons false (.op .idx (.cons false (.x 6) (.cons false (.c (.int 1)) .nil))) .nil))) (.cons false (.c (.int 0)) (.cons false (.tup (.cons false (.tup .nil) (.cons false (.tup .nil) .nil))) (.cons false (.tup (.cons false (.tup (.cons false (.c .none) .nil)) (.cons false (.tup .nil) .nil))) (.cons false (.tup (.cons false (.op .idx (.cons false (.x 6) (.cons false (.c (.int 1)) .nil))) (.cons false (.op .idx (.cons false (.x 6) (.cons false (.c (.int 0)) .nil))) .nil))) .nil)))))))))))))) q_law_right_5.t14
def q_law_right_5.t12 : ISs := .cons (.asg true 6 (.call 24 (.cons false (.x 4) (.cons false (.x 5) .nil)))) q_law_right_5.t13
def q_law_right_5.t11 : ISs := .cons (.par [4, 5] (.cons true (.call 32 (.cons true (.x 0) (.cons false (.x 2) .nil))) (.cons true (.call 32 (.cons true (.x 0) (.cons false (.x 2) .nil))) .nil))) q_law_right_5.t12
def q_law_right_5.t10 : ISs := .cons (.ite (.op .eq (.cons false (.x 2) (.cons false (.lst .nil) .nil))) q_law_right_5.t10a0 .nil) q_law_right_5.t11
def q_law_right_5.t9 : ISs := .cons (.ite (.not (.call 33 (.cons false (.x 12) (.cons false (.lst (.cons false (.x 20) (.cons false (.tup (.cons false (.x 4) (.cons false (.x 5) .nil))) (.cons false (.and (.op .ne (.cons false (.op (.slice false true) (.cons false (.x 16) (.cons false (.op .len (.cons false (.x 17) .nil)) .nil))) (.cons false (.x 17) .nil))) (.op .ne (.cons false (.op (.slice false true) (.cons false (.x 17) (.cons false (.op .len (.cons false (.x 16) .nil)) .nil))) (.cons false (.x 16) .nil)))) (.cons false (.c (.bool true)) .nil))))) .nil)))) q_law_right_5.t9a0 .nil) q_law_right_5.t10
def q_law_right_5.t8 : ISs := .cons (.asg true 12 (.lst (.cons false (.call 24 (.cons false (.op .add (.cons false (.x 19) (.cons false (.x 16) .nil))) (.cons false (.op .add (.cons false (.x 19) (.cons false (.x 17) .nil))) .nil))) (.cons false (.call 25 (.cons false (.tup (.cons false (.x 16) .nil)) (.cons false (.tup (.cons false (.x 17) .nil)) .nil))) (.cons false (.callk 26 [1, 0] (.cons false (.x 17) (.cons false (.x 16) .nil))) (.cons false (.call 27 (.cons false (.op .add (.cons false (.x 19) (.cons false (.x 16) .nil))) (.cons false (.x 19) .nil))) .nil)))))) q_law_right_5.t9
def q_law_right_5.t7 : ISs := .cons (.asg false 20 (.tup (.cons false (.op .tuple (.cons false q_law_right_5.t7c0 .nil)) (.cons false (.op .tuple (.cons false q_law_right_5.t7c1 .nil)) .nil)))) q_law_right_5.t8
def q_law_right_5.t6 : ISs := .cons (.unp [4, 5] (.call 24 (.cons false (.x 16) (.cons false (.x 17) .nil)))) q_law_right_5.t7
def q_law_right_5.t5 : ISs := .cons (.asg true 19 (.op .tuple (.cons false q_law_right_5.t5c0 .nil))) q_law_right_5.t6
def q_law_right_5.t4 : ISs := .cons (.ite (.op .eq (.cons false (.call 30 (.cons true (.x 0) (.cons false (.c (.int 2)) .nil))) (.cons false (.c (.int 0)) .nil))) q_law_right_5.t4a0 .nil) q_law_right_5.t5
def q_law_right_5.t3 : ISs := .cons (.par [16, 17] (.cons true (.op .tuple (.cons false q_law_right_5.t3c0 .nil)) (.cons true (.op .tuple (.cons false q_law_right_5.t3c1 .nil)) .nil))) q_law_right_5.t4
def q_law_right_5.t2 : ISs := .cons (.for_ (.inr 4) (.seq (.x 2)) q_law_right_5.t2b0) q_law_right_5.t3
def q_law_right_5.t1 : ISs := .cons (.asg true 2 q_law_right_5.t1c0) q_law_right_5.t2
def q_law_right_5.t0 : ISs := .cons (.asg true 1 (.call 34 (.cons true (.x 0) (.cons false (.op .add (.cons false (.c (.int 3)) (.cons false (.call 30 (.cons true (.x 0) (.cons false (.c (.int 5)) .nil))) .nil))) .nil)))) q_law_right_5.t1
theorem q_law_right_5_eq : q_law_right_5 34 30 39 24 40 26 27 28 17 16 33 25 32 = q_law_right_5.t0 := rfl
end Pv
-- PvTsl
set_option maxRecDepth 100000
namespace Pv
open PySem L2
theorem tup_add {xs ys : List PV} (h : xs.length + ys.length ≤ 16777216) : addf (.tuple xs) (.tuple ys) = some (.v (.tuple (xs ++ ys))) := by rw [addf, lim_nat, if_pos h]
theorem tsl_to {xs : List PV} {j : Nat} : slicef (.tuple xs) none (some (j : Int)) = some (.v (.tuple (xs.take j))) := by
  unfold slicef cutP
  simp only [HT.sIx_none, HT.sIx_nat, List.drop_zero, Nat.sub_zero]
  congr 3
  rw [List.take_eq_take_iff]
  omega
theorem tsl_from {xs : List PV} {j : Nat} : slicef (.tuple xs) (some (j : Int)) none = some (.v (.tuple (xs.drop j))) := by
  unfold slicef cutP
  simp only [HT.sIx_none, HT.sIx_nat]
  congr 3
  by_cases h : j ≤ xs.length
  · rw [Nat.min_eq_left h, List.take_of_length_le (by rw [List.length_drop]; omega)]
  · rw [Nat.min_eq_right (by omega), Nat.sub_self, List.take_zero, List.drop_eq_nil_of_le (by omega)]
theorem tsl_mid {xs : List PV} {j n : Nat} {i2 : Int} (hj : j ≤ xs.length) (h2 : i2 = ((j + n : Nat) : Int)) : slicef (.tuple xs) (some (j : Int)) (some i2) = some (.v (.tuple ((xs.drop j).take n))) := by
  subst h2
  unfold slicef cutP
  simp only [HT.sIx_nat]
  rw [Nat.min_eq_left hj]
  congr 3
  rw [List.take_eq_take_iff, List.length_drop]
  omega
end Pv
-- PvMv5
set_option maxRecDepth 100000
namespace Pv
open PySem L2
abbrev enc2 (c : List Pl × List Pl) : PV := .tuple [encR c.1, encR c.2]
theorem p_add {p q : Pl} (h : p.length + q.length ≤ 16777216) : opf2 .add (encP p) (encP q) = some (.v (encP (p ++ q))) := by
  refine o_add ?_
  rw [encP, encP, tup_add (by rw [List.length_map, List.length_map]; exact h), ← List.map_append]; rfl
theorem p_from {q : Pl} {i : Int} {k : Nat} (hi : i = k) : opf2 (.slice true false) (encP q) (.int i) = some (.v (encP (q.drop k))) := by
  subst hi
  have := tsl_from (xs := q.map bitP) (j := k)
  rw [← List.map_drop] at this
  exact this
theorem p_to {q : Pl} {i : Int} {k : Nat} (hi : i = k) : opf2 (.slice false true) (encP q) (.int i) = some (.v (encP (q.take k))) := by
  subst hi
  have := tsl_to (xs := q.map bitP) (j := k)
  rw [← List.map_take] at this
  exact this
theorem p_len {p : Pl} : opf1 .len (encP p) = some (.v (.int p.length)) := o_len (by rw [encP, lenf, List.length_map]; rfl)
theorem p_eqf (p q : Pl) : eqf (encP p) (encP q) = some (decide (p = q)) := by
  have h : eqOk (encP p) (encP q) = true := by
    have h1 : isD (encP p) = false := rfl
    have h2 : isD (encP q) = false := rfl
    rw [eqOk, h1, h2, encP_depth]; rfl
  rw [eqf, if_pos h, encP, encP, PyData.eqv, eqv_bits]
theorem p_nef (p q : Pl) : nef (encP p) (encP q) = some (!decide (p = q)) := by
  have h : eqOk (encP p) (encP q) = true := by
    have h1 : isD (encP p) = false := rfl
    have h2 : isD (encP q) = false := rfl
    rw [eqOk, h1, h2, encP_depth]; rfl
  rw [nef, if_pos h, encP, encP, PyData.eqv, eqv_bits]
theorem p_eq {p q : Pl} : opf2 .eq (encP p) (encP q) = some (.v (.bool (decide (p = q)))) := o_eqi (p_eqf p q)
theorem p_ne {p q : Pl} : opf2 .ne (encP p) (encP q) = some (.v (.bool (!decide (p = q)))) := o_nei (p_nef p q)
theorem p_0 {x : Bool} {p : Pl} : opf2 .idx (encP (x :: p)) (.int 0) = some (.v (bitP x)) := o_idx (by simp [encP, idxf, atI, ixN])
theorem p_1 {x y : Bool} {p : Pl} : opf2 .idx (encP (x :: y :: p)) (.int 1) = some (.v (bitP y)) := by
  have h : (1 : Int) < (p.length : Int) + 1 + 1 := by omega
  exact o_idx (by simp [encP, idxf, atI, ixN, h])
theorem p_e0 {x : Bool} : opf2 .eq (bitP x) (.int 0) = some (.v (.bool (!x))) := by cases x <;> exact i_eq
section
variable {T : Nat → Option FD}
theorem below_spec {i : Nat} (hT : T i = some ⟨2, 2, [], q_below_in⟩) (k : Nat) (p r : Pl) (hr : r ≠ []) (hl : p.length + r.length ≤ 1000) : runF T (k + 1) i [.v (encP p), .v (encP r)] = .ret (.v (enc2 (belo p r))) [] := by
  have q1 : ∀ q : Pl, q.length ≤ 2 → opf2 .add (encP p) (encP q) = some (.v (encP (p ++ q))) := fun q hq => p_add (by omega)
  have a1 : opf2 .add (encP p) (.tuple [.int 1]) = some (.v (encP (p ++ [true]))) := q1 [true] (by simp)
  have a0 : opf2 .add (encP p) (.tuple [.int 0]) = some (.v (encP (p ++ [false]))) := q1 [false] (by simp)
  have a00 : opf2 .add (encP p) (.tuple [.int 0, .int 0]) = some (.v (encP (p ++ [false, false]))) := q1 [false, false] (by simp)
  have a10 : opf2 .add (encP p) (.tuple [.int 1, .int 0]) = some (.v (encP (p ++ [true, false]))) := q1 [true, false] (by simp)
  have a01 : opf2 .add (encP p) (.tuple [.int 0, .int 1]) = some (.v (encP (p ++ [false, true]))) := q1 [false, true] (by simp)
  have a11 : opf2 .add (encP p) (.tuple [.int 1, .int 1]) = some (.v (encP (p ++ [true, true]))) := q1 [true, true] (by simp)
  have e1 : opf2 .eq (encP r) (.tuple [.int 1]) = some (.v (.bool (decide (r = [true])))) := p_eq (q := [true])
  rw [y_run hT, q_below_in_eq]
  match r, hr with
  | [true], _ =>
    have e1 : opf2 .eq (encP [true]) (.tuple [.int 1]) = some (.v (.bool true)) := e1
    simp [q_below_in.t0, q_below_in.t0a0, ioOk, e1, a1, a0, outsOf]
    simp [belo]
  | false :: r, _ =>
    have e1 : opf2 .eq (encP (false :: r)) (.tuple [.int 1]) = some (.v (.bool false)) := by rw [e1]; simp
    have f1 := p_from (q := false :: r) (i := 1) (k := 1) rfl
    have e2 : opf2 .eq (bitP false) (.int 0) = some (.v (.bool true)) := p_e0
    rw [List.length_cons] at hl
    have b0 : ∀ u : Pl, u.length ≤ 2 → opf2 .add (encP (p ++ u)) (encP r) = some (.v (encP (p ++ u ++ r))) := fun u hu => p_add (by rw [List.length_append]; omega)
    have b1 := b0 [false, false] (by simp)
    have b2 := b0 [true, false] (by simp)
    simp only [List.drop_succ_cons, List.drop_zero] at f1
    simp [q_below_in.t0, q_below_in.t1, q_below_in.t1a0, ioOk, e1, p_0, e2, a00, a10, f1, b1, b2, outsOf]
    simp [belo]
  | true :: x :: r, _ =>
    have e1 : opf2 .eq (encP (true :: x :: r)) (.tuple [.int 1]) = some (.v (.bool false)) := by rw [e1]; simp
    have f1 := p_from (q := true :: x :: r) (i := 2) (k := 2) rfl
    have e2 : opf2 .eq (bitP true) (.int 0) = some (.v (.bool false)) := p_e0
    have e3 : opf2 .eq (bitP x) (.int 0) = some (.v (.bool (!x))) := p_e0
    rw [List.length_cons, List.length_cons] at hl
    have b0 : ∀ u : Pl, u.length ≤ 2 → opf2 .add (encP (p ++ u)) (encP r) = some (.v (encP (p ++ u ++ r))) := fun u hu => p_add (by rw [List.length_append]; omega)
    have b1 := b0 [false, true] (by simp)
    have b2 := b0 [true, true] (by simp)
    simp only [List.drop_succ_cons, List.drop_zero] at f1
    cases x
    · simp only [Bool.not_false] at e3
      simp [q_below_in.t0, q_below_in.t1, q_below_in.t2, ioOk, e1, p_0, p_1, e2, e3, a01, a11, f1, b1, b2, outsOf]
      simp [belo]
    · simp only [Bool.not_true] at e3
      simp [q_below_in.t0, q_below_in.t1, q_below_in.t2, ioOk, e1, p_0, p_1, e2, e3, a01, a11, f1, b1, b2, outsOf]
      simp [belo]
theorem crs_in_spec {i : Nat} (hT : T i = some ⟨2, 4, [], q_crossing_in 22⟩) (hb : T 22 = some ⟨2, 2, [], q_below_in⟩) (k : Nat) (p q : Pl) (h1 : p.length ≤ 100) (h2 : q.length ≤ 100) : runF T (k + 2) i [.v (encP p), .v (encP q)] = .ret (.v (enc2 (crs p q))) [] := by
  have l1 := p_len (p := p)
  have l2 := p_len (p := q)
  have t1 := p_to (q := q) (i := (p.length : Int)) rfl
  have t2 := p_to (q := p) (i := (q.length : Int)) rfl
  have f1 := p_from (q := q) (i := (p.length : Int)) rfl
  have f2 := p_from (q := p) (i := (q.length : Int)) rfl
  have e0 := p_eq (p := p) (q := q)
  have e1 := p_eq (p := q.take p.length) (q := p)
  have e2 := p_eq (p := p.take q.length) (q := q)
  rw [y_run hT, q_crossing_in_eq]
  unfold crs
  by_cases c0 : p = q
  · rw [if_pos c0]
    rw [decide_eq_true c0] at e0
    simp [q_crossing_in.t0, q_crossing_in.t0a0, ioOk, e0, outsOf]
  · rw [if_neg c0]
    rw [decide_eq_false c0] at e0
    by_cases c1 : q.take p.length = p
    · rw [if_pos c1]
      rw [decide_eq_true c1] at e1
      have hb1 := below_spec hb k p (q.drop p.length) (fun e => c0 (by
        have := List.take_append_drop p.length q
        rw [e, c1, List.append_nil] at this
        exact this)) (by rw [List.length_drop]; omega)
      generalize (p.length : Int) = n1 at l1 t1 f1
      generalize q.drop p.length = r at hb1 f1 ⊢
      generalize q.take p.length = u at t1 e1
      simp [q_crossing_in.t0, q_crossing_in.t1, q_crossing_in.t1a0, ioOk, e0, l1, t1, e1, f1, hb1, handsOk, ioNames, putBack, outsOf]
    · rw [if_neg c1]
      rw [decide_eq_false c1] at e1
      by_cases c2 : p.take q.length = q
      · rw [if_pos c2]
        rw [decide_eq_true c2] at e2
        have hb1 := below_spec hb k q (p.drop q.length) (fun e => c0 (by
          have := List.take_append_drop q.length p
          rw [e, c2, List.append_nil] at this
          exact this.symm)) (by rw [List.length_drop]; omega)
        generalize (p.length : Int) = n1 at l1 t1 f1
        generalize (q.length : Int) = n2 at l2 t2 f2
        generalize p.drop q.length = r at hb1 f2 ⊢
        generalize q.take p.length = u at t1 e1
        generalize p.take q.length = w at t2 e2
        simp [q_crossing_in.t0, q_crossing_in.t1, q_crossing_in.t2, q_crossing_in.t2a0, q_crossing_in.t2a1, ioOk, free, e0, l1, l2, t1, t2, e1, e2, f2, hb1, handsOk, ioNames, putBack, setTgs, outsOf]
        simp [swp2]
      · rw [if_neg c2]
        rw [decide_eq_false c2] at e2
        generalize (p.length : Int) = n1 at l1 t1 f1
        generalize (q.length : Int) = n2 at l2 t2 f2
        generalize q.take p.length = u at t1 e1
        generalize p.take q.length = w at t2 e2
        simp [q_crossing_in.t0, q_crossing_in.t1, q_crossing_in.t2, q_crossing_in.t3, ioOk, e0, l1, l2, t1, t2, e1, e2, outsOf]
end
end Pv
-- PvMv6
set_option maxRecDepth 100000
namespace Pv
open PySem L2
theorem r_eqf0 (ps : List Pl) : eqf (encR ps) (.tuple []) = some ps.isEmpty := by
  rw [eqf_tnil]; cases ps <;> rfl
theorem belo_len (p r : Pl) : (belo p r).1.length ≤ 2 ∧ (belo p r).2.length ≤ 3 := by
  unfold belo
  split <;> simp
theorem crs_len1 (p q : Pl) : (crs p q).1.length ≤ 100 := by
  unfold crs
  have h1 := belo_len p (q.drop p.length)
  have h2 := belo_len q (p.drop q.length)
  split
  · simp
  · split
    · omega
    · split
      · simp only [swp2]; omega
      · simp
theorem crs_len2 (p q : Pl) : (crs p q).2.length ≤ 100 := by
  unfold crs
  have h1 := belo_len p (q.drop p.length)
  have h2 := belo_len q (p.drop q.length)
  split
  · simp
  · split
    · omega
    · split
      · simp only [swp2]; omega
      · simp
theorem run_io3 {T : Nat → Option FD} {i k np ns : Nat} {body : ISs} {args : List Ob} {env env' : En} {o : Ob} {t : List PV} (hT : T i = some ⟨np, ns, [2], body⟩) (e2 : (args.length == np && ioOk [2] 0 args) = true) (e1 : args.map some ++ List.replicate (ns - np) none = env) (hs : evSs (runF T k) [2] body env = .ok (.rt o) env') (ho : outsOf env' [2] = some [.ml t]) : runF T (k + 1) i args = .ret o [.ml t] := by
  rw [y_run hT, if_pos e2]
  simp only [e1, hs, ho]
  simp
section
variable {T : Nat → Option FD} {tup told zer stold isin sp : Nat} (P : PlaceFns T tup told zer stold isin sp)
include P
theorem short_spec {i : Nat} (hT : T i = some ⟨1, 2, [], q_sure_short stold⟩) (k : Nat) {d : PV} {p : Pl} (s : SoftP d p) (hl : p.length ≤ 12) : runF T (k + 5) i [.v d] = .ret (.v (encP p)) [] := by
  have h1 := stold_spec P k s (by omega)
  have l1 := p_len (p := p)
  have l2 : opf2 .gt (.int (p.length : Int)) (.int 12) = some (.v (.bool false)) := by rw [i_gt]; simp; omega
  rw [y_run hT]
  generalize (p.length : Int) = n at l1 l2
  simp [q_sure_short, ioOk, free, h1, l1, l2, handsOk, ioNames, putBack, outsOf]
theorem crossing_spec {i ss ci : Nat} (hT : T i = some ⟨2, 3, [], q_crossing ss ci⟩) (hs : T ss = some ⟨1, 2, [], q_sure_short stold⟩) (hc : T ci = some ⟨2, 4, [], q_crossing_in 22⟩) (hb : T 22 = some ⟨2, 2, [], q_below_in⟩) (k : Nat) {d e : PV} {p q : Pl} (s : SoftP d p) (s' : SoftP e q) (h1 : p.length ≤ 12) (h2 : q.length ≤ 12) :
    runF T (k + 6) i [.v d, .v e] = .ret (.v (enc2 (crs p q))) [] := by
  have g1 := short_spec P hs k s h1
  have g2 := short_spec P hs k s' h2
  have g3 := crs_in_spec hc hb (k + 3) p q (by omega) (by omega)
  rw [y_run hT]
  simp [q_crossing, ioOk, free, g1, g2, g3, handsOk, ioNames, putBack, outsOf]
def apart (p q : Pl) : Bool := !decide (p.take q.length = q) && !decide (q.take p.length = p)
theorem apart_spec {i ss : Nat} (hT : T i = some ⟨2, 4, [], q_are_apart ss⟩) (hs : T ss = some ⟨1, 2, [], q_sure_short stold⟩) (k : Nat) {d e : PV} {p q : Pl} (s : SoftP d p) (s' : SoftP e q) (h1 : p.length ≤ 12) (h2 : q.length ≤ 12) :
    runF T (k + 6) i [.v d, .v e] = .ret (.v (.bool (apart p q))) [] := by
  have g1 := short_spec P hs k s h1
  have g2 := short_spec P hs k s' h2
  have l1 := p_len (p := p)
  have l2 := p_len (p := q)
  have t1 := p_to (q := q) (i := (p.length : Int)) rfl
  have t2 := p_to (q := p) (i := (q.length : Int)) rfl
  have e1 := p_ne (p := q.take p.length) (q := p)
  have e2 := p_ne (p := p.take q.length) (q := q)
  rw [y_run hT]
  unfold apart
  generalize (p.length : Int) = n1 at l1 t1
  generalize (q.length : Int) = n2 at l2 t2
  cases c1 : decide (p.take q.length = q)
  · rw [c1] at e2
    simp only [Bool.not_false] at e2
    generalize (!decide (q.take p.length = p)) = r at e1 ⊢
    simp [q_are_apart, ioOk, free, g1, g2, l1, l2, t1, t2, e1, e2, handsOk, ioNames, putBack, outsOf]
  · rw [c1] at e2
    simp only [Bool.not_true] at e2
    simp [q_are_apart, ioOk, free, g1, g2, l1, l2, t1, t2, e1, e2, handsOk, ioNames, putBack, outsOf]
theorem lies_spec {i ss : Nat} (hT : T i = some ⟨2, 4, [], q_lies_in ss⟩) (hs : T ss = some ⟨1, 2, [], q_sure_short stold⟩) (k : Nat) {d e : PV} {p q : Pl} (s : SoftP d p) (s' : SoftP e q) (h1 : p.length ≤ 12) (h2 : q.length ≤ 12) :
    runF T (k + 6) i [.v d, .v e] = .ret (.v (.bool (decide (p.take q.length = q)))) [] := by
  have g1 := short_spec P hs k s h1
  have g2 := short_spec P hs k s' h2
  have l2 := p_len (p := q)
  have t2 := p_to (q := p) (i := (q.length : Int)) rfl
  have e2 := p_eq (p := p.take q.length) (q := q)
  rw [y_run hT]
  generalize (q.length : Int) = n2 at l2 t2
  generalize decide (p.take q.length = q) = r at e2 ⊢
  simp [q_lies_in, ioOk, free, g1, g2, l2, t2, e2, handsOk, ioNames, putBack, outsOf]
theorem short_row_spec {i sr ir : Nat} (hT : T i = some ⟨1, 3, [], q_sure_short_row sr⟩) (hr : T sr = some ⟨1, 2, [], q_sure_row tup ir⟩) (hi : T ir = some ⟨1, 2, [], q_is_row_in zer⟩) (k : Nat) {d : PV} {ps : List Pl} (s : SoftR d ps) (h1 : ps.length ≤ 8) (h2 : ∀ p ∈ ps, p.length ≤ 8) :
    runF T (k + 6) i [.v d] = .ret (.v (encR ps)) [] := by
  have g1 := sure_row_spec hr P.h1 hi P.h3 P.h2 k s (encR_nice (fun p hp => by have := h2 p hp; omega) (by omega))
  have l1 : opf1 .len (encR ps) = some (.v (.int (ps.length : Int))) := o_len (by rw [lenf, List.length_map]; rfl)
  have l2 : opf2 .gt (.int (ps.length : Int)) (.int 8) = some (.v (.bool false)) := by rw [i_gt]; simp; omega
  have c : evE (runF T (k + 5)) [] (.lc [2] (.inr 2) (.seq (.x 1)) .nil (.op .gt (.cons false (.op .len (.cons false (.x 2) .nil)) (.cons false (.c (.int 8)) .nil)))) [some (.v d), some (.v (encR ps)), none] = .ok (.ml (ps.map fun _ => .bool false)) [some (.v d), some (.v (encR ps)), none] :=
    lc_mapQ encP (fun _ => .v (.bool false)) (fun _ => .bool false) (by simp) (by simp [itemsOf]) rfl (by rw [lim_nat]; omega) fun p hp => ⟨_, rfl, rfl, by
      have l3 := p_len (p := p)
      have l4 : opf2 .gt (.int (p.length : Int)) (.int 8) = some (.v (.bool false)) := by rw [i_gt]; simp; have := h2 p hp; omega
      generalize (p.length : Int) = n at l3 l4
      simp [l3, l4], fun _ => rfl⟩
  have a : opf1 .any (.list (ps.map fun _ => PyData.bool false)) = some (.v (.bool false)) := by
    have h : ∀ ps : List Pl, anyf (.list (ps.map fun _ => PyData.bool false)) = some (.v (.bool false)) := fun ps => by
      have hb : bBools (ps.map fun _ => PyData.bool false) = some (ps.map fun _ => false) := by
        induction ps with
        | nil => rfl
        | cons p ps ih => rw [List.map_cons, bBools, ih]; rfl
      rw [anyf, hb, Option.bind_some, vB]
      have : (ps.map fun _ => false).any id = false := by
        clear hb
        induction ps with
        | nil => rfl
        | cons p ps ih => rw [List.map_cons, List.any_cons, ih]; rfl
      rw [this]
    have e : opf1 .any (.list (ps.map fun _ => PyData.bool false)) = anyf (.list (ps.map fun _ => PyData.bool false)) := by unfold opf1; rfl
    rw [e, h]
  rw [y_run hT]
  generalize (ps.length : Int) = n at l1 l2
  simp [q_sure_short_row, ioOk, free, g1, l1, l2, c, a, handsOk, ioNames, putBack, outsOf]
end
theorem sl1_nil {d : PV} : opf2 (.slice true false) (.tuple [d]) (.int 1) = some (.v (.tuple [])) := rfl
section
variable {T : Nat → Option FD}
/-- a row of nothing -/
theorem rows_l {i : Nat} (hT : T i = some ⟨3, 9, [2], q_rows_in 21 23⟩) (k : Nat) (r : List Pl) (t : List PV) : runF T (k + 1) i [.v (.tuple []), .v (encR r), .ml t] = .ret (.v (.tuple [encR r, .tuple []])) [.ml t] := by
  have e0 : opf2 .eq (.tuple []) (.tuple []) = some (.v (.bool true)) := o_eqi (r_eqf0 [])
  refine run_io3 hT rfl rfl (env' := [some (.v (.tuple [])), some (.v (encR r)), some (.ml t), none, none, none, none, none, none]) ?_ rfl
  rw [q_rows_in_eq]
  simp [q_rows_in.t0, q_rows_in.t0a0, e0]
theorem rows_r {i : Nat} (hT : T i = some ⟨3, 9, [2], q_rows_in 21 23⟩) (k : Nat) (r : List Pl) (t : List PV) : runF T (k + 1) i [.v (encR r), .v (.tuple []), .ml t] = .ret (.v (.tuple [.tuple [], encR r])) [.ml t] := by
  have e0 : opf2 .eq (encR r) (.tuple []) = some (.v (.bool r.isEmpty)) := o_eqi (r_eqf0 r)
  have e1 : opf2 .eq (.tuple []) (.tuple []) = some (.v (.bool true)) := o_eqi (r_eqf0 [])
  refine run_io3 hT rfl rfl (env' := [some (.v (encR r)), some (.v (.tuple [])), some (.ml t), none, none, none, none, none, none]) ?_ rfl
  rw [q_rows_in_eq]
  cases r with
  | nil =>
    have e0 : opf2 .eq (encR []) (.tuple []) = some (.v (.bool true)) := e0
    simp [q_rows_in.t0, q_rows_in.t0a0, e0]
  | cons p r =>
    have e0 : opf2 .eq (encR (p :: r)) (.tuple []) = some (.v (.bool false)) := e0
    simp [q_rows_in.t0, q_rows_in.t1, q_rows_in.t1a0, e0, e1]
theorem r_add {a b : List Pl} (h : a.length + b.length ≤ 16777216) : opf2 .add (encR a) (encR b) = some (.v (encR (a ++ b))) := by
  refine o_add ?_
  rw [tup_add (by rw [List.length_map, List.length_map]; exact h), ← List.map_append]
theorem rows_one {ci : Nat} (hT : T 23 = some ⟨3, 9, [2], q_rows_in 21 23⟩) (hc : T 21 = some ⟨2, 4, [], q_crossing_in 22⟩) (hb : T 22 = some ⟨2, 2, [], q_below_in⟩) (k : Nat) (p q : Pl) (h1 : p.length ≤ 100) (h2 : q.length ≤ 100) (hl : (crs p q).2.length ≤ 100) :
    ∃ t, runF T (k + 3) 23 [.v (encR [p]), .v (encR [q]), .ml [.int 400]] = .ret (.v (enc2 (crs p q))) [.ml t] := by
  have g1 := crs_in_spec hc hb k p q h1 h2
  have g2 := rows_l hT (k + 1) (crs p q).1 [.int 399]
  have g3 := rows_r hT (k + 1) (crs p q).2 [.int 399]
  have e0 : opf2 .eq (encR [p]) (.tuple []) = some (.v (.bool false)) := o_eqi (r_eqf0 [p])
  have e1 : opf2 .eq (encR [q]) (.tuple []) = some (.v (.bool false)) := o_eqi (r_eqf0 [q])
  have e2 : opf2 .idx (.list [.int 400]) (.int 0) = some (.v (.int 400)) := rfl
  have e3 : opf2 .idx (encR [p]) (.int 0) = some (.v (encP p)) := rfl
  have e4 : opf2 .idx (encR [q]) (.int 0) = some (.v (encP q)) := rfl
  have s1 : opf2 (.slice true false) (encR [p]) (.int 1) = some (.v (.tuple [])) := rfl
  have s2 : opf2 (.slice true false) (encR [q]) (.int 1) = some (.v (.tuple [])) := rfl
  have i1 : ∀ x : List Pl, opf2 .add (encR x) (.tuple []) = some (.v (encR x)) ∨ 16777216 < x.length := fun x => by
    by_cases h : x.length ≤ 16777216
    · have := r_add (a := x) (b := []) (by simpa using h)
      rw [List.append_nil] at this
      exact .inl this
    · exact .inr (by omega)
  have a1 : opf2 .add (encR (crs p q).2) (.tuple []) = some (.v (encR (crs p q).2)) := by
    rcases i1 (crs p q).2 with h | h
    · exact h
    · omega
  have hl1 : (crs p q).1.length ≤ 100 := crs_len1 p q
  have a2 : opf2 .add (encR (crs p q).1) (.tuple []) = some (.v (encR (crs p q).1)) := by
    rcases i1 (crs p q).1 with h | h
    · exact h
    · omega
  have j0 : opf2 .eq (.int 400) (.int 0) = some (.v (.bool false)) := i_eq
  have j1 : opf2 .sub (.int 400) (.int 1) = some (.v (.int 399)) := i_sub
  refine ⟨[.int 399], ?_⟩
  clear hl1 hl
  generalize crs p q = c at g1 g2 g3 a1 a2 ⊢
  obtain ⟨x, y⟩ := c
  simp only [enc2] at g1 g2 g3 a1 a2 ⊢
  refine run_io3 hT rfl rfl (env' := [some (.v (encR [p])), some (.v (encR [q])), some (.ml [.int 399]), some (.v (encR x)), some (.v (encR y)), some (.v (encR x)), some (.v (.tuple [])), some (.v (.tuple [])), some (.v (encR y))]) ?_ rfl
  rw [q_rows_in_eq]
  simp [q_rows_in.t0, q_rows_in.t1, q_rows_in.t2, q_rows_in.t3, q_rows_in.t4, q_rows_in.t5, q_rows_in.t6, q_rows_in.t7, e0, e1, e2, e3, e4, s1, s2, j0, j1, g1, g2, g3, a1, a2, free, setTgs, handsOk, ioNames, putBack, isMl, ixN]
end
section
variable {T : Nat → Option FD} {tup told zer stold isin sp : Nat} (P : PlaceFns T tup told zer stold isin sp)
include P
theorem rows_crossing_spec {i ss sr ir : Nat} (hT : T i = some ⟨2, 3, [], q_rows_crossing ss 23⟩) (hs : T ss = some ⟨1, 3, [], q_sure_short_row sr⟩) (hr : T sr = some ⟨1, 2, [], q_sure_row tup ir⟩) (hi : T ir = some ⟨1, 2, [], q_is_row_in zer⟩) (h23 : T 23 = some ⟨3, 9, [2], q_rows_in 21 23⟩) (hc : T 21 = some ⟨2, 4, [], q_crossing_in 22⟩) (hb : T 22 = some ⟨2, 2, [], q_below_in⟩) (k : Nat) (p q : Pl) (h1 : p.length ≤ 8) (h2 : q.length ≤ 8) :
    runF T (k + 7) i [.v (encR [p]), .v (encR [q])] = .ret (.v (enc2 (crs p q))) [] := by
  have sq : ∀ p : Pl, p.length ≤ 8 → SoftR (encR [p]) [p] := fun p hp => SoftR.enc (by simp; omega) (by simp)
  have g1 := short_row_spec (isin := isin) (sp := sp) P hs hr hi k (sq p h1) (by simp) (by simpa using h1)
  have g2 := short_row_spec (isin := isin) (sp := sp) P hs hr hi k (sq q h2) (by simp) (by simpa using h2)
  obtain ⟨t, g3⟩ := rows_one (ci := 0) h23 hc hb (k + 3) p q (by omega) (by omega) (crs_len2 p q)
  rw [y_run hT]
  simp [q_rows_crossing, ioOk, free, g1, g2, g3, handsOk, ioNames, putBack, outsOf]
end
end Pv
-- PvMv7
set_option maxRecDepth 100000
set_option maxHeartbeats 1000000
namespace Pv
open PySem L2
theorem enc_eqv : ∀ a b : Bush, PyData.eqv a.enc b.enc = decide (a = b)
  | .lf, .lf => by simp [Bush.enc, PyData.eqv, PyData.eqvAll]
  | .lf, .nd a b => by simp [Bush.enc, PyData.eqv, PyData.eqvAll]
  | .nd a b, .lf => by simp [Bush.enc, PyData.eqv, PyData.eqvAll]
  | .nd a b, .nd c d => by
    have h1 := enc_eqv a c
    have h2 := enc_eqv b d
    rw [Bush.enc, Bush.enc, PyData.eqv, PyData.eqvAll, PyData.eqvAll, PyData.eqvAll, h1, h2, Bool.eq_iff_iff]
    simp
theorem enc_eqf {a b : Bush} (h : a.height ≤ 100) : eqf a.enc b.enc = some (decide (a = b)) := by
  have hd : ∀ b : Bush, isD b.enc = false := fun b => enc_isD
  have : eqOk a.enc b.enc = true := by
    rw [eqOk, hd, hd, enc_depth a]
    simp; omega
  rw [eqf, if_pos this, enc_eqv]
def meets (b : Bush) (ps qs : List Pl) : Bool := match b.go ps, b.go qs with
  | some c, some d => decide (c = d)
  | _, _ => false
section
variable {cf : Nat → List Ob → CR} {d0 d1 d2 th : PV} {b : Bush} {p q : List Pl}
theorem isc_pre (g1 : cf 3 [.v d0] = .ret (.v b.enc) []) (g2 : cf 20 [.v d1] = .ret (.v (encR p)) []) (g3 : cf 20 [.v d2] = .ret (.v (encR q)) []) :
    evSs cf [] q_is_crossing.t0 [some (.v d0), some (.v d1), some (.v d2), some (.v th), none, none, none, none, none, none, none] = evSs cf [] q_is_crossing.t3 [some (.v d0), some (.v d1), some (.v d2), some (.v th), some (.v b.enc), some (.v (encR p)), some (.v (encR q)), none, none, none, none] := by
  have e : (Ob.v b.enc).frozen = .v b.enc := by cases b <;> rfl
  rw [q_is_crossing.t0, st_asgQ (o := .v b.enc) (env'' := [some (.v d0), some (.v d1), some (.v d2), some (.v th), some (.v b.enc), none, none, none, none, none, none]) rfl (by simp [g1, handsOk, ioNames, putBack]) (by simp [fzIf, e]),
    q_is_crossing.t1, st_asgQ (o := .v (encR p)) (env'' := [some (.v d0), some (.v d1), some (.v d2), some (.v th), some (.v b.enc), some (.v (encR p)), none, none, none, none, none]) rfl (by simp [g2, handsOk, ioNames, putBack]) rfl,
    q_is_crossing.t2, st_asgQ (o := .v (encR q)) (env'' := [some (.v d0), some (.v d1), some (.v d2), some (.v th), some (.v b.enc), some (.v (encR p)), some (.v (encR q)), none, none, none, none]) rfl (by simp [g3, handsOk, ioNames, putBack]) rfl]
variable {o4 o5 o6 : Option Ob}
theorem isc_a (h1 : cf 0 [.v th, .v (.int 2)] = .ret (.v (.bool false)) []) : evSs cf [] q_is_crossing.t3 [some (.v d0), some (.v d1), some (.v d2), some (.v th), o4, o5, o6, none, none, none, none] = .ok (.rt (.v (.bool false))) [some (.v d0), some (.v d1), some (.v d2), some (.v th), o4, o5, o6, none, none, none, none] := by
  rw [q_is_crossing.t3]
  simp [h1, handsOk, ioNames, putBack, q_is_crossing.t3a0]
theorem isc_b {x : PV} (h1 : cf 0 [.v th, .v (.int 2)] = .ret (.v (.bool true)) []) (i1 : opf2 .idx th (.int 0) = some (.v x)) (h2 : cf 11 [.v x] = .ret (.v (.bool false)) []) : evSs cf [] q_is_crossing.t3 [some (.v d0), some (.v d1), some (.v d2), some (.v th), o4, o5, o6, none, none, none, none] = .ok (.rt (.v (.bool false))) [some (.v d0), some (.v d1), some (.v d2), some (.v th), o4, o5, o6, none, none, none, none] := by
  rw [q_is_crossing.t3]
  simp [h1, i1, h2, handsOk, ioNames, putBack, q_is_crossing.t3a0]
theorem isc_t {c : List Pl × List Pl} (h1 : cf 0 [.v (enc2 c), .v (.int 2)] = .ret (.v (.bool true)) []) (h2 : cf 11 [.v (encR c.1)] = .ret (.v (.bool true)) []) (h3 : cf 11 [.v (encR c.2)] = .ret (.v (.bool true)) []) :
    evSs cf [] q_is_crossing.t3 [some (.v d0), some (.v d1), some (.v d2), some (.v (enc2 c)), some (.v b.enc), some (.v (encR p)), some (.v (encR q)), none, none, none, none] = evSs cf [] q_is_crossing.t4 [some (.v d0), some (.v d1), some (.v d2), some (.v (enc2 c)), some (.v b.enc), some (.v (encR p)), some (.v (encR q)), none, none, none, none] := by
  have i1 : opf2 .idx (enc2 c) (.int 0) = some (.v (encR c.1)) := rfl
  have i2 : opf2 .idx (enc2 c) (.int 1) = some (.v (encR c.2)) := rfl
  rw [q_is_crossing.t3]
  exact st_skipQ (by simp [h1, i1, i2, h2, h3, handsOk, ioNames, putBack]) (y_ss0 ..)
theorem isc_4 {c : List Pl × List Pl} (hl1 : p.length + c.1.length ≤ 1000) (hl2 : q.length + c.2.length ≤ 1000) :
    evSs cf [] q_is_crossing.t4 [some (.v d0), some (.v d1), some (.v d2), some (.v (enc2 c)), some (.v b.enc), some (.v (encR p)), some (.v (encR q)), none, none, none, none] = evSs cf [] q_is_crossing.t5 [some (.v d0), some (.v d1), some (.v d2), some (.v (enc2 c)), some (.v b.enc), some (.v (encR p)), some (.v (encR q)), some (.v (encR (p ++ c.1))), some (.v (encR (q ++ c.2))), none, none] := by
  have i1 : opf2 .idx (enc2 c) (.int 0) = some (.v (encR c.1)) := rfl
  have i2 : opf2 .idx (enc2 c) (.int 1) = some (.v (encR c.2)) := rfl
  have a1 := r_add (a := p) (b := c.1) (by omega)
  have a2 := r_add (a := q) (b := c.2) (by omega)
  rw [q_is_crossing.t4]
  exact st_par (os := [.v (encR (p ++ c.1)), .v (encR (q ++ c.2))]) (env' := [some (.v d0), some (.v d1), some (.v d2), some (.v (enc2 c)), some (.v b.enc), some (.v (encR p)), some (.v (encR q)), none, none, none, none]) rfl (by simp [i1, i2, a1, a2]) rfl
theorem isc_5 {c : List Pl × List Pl} (h1 : cf 15 [.v b.enc, .v (encR (p ++ c.1))] = .ret (.ml (encB (b.stepsL (p ++ c.1)))) []) (h2 : cf 15 [.v b.enc, .v (encR (q ++ c.2))] = .ret (.ml (encB (b.stepsL (q ++ c.2)))) []) :
    evSs cf [] q_is_crossing.t5 [some (.v d0), some (.v d1), some (.v d2), some (.v (enc2 c)), some (.v b.enc), some (.v (encR p)), some (.v (encR q)), some (.v (encR (p ++ c.1))), some (.v (encR (q ++ c.2))), none, none] = evSs cf [] q_is_crossing.t6 [some (.v d0), some (.v d1), some (.v d2), some (.v (enc2 c)), some (.v b.enc), some (.v (encR p)), some (.v (encR q)), some (.v (encR (p ++ c.1))), some (.v (encR (q ++ c.2))), some (.v (.list (encB (b.stepsL (p ++ c.1))))), some (.v (.list (encB (b.stepsL (q ++ c.2)))))] := by
  rw [q_is_crossing.t5]
  exact st_par (os := [.v (.list (encB (b.stepsL (p ++ c.1)))), .v (.list (encB (b.stepsL (q ++ c.2))))]) (env' := [some (.v d0), some (.v d1), some (.v d2), some (.v (enc2 c)), some (.v b.enc), some (.v (encR p)), some (.v (encR q)), some (.v (encR (p ++ c.1))), some (.v (encR (q ++ c.2))), none, none]) rfl (by simp [h1, h2, handsOk, ioNames, putBack]) rfl
theorem isc_last {b c : Bush} {ps : List Pl} (h : b.go ps = some c) : opf2 .idx (.list (encB (b.stepsL ps))) (.int (-1)) = some (.v c.enc) ∧ (b.stepsL ps).length = ps.length + 1 := by
  have h4 := Bush.stepsL_go ps b
  rw [h] at h4
  obtain ⟨r, hr⟩ := List.getLast?_eq_some_iff.mp h4.2
  refine ⟨?_, h4.1⟩
  rw [hr, encB, List.map_append]
  exact o_last (L := encB r) (d := c.enc)
theorem isc_6 {c : List Pl × List Pl} (hb : ∀ x, b.go (p ++ c.1) = some x → x.height ≤ 100) :
    evSs cf [] q_is_crossing.t6 [some (.v d0), some (.v d1), some (.v d2), some (.v (enc2 c)), some (.v b.enc), some (.v (encR p)), some (.v (encR q)), some (.v (encR (p ++ c.1))), some (.v (encR (q ++ c.2))), some (.v (.list (encB (b.stepsL (p ++ c.1))))), some (.v (.list (encB (b.stepsL (q ++ c.2)))))] = .ok (.rt (.v (.bool (meets b (p ++ c.1) (q ++ c.2))))) [some (.v d0), some (.v d1), some (.v d2), some (.v (enc2 c)), some (.v b.enc), some (.v (encR p)), some (.v (encR q)), some (.v (encR (p ++ c.1))), some (.v (encR (q ++ c.2))), some (.v (.list (encB (b.stepsL (p ++ c.1))))), some (.v (.list (encB (b.stepsL (q ++ c.2)))))] := by
  have l1 : opf1 .len (.list (encB (b.stepsL (p ++ c.1)))) = some (.v (.int ((b.stepsL (p ++ c.1)).length : Int))) := o_len (by rw [lenf, List.length_map]; rfl)
  have l2 : opf1 .len (.list (encB (b.stepsL (q ++ c.2)))) = some (.v (.int ((b.stepsL (q ++ c.2)).length : Int))) := o_len (by rw [lenf, List.length_map]; rfl)
  have m1 : opf1 .len (encR (p ++ c.1)) = some (.v (.int ((p ++ c.1).length : Int))) := o_len (by rw [lenf, List.length_map]; rfl)
  have m2 : opf1 .len (encR (q ++ c.2)) = some (.v (.int ((q ++ c.2).length : Int))) := o_len (by rw [lenf, List.length_map]; rfl)
  have n1 := Bush.stepsL_go (p ++ c.1) b
  have n2 := Bush.stepsL_go (q ++ c.2) b
  unfold meets
  rw [q_is_crossing.t6]
  cases e1 : b.go (p ++ c.1) with
  | none =>
    rw [e1] at n1
    have j1 : opf2 .gt (.int ((b.stepsL (p ++ c.1)).length : Int)) (.int ((p ++ c.1).length : Int)) = some (.v (.bool false)) := by rw [i_gt]; simp; simp at n1; omega
    generalize ((b.stepsL (p ++ c.1)).length : Int) = u1 at l1 j1
    generalize ((p ++ c.1).length : Int) = w1 at m1 j1
    simp [l1, m1, j1]
  | some x =>
    rw [e1] at n1
    have j1 : opf2 .gt (.int ((b.stepsL (p ++ c.1)).length : Int)) (.int ((p ++ c.1).length : Int)) = some (.v (.bool true)) := by rw [i_gt, n1.1]; simp; omega
    generalize ((b.stepsL (p ++ c.1)).length : Int) = u1 at l1 j1
    generalize ((p ++ c.1).length : Int) = w1 at m1 j1
    cases e2 : b.go (q ++ c.2) with
    | none =>
      rw [e2] at n2
      have j2 : opf2 .gt (.int ((b.stepsL (q ++ c.2)).length : Int)) (.int ((q ++ c.2).length : Int)) = some (.v (.bool false)) := by rw [i_gt]; simp; simp at n2; omega
      generalize ((b.stepsL (q ++ c.2)).length : Int) = u2 at l2 j2
      generalize ((q ++ c.2).length : Int) = w2 at m2 j2
      simp [l1, m1, j1, l2, m2, j2]
    | some y =>
      rw [e2] at n2
      have j2 : opf2 .gt (.int ((b.stepsL (q ++ c.2)).length : Int)) (.int ((q ++ c.2).length : Int)) = some (.v (.bool true)) := by rw [i_gt, n2.1]; simp; omega
      generalize ((b.stepsL (q ++ c.2)).length : Int) = u2 at l2 j2
      generalize ((q ++ c.2).length : Int) = w2 at m2 j2
      have k1 := (isc_last e1).1
      have k2 := (isc_last e2).1
      have k3 := o_eqi (enc_eqf (a := x) (b := y) (hb x e1))
      simp [l1, m1, j1, l2, m2, j2, i_neg, k1, k2, k3]
end
end Pv
-- PvTake
set_option maxRecDepth 100000
namespace Pv
open PySem L2
theorem take_nat' {T : Nat → Option FD} {i : Nat} (hT : T i = some ⟨2, 6, [0], q_law_take⟩) (k : Nat) {A B C : Int} (hA : 0 ≤ A) (hC : 0 ≤ C) (hC2 : C < 1000000000) (n : Nat) {z : Int} (hz : z = n) (hn : 0 < n) (hn2 : n < 1000000000) :
    ∃ (v : Nat) (A' C' : Int), runF T (k + 1) i [.ml (tin A B C), .v (.int z)] = .ret (.v (.int v)) [.ml (tin A' B C')] ∧ v < n ∧ 0 ≤ A' ∧ C ≤ C' ∧ C' ≤ C + 1 := by
  subst hz
  obtain ⟨v, A', C', h1, h2, h3, h4, h5, h6⟩ := take_spec hT k (A := A) (B := B) (C := C) (n := (n : Int)) ⟨hA, hC, hC2⟩ (by omega) (by omega)
  obtain ⟨m, rfl⟩ := Int.eq_ofNat_of_zero_le h2
  exact ⟨m, A', C', h1, by omega, h4, h5, h6⟩
end Pv
-- PvMv8
set_option maxRecDepth 100000
set_option maxHeartbeats 1000000
namespace Pv
open PySem L2
theorem take_both {p q : Pl} (h1 : q.take p.length = p) (h2 : p.take q.length = q) : p = q := by
  have l1 : p.length ≤ q.length := by
    have := congrArg List.length h1
    rw [List.length_take] at this; omega
  have l2 : q.length ≤ p.length := by
    have := congrArg List.length h2
    rw [List.length_take] at this; omega
  rw [List.take_of_length_le (by omega)] at h2
  exact h2
theorem swp2_swp2 {α : Type} (x : α × α) : swp2 (swp2 x) = x := rfl
theorem crs_swap (p q : Pl) : crs q p = swp2 (crs p q) := by
  unfold crs
  by_cases h1 : p = q
  · rw [if_pos h1, if_pos h1.symm]; rfl
  · rw [if_neg h1, if_neg fun e => h1 e.symm]
    by_cases h2 : q.take p.length = p
    · have h3 : ¬ p.take q.length = q := fun h3 => h1 (take_both h2 h3)
      rw [if_pos h2, if_neg h3, if_pos h2]
    · by_cases h3 : p.take q.length = q
      · rw [if_pos h3, if_neg h2, if_pos h3]; rfl
      · rw [if_neg h3, if_neg h2, if_neg h2, if_neg h3]; rfl
theorem apart_crs {p q : Pl} (h : apart p q = true) : crs p q = ([q], [p]) ∧ p ≠ q := by
  simp only [apart, Bool.and_eq_true, Bool.not_eq_true', decide_eq_false_iff_not] at h
  have hne : p ≠ q := fun e => h.1 (by rw [e, List.take_length])
  unfold crs
  rw [if_neg hne, if_neg h.2, if_neg h.1]
  exact ⟨rfl, hne⟩
theorem crs_self (p : Pl) : crs p p = ([], []) := by unfold crs; rw [if_pos rfl]
theorem crs_below {p q : Pl} (h : apart p q = false) (hl : p.length < q.length) : ∃ r, q = p ++ r ∧ r ≠ [] ∧ crs p q = belo p r := by
  have h3 : ¬ p.take q.length = q := fun e => by
    have := congrArg List.length e
    rw [List.length_take] at this; omega
  have h2 : q.take p.length = p := by
    simp only [apart, decide_eq_false h3, Bool.not_false, Bool.true_and, Bool.not_eq_false', decide_eq_true_eq] at h
    exact h
  have hne : p ≠ q := fun e => by rw [e] at hl; omega
  refine ⟨q.drop p.length, ?_, ?_, ?_⟩
  · have := List.take_append_drop p.length q
    rw [h2] at this
    exact this.symm
  · intro e
    have := congrArg List.length e
    rw [List.length_drop] at this
    simp at this; omega
  · unfold crs
    rw [if_neg hne, if_pos h2]
theorem encPs_nice {ps : List Pl} (h : ∀ p ∈ ps, p.length ≤ 100000) : niceA (ps.map encP) = true := by
  induction ps with
  | nil => rfl
  | cons p ps ih =>
    rw [List.map_cons, niceA, encP_nice (by have := h p List.mem_cons_self; omega), ih fun q hq => h q (List.mem_cons_of_mem _ hq)]; rfl
/-- short rows -/
def Shr (m : Nat) (ps : List Pl) : Prop := ps.length ≤ m ∧ ∀ p ∈ ps, p.length ≤ m
theorem Shr.nice {m : Nat} (hm : m ≤ 100000) {ps : List Pl} (h : Shr m ps) : nice (encR ps) = true := encR_nice (fun p hp => by have := h.2 p hp; omega) (by have := h.1; omega)
theorem Shr.soft {m : Nat} (hm : m ≤ 100000) {ps : List Pl} (h : Shr m ps) : SoftR (encR ps) ps := SoftR.enc (fun p hp => by have := h.2 p hp; omega) (by have := h.1; omega)
theorem belo_shr {p r : Pl} {n : Nat} (h : p.length + r.length ≤ n) (hn : 1 ≤ n) : Shr (n + 2) (belo p r).1 ∧ Shr (n + 2) (belo p r).2 := by
  have hb := belo_len p r
  refine ⟨⟨by omega, ?_⟩, ⟨by omega, ?_⟩⟩
  · unfold belo
    split
    · intro x hx
      simp only [List.mem_cons, List.not_mem_nil, or_false] at hx
      rcases hx with rfl | rfl <;> simp at h ⊢ <;> omega
    · intro x hx
      simp only [List.mem_cons, List.not_mem_nil, or_false] at hx
      rcases hx with rfl | rfl <;> simp at h ⊢ <;> omega
    · intro x hx
      simp only [List.mem_cons, List.not_mem_nil, or_false] at hx
      rcases hx with rfl
      simp at h ⊢; omega
    · intro x hx; cases hx
  · unfold belo
    split
    · intro x hx
      simp only [List.mem_cons, List.not_mem_nil, or_false] at hx
      rcases hx with rfl | rfl | rfl <;> simp at h ⊢ <;> omega
    · intro x hx
      simp only [List.mem_cons, List.not_mem_nil, or_false] at hx
      rcases hx with rfl
      omega
    · intro x hx
      simp only [List.mem_cons, List.not_mem_nil, or_false] at hx
      rcases hx with rfl
      omega
    · intro x hx; cases hx
theorem crs_shr {p q : Pl} {n : Nat} (hp : p.length ≤ n) (hq : q.length ≤ n) (hn : 1 ≤ n) : Shr (n + 2) (crs p q).1 ∧ Shr (n + 2) (crs p q).2 := by
  unfold crs
  split
  · exact ⟨⟨by simp, fun x hx => by cases hx⟩, ⟨by simp, fun x hx => by cases hx⟩⟩
  · split
    · rename_i h2
      refine belo_shr ?_ hn
      rw [List.length_drop]
      have := congrArg List.length h2
      rw [List.length_take] at this; omega
    · split
      · rename_i h2
        have := belo_shr (p := q) (r := p.drop q.length) (n := n) (by
          rw [List.length_drop]
          have := congrArg List.length h2
          rw [List.length_take] at this; omega) hn
        exact ⟨this.2, this.1⟩
      · refine ⟨⟨by simp, fun x hx => ?_⟩, ⟨by simp, fun x hx => ?_⟩⟩
        · simp only [List.mem_cons, List.not_mem_nil, or_false] at hx
          rw [hx]; omega
        · simp only [List.mem_cons, List.not_mem_nil, or_false] at hx
          rw [hx]; omega
theorem r_eqv : ∀ ps : List Pl, PyData.eqvAll (ps.map encP) (ps.map encP) = true
  | [] => by simp [PyData.eqvAll]
  | p :: ps => by
    have h : PyData.eqv (encP p) (encP p) = true := by rw [encP, PyData.eqv, eqv_bits]; simp
    rw [List.map_cons, PyData.eqvAll, r_eqv ps, h]; rfl
theorem e2_nef (c : List Pl × List Pl) : nef (enc2 c) (enc2 c) = some false := by
  have h1 : eqOk (enc2 c) (enc2 c) = true := by
    have d1 := encR_depth c.1
    have d2 := encR_depth c.2
    have hd : (enc2 c).depth ≤ 150 := by
      rw [PyData.depth, PyData.depthAll, PyData.depthAll, PyData.depthAll]; omega
    have hx : isD (enc2 c) = false := rfl
    rw [eqOk, hx, decide_eq_true hd]; rfl
  rw [nef, if_pos h1, PyData.eqv, PyData.eqvAll, PyData.eqvAll, PyData.eqvAll, PyData.eqv, PyData.eqv, r_eqv, r_eqv]; rfl
theorem enc_nef (b : Bush) (h : b.height ≤ 100) : nef b.enc b.enc = some false := by
  have hd : isD b.enc = false := enc_isD
  have : eqOk b.enc b.enc = true := by
    rw [eqOk, hd, enc_depth b]
    simp; omega
  rw [nef, if_pos this, enc_eqv]; simp
theorem meets_of {b : Bush} {p q : Pl} {c : List Pl × List Pl} (h : Meet b p q c) : meets b (p :: c.1) (q :: c.2) = true := by
  obtain ⟨d, h1, h2⟩ := h
  rw [meets, h1, h2]; simp
end Pv
-- PvQc04
set_option maxRecDepth 100000
namespace Pv
open PySem L2
def q_moved_x.t2a0 (f0 f1 f2 f3 : Nat) : ISs := .cons (.raise f3 .nil) .nil
def q_moved_x.t3 (f0 f1 f2 f3 : Nat) : ISs := .cons (.ret (.x 3)) .nil
def q_moved_x.t2 (f0 f1 f2 f3 : Nat) : ISs := .cons (.ite (.op .isN (.cons false (.x 3) (.cons false (.c .none) .nil))) (q_moved_x.t2a0 f0 f1 f2 f3) .nil) (q_moved_x.t3 f0 f1 f2 f3)
def q_moved_x.t1 (f0 f1 f2 f3 : Nat) : ISs := .cons (.asg true 3 (.call f1 (.cons false (.x 2) (.cons false (.call f2 (.cons false (.x 2) (.cons false (.x 1) .nil))) .nil)))) (q_moved_x.t2 f0 f1 f2 f3)
def q_moved_x.t0 (f0 f1 f2 f3 : Nat) : ISs := .cons (.asg true 2 (.call f0 (.cons false (.x 0) .nil))) (q_moved_x.t1 f0 f1 f2 f3)
theorem q_moved_x_eq (f0 f1 f2 f3 : Nat) : q_moved_x f0 f1 f2 f3 = (q_moved_x.t0 f0 f1 f2 f3) := rfl
def q_row_bushes_x.t3a0 (f0 f1 f2 f3 : Nat) : ISs := .cons (.raise f3 .nil) .nil
def q_row_bushes_x.t4 (f0 f1 f2 f3 : Nat) : ISs := .cons (.ret (.op .tuple (.cons false (.x 4) .nil))) .nil
def q_row_bushes_x.t3 (f0 f1 f2 f3 : Nat) : ISs := .cons (.ite (.op .le (.cons false (.op .len (.cons false (.x 4) .nil)) (.cons false (.op .len (.cons false (.x 3) .nil)) .nil))) (q_row_bushes_x.t3a0 f0 f1 f2 f3) .nil) (q_row_bushes_x.t4 f0 f1 f2 f3)
def q_row_bushes_x.t2 (f0 f1 f2 f3 : Nat) : ISs := .cons (.asg true 4 (.call f2 (.cons false (.x 2) (.cons false (.x 3) .nil)))) (q_row_bushes_x.t3 f0 f1 f2 f3)
def q_row_bushes_x.t1 (f0 f1 f2 f3 : Nat) : ISs := .cons (.asg true 3 (.call f1 (.cons false (.x 1) .nil))) (q_row_bushes_x.t2 f0 f1 f2 f3)
def q_row_bushes_x.t0 (f0 f1 f2 f3 : Nat) : ISs := .cons (.asg true 2 (.call f0 (.cons false (.x 0) .nil))) (q_row_bushes_x.t1 f0 f1 f2 f3)
theorem q_row_bushes_x_eq (f0 f1 f2 f3 : Nat) : q_row_bushes_x f0 f1 f2 f3 = (q_row_bushes_x.t0 f0 f1 f2 f3) := rfl
def q_law_heard_x.t0 (f0 f1 f2 f3 f4 : Nat) : ISs := .cons (.tryr f0 f1 3 "can not" (.cons (.ret (.call f2 (.cons false (.callf [f3, f4] 0 (.cons false (.x 1) (.cons false (.x 2) .nil))) .nil))) .nil)) .nil
theorem q_law_heard_x_eq (f0 f1 f2 f3 f4 : Nat) : q_law_heard_x f0 f1 f2 f3 f4 = (q_law_heard_x.t0 f0 f1 f2 f3 f4) := rfl
def q_first_stuck.t3 (f0 f1 f2 : Nat) : ISs := .cons (.ret (.ite (.op .lt (.cons false (.x 4) (.cons false (.op .len (.cons false (.x 3) .nil)) .nil))) (.x 4) (.c .none))) .nil
def q_first_stuck.t2 (f0 f1 f2 : Nat) : ISs := .cons (.asg true 4 (.op .sub (.cons false (.op .len (.cons false (.call f2 (.cons false (.x 2) (.cons false (.x 3) .nil))) .nil)) (.cons false (.c (.int 1)) .nil)))) (q_first_stuck.t3 f0 f1 f2)
def q_first_stuck.t1 (f0 f1 f2 : Nat) : ISs := .cons (.asg true 3 (.call f1 (.cons false (.x 1) .nil))) (q_first_stuck.t2 f0 f1 f2)
def q_first_stuck.t0 (f0 f1 f2 : Nat) : ISs := .cons (.asg true 2 (.call f0 (.cons false (.x 0) .nil))) (q_first_stuck.t1 f0 f1 f2)
theorem q_first_stuck_eq (f0 f1 f2 : Nat) : q_first_stuck f0 f1 f2 = (q_first_stuck.t0 f0 f1 f2) := rfl
def q_law_right_4.t2b1b1a0 : ISs := .cons (.asg true 5 (.x 6)) .nil
def q_law_right_4.t2b1b2a0 : ISs := .cons (.ap 4 (.x 8)) .nil
def q_law_right_4.t2b1b2 : ISs := .cons (.ite (.op .notN (.cons false (.x 8) (.cons false (.c .none) .nil))) q_law_right_4.t2b1b2a0 .nil) .nil
def q_law_right_4.t2b1b1 : ISs := .cons (.ite (.and (.op .isN (.cons false (.x 8) (.cons false (.c .none) .nil))) (.op .isN (.cons false (.x 5) (.cons false (.c .none) .nil)))) q_law_right_4.t2b1b1a0 .nil) q_law_right_4.t2b1b2
def q_law_right_4.t2b1b0 : ISs := .cons (.asg true 8 (.ite (.op .isN (.cons false (.x 5) (.cons false (.c .none) .nil))) (.call 34 (.cons false (.op .idx (.cons false (.x 4) (.cons false (.op .neg (.cons false (.c (.int 1)) .nil)) .nil))) (.cons false (.x 7) .nil))) (.c .none))) q_law_right_4.t2b1b1
def q_law_right_4.t2b5a0 : ISs := .cons (.ret (.c (.bool false))) .nil
def q_law_right_4.t2b6a0c0 : IE := .lc [12] (.inr 12) (.seq (.x 4)) .nil (.call 11 (.cons false (.x 12) .nil))
@[simp] theorem q_law_right_4.t2b6a0c0_x : q_law_right_4.t2b6a0c0.isX = none := rfl
def q_law_right_4.t2b6a1a0 : ISs := .cons (.ret (.c (.bool false))) .nil
def q_law_right_4.t2b6a1c0 : IE := .lc [12] (.inr 12) (.seq (.x 4)) .nil (.call 29 (.cons false (.x 12) .nil))
@[simp] theorem q_law_right_4.t2b6a1c0_x : q_law_right_4.t2b6a1c0.isX = none := rfl
def q_law_right_4.t2b6a3b0 : ISs := .cons (.asg true 13 (.call 18 (.cons false (.x 13) (.cons false (.x 7) .nil)))) .nil
def q_law_right_4.t2b6a5a0 : ISs := .cons (.ret (.c (.bool false))) .nil
def q_law_right_4.t2b6a5 : ISs := .cons (.ite (.not (.call 27 (.cons false (.lst (.cons false (.x 13) (.cons false (.call 19 (.cons false (.call 19 (.cons false (.x 1) (.cons false (.op (.slice false true) (.cons false (.x 2) (.cons false (.x 6) .nil))) .nil))) (.cons false (.op (.slice true false) (.cons false (.x 2) (.cons false (.x 6) .nil))) .nil))) .nil))) (.cons false (.lst (.cons false (.op .idx (.cons false (.x 4) (.cons false (.op .neg (.cons false (.c (.int 1)) .nil)) .nil))) (.cons false (.op .idx (.cons false (.x 4) (.cons false (.op .neg (.cons false (.c (.int 1)) .nil)) .nil))) .nil))) .nil)))) q_law_right_4.t2b6a5a0 .nil) .nil
def q_law_right_4.t2b6a4 : ISs := .cons (.asg true 6 (.call 23 (.cons true (.x 0) (.cons false (.op .add (.cons false (.op .len (.cons false (.x 2) .nil)) (.cons false (.c (.int 1)) .nil))) .nil)))) q_law_right_4.t2b6a5
def q_law_right_4.t2b6a3 : ISs := .cons (.for_ (.inr 7) (.seq (.x 2)) q_law_right_4.t2b6a3b0) q_law_right_4.t2b6a4
def q_law_right_4.t2b6a2 : ISs := .cons (.asg true 13 (.x 1)) q_law_right_4.t2b6a3
def q_law_right_4.t2b6a1 : ISs := .cons (.ite (.not (.call 27 (.cons false (.x 11) (.cons false (.lst (.cons false (.op .idx (.cons false (.x 4) (.cons false (.op .neg (.cons false (.c (.int 1)) .nil)) .nil))) (.cons false (.op .tuple (.cons false (.x 4) .nil)) (.cons false (.op .sorted (.cons false q_law_right_4.t2b6a1c0 .nil)) .nil)))) .nil)))) q_law_right_4.t2b6a1a0 .nil) q_law_right_4.t2b6a2
def q_law_right_4.t2b6a0 : ISs := .cons (.asg true 11 (.lst (.cons false (.callk 19 [1, 0] (.cons false (.x 2) (.cons false (.x 1) .nil))) (.cons false (.callk 21 [1, 0] (.cons false (.x 2) (.cons false (.x 1) .nil))) (.cons false q_law_right_4.t2b6a0c0 .nil))))) q_law_right_4.t2b6a1
def q_law_right_4.t2b8c0 : IE := .lc [15] (.inr 15) (.range (.cons false (.call 23 (.cons true (.x 0) (.cons false (.c (.int 4)) .nil))) .nil)) .nil (.call 23 (.cons true (.x 0) (.cons false (.c (.int 2)) .nil)))
@[simp] theorem q_law_right_4.t2b8c0_x : q_law_right_4.t2b8c0.isX = none := rfl
def q_law_right_4.t2b9 : ISs := .cons (.asg true 2 (.call 25 (.cons true (.x 0) (.cons false (.lst (.cons false (.op .add (.cons false (.op .add (.cons false (.op (.slice false true) (.cons false (.x 2) (.cons false (.x 6) .nil))) (.cons false (.tup (.cons false (.x 14) .nil)) .nil))) (.cons false (.op (.slice true false) (.cons false (.x 2) (.cons false (.x 6) .nil))) .nil))) (.cons false (.op .add (.cons false (.op (.slice false true) (.cons false (.x 2) (.cons false (.x 6) .nil))) (.cons false (.op (.slice true false) (.cons false (.x 2) (.cons false (.op .add (.cons false (.x 6) (.cons false (.c (.int 1)) .nil))) .nil))) .nil))) (.cons false (.op .rev (.cons false (.x 2) .nil)) (.cons false (.op .add (.cons false (.op .add (.cons false (.op (.slice false true) (.cons false (.x 2) (.cons false (.x 6) .nil))) (.cons false (.tup (.cons false (.x 14) .nil)) .nil))) (.cons false (.op (.slice true false) (.cons false (.x 2) (.cons false (.op .add (.cons false (.x 6) (.cons false (.c (.int 1)) .nil))) .nil))) .nil))) .nil))))) .nil)))) .nil
def q_law_right_4.t2b8 : ISs := .cons (.asg true 14 (.op .tuple (.cons false q_law_right_4.t2b8c0 .nil))) q_law_right_4.t2b9
def q_law_right_4.t2b7 : ISs := .cons (.asg true 6 (.call 23 (.cons true (.x 0) (.cons false (.op .add (.cons false (.op .len (.cons false (.x 2) .nil)) (.cons false (.c (.int 1)) .nil))) .nil)))) q_law_right_4.t2b8
def q_law_right_4.t2b6 : ISs := .cons (.ite (.x 9) q_law_right_4.t2b6a0 .nil) q_law_right_4.t2b7
def q_law_right_4.t2b5 : ISs := .cons (.ite (.not (.call 27 (.cons false (.x 11) (.cons false (.op .add (.cons false (.x 10) (.cons false (.lst (.cons false (.x 5) .nil)) .nil))) .nil)))) q_law_right_4.t2b5a0 .nil) q_law_right_4.t2b6
def q_law_right_4.t2b4 : ISs := .cons (.asg true 11 (.lst (.cons false (.call 37 (.cons false (.c (.int 0)) (.cons false (.call 26 (.cons false (.x 1) .nil)) (.cons false (.x 2) .nil)))) (.cons false (.call 37 (.cons false (.c (.int 1)) (.cons false (.x 1) (.cons false (.call 26 (.cons false (.x 2) .nil)) .nil)))) (.cons false (.call 20 (.cons false (.x 1) (.cons false (.x 2) .nil))) (.cons false (.callk 20 [1, 0] (.cons false (.op .list (.cons false (.x 2) .nil)) (.cons false (.x 1) .nil))) .nil)))))) q_law_right_4.t2b5
def q_law_right_4.t2b3 : ISs := .cons (.asg true 10 (.lst (.cons false (.ite (.x 9) (.op .idx (.cons false (.x 4) (.cons false (.op .neg (.cons false (.c (.int 1)) .nil)) .nil))) (.lst (.cons false (.c (.str "can not")) (.cons false (.c (.bool true)) .nil)))) (.cons false (.ite (.x 9) (.op .tuple (.cons false (.x 4) .nil)) (.lst (.cons false (.c (.str "can not")) (.cons false (.c (.bool true)) .nil)))) (.cons false (.x 5) .nil))))) q_law_right_4.t2b4
def q_law_right_4.t2b2 : ISs := .cons (.asg true 9 (.op .isN (.cons false (.x 5) (.cons false (.c .none) .nil)))) q_law_right_4.t2b3
def q_law_right_4.t2b1 : ISs := .cons (.for_ (.inl [6, 7]) (.enum (.x 2)) q_law_right_4.t2b1b0) q_law_right_4.t2b2
def q_law_right_4.t2b0 : ISs := .cons (.par [4, 5] (.cons false (.lst (.cons false (.x 1) .nil)) (.cons true (.c .none) .nil))) q_law_right_4.t2b1
def q_law_right_4.t3 : ISs := .cons (.ret (.call 27 (.cons false (.lst (.cons false (.call 19 (.cons false (.tup .nil) (.cons false (.tup .nil) .nil))) (.cons false (.call 21 (.cons false (.tup .nil) (.cons false (.tup .nil) .nil))) (.cons false (.call 20 (.cons false (.tup .nil) (.cons false (.tup .nil) .nil))) (.cons false (.call 20 (.cons false (.tup .nil) (.cons false (.tup (.cons false (.tup .nil) .nil)) .nil))) (.cons false (.call 20 (.cons false (.tup (.cons false (.tup .nil) (.cons false (.tup .nil) .nil))) (.cons false (.tup (.cons false (.tup (.cons false (.c (.int 0)) (.cons false (.c (.int 0)) .nil))) .nil)) .nil))) .nil)))))) (.cons false (.lst (.cons false (.tup .nil) (.cons false (.tup (.cons false (.tup .nil) .nil)) (.cons false (.c .none) (.cons false (.c (.int 0)) (.cons false (.c (.int 0)) .nil)))))) .nil)))) .nil
def q_law_right_4.t2 : ISs := .cons (.for_ (.inr 3) (.range (.cons false (.c (.int 3)) .nil)) q_law_right_4.t2b0) q_law_right_4.t3
def q_law_right_4.t1 : ISs := .cons (.asg true 2 (.call 36 (.cons true (.x 0) (.cons false (.x 1) (.cons false (.call 23 (.cons true (.x 0) (.cons false (.c (.int 7)) .nil))) .nil))))) q_law_right_4.t2
def q_law_right_4.t0 : ISs := .cons (.asg true 1 (.call 30 (.cons true (.x 0) (.cons false (.op .add (.cons false (.c (.int 1)) (.cons false (.call 23 (.cons true (.x 0) (.cons false (.c (.int 7)) .nil))) .nil))) .nil)))) q_law_right_4.t1
theorem q_law_right_4_eq : q_law_right_4 30 23 36 34 37 26 20 27 19 21 11 29 18 25 = q_law_right_4.t0 := rfl
end Pv
-- PvQcDr
set_option maxRecDepth 100000
namespace Pv
open PySem L2
def q_drawnP.t1b0c0 (f0 f1 f2 : Nat) : IE := .lc [6] (.inr 6) (.seq (.call f0 (.cons false (.x 1) .nil))) (.cons false (.op .le (.cons false (.call f1 (.cons false (.op .idx (.cons false (.x 6) (.cons false (.c (.int 1)) .nil))) .nil)) (.cons false (.c (.int 12)) .nil))) .nil) (.x 6)
@[simp] theorem q_drawnP.t1b0c0_x (f0 f1 f2 : Nat) : (q_drawnP.t1b0c0 f0 f1 f2).isX = none := rfl
def q_drawnP.t1b1a1 (f0 f1 f2 : Nat) : ISs := .cons (.ap 3 (.x 7)) .nil
def q_drawnP.t1b1a0 (f0 f1 f2 : Nat) : ISs := .cons (.unp [7, 1] (.call f2 (.cons true (.x 0) (.cons false (.x 5) .nil)))) (q_drawnP.t1b1a1 f0 f1 f2)
def q_drawnP.t1b1 (f0 f1 f2 : Nat) : ISs := .cons (.ite (.op .ne (.cons false (.x 5) (.cons false (.lst .nil) .nil))) (q_drawnP.t1b1a0 f0 f1 f2) .nil) .nil
def q_drawnP.t1b0 (f0 f1 f2 : Nat) : ISs := .cons (.asg true 5 (q_drawnP.t1b0c0 f0 f1 f2)) (q_drawnP.t1b1 f0 f1 f2)
def q_drawnP.t2 (f0 f1 f2 : Nat) : ISs := .cons (.ret (.op .tuple (.cons false (.x 3) .nil))) .nil
def q_drawnP.t1 (f0 f1 f2 : Nat) : ISs := .cons (.for_ (.inr 4) (.range (.cons false (.x 2) .nil)) (q_drawnP.t1b0 f0 f1 f2)) (q_drawnP.t2 f0 f1 f2)
def q_drawnP.t0 (f0 f1 f2 : Nat) : ISs := .cons (.asg false 3 (.lst .nil)) (q_drawnP.t1 f0 f1 f2)
theorem q_drawnP_eq (f0 f1 f2 : Nat) : q_law_drawn_row f0 f1 f2 = (q_drawnP.t0 f0 f1 f2) := rfl
end Pv
-- PvBushLaw3
set_option maxRecDepth 100000
namespace Pv
open PySem L2
theorem slice_to {xs : List PV} {j : Nat} : slicef (.list xs) none (some (j : Int)) = some (.ml (xs.take j)) := by
  simp only [slicef, cutP, HT.sIx_none, HT.sIx_nat, List.drop_zero, Nat.sub_zero]
  congr 2
  rw [List.take_eq_take_iff]
  omega
theorem slice_from {xs : List PV} {j : Nat} : slicef (.list xs) (some (j : Int)) none = some (.ml (xs.drop j)) := by
  simp only [slicef, cutP, HT.sIx_none, HT.sIx_nat]
  congr 2
  by_cases h : j ≤ xs.length
  · rw [Nat.min_eq_left h, List.take_of_length_le (by rw [List.length_drop]; exact Nat.le_refl _)]
  · rw [List.drop_eq_nil_of_le (as := xs) (i := j) (by omega), List.drop_eq_nil_of_le (by omega), List.take_nil]
theorem idx_nat {xs : List PV} {j : Nat} (h : j < xs.length) : idxf (.list xs) (.int (j : Int)) = some (.v xs[j]) := by
  have : (j : Int) < xs.length := by omega
  simp only [idxf, atI, ixN]
  rw [if_pos (by omega), if_pos this]
  simp [h]
theorem split2 {bs : List Bush} {j : Nat} (h : j + 1 < bs.length) : bs = bs.take j ++ (bs[j] :: bs[j + 1] :: bs.drop (j + 2)) := by
  have h1 : bs.drop j = bs[j] :: bs.drop (j + 1) := List.drop_eq_getElem_cons (by omega)
  have h2 : bs.drop (j + 1) = bs[j + 1] :: bs.drop (j + 2) := List.drop_eq_getElem_cons (by omega)
  rw [← h2, ← h1, List.take_append_drop]
theorem net_loop {T : Nat → Option FD} {t : Nat} (ht : T t = some ⟨2, 6, [0], q_law_take⟩) (k : Nat) {B : Int} {o1 : Option Ob} : ∀ (ds : List PV) (bs : List Bush) (A C : Int) (o3 o4 : Option Ob), bs.length = ds.length + 1 → bs.length ≤ 100000 → 0 ≤ A → 0 ≤ C → C + ds.length < 1000000000 →
    ∃ (b : Bush) (A' C' : Int) (o3' o4' : Option Ob), forL (forT (runF T (k + 1)) [0] (.inr 3) (.cons (.asg true 4 (.call t (.cons true (.x 0) (.cons false (.op .sub (.cons false (.op .len (.cons false (.x 2) .nil)) (.cons false (.c (.int 1)) .nil))) .nil))))
      (.cons (.asg true 2 (.op .add (.cons false (.op .add (.cons false (.op (.slice false true) (.cons false (.x 2) (.cons false (.x 4) .nil))) (.cons false (.lst (.cons false (.tup (.cons false (.op .idx (.cons false (.x 2) (.cons false (.x 4) .nil))) (.cons false (.op .idx (.cons false (.x 2) (.cons false (.op .add (.cons false (.x 4) (.cons false (.c (.int 1)) .nil))) .nil))) .nil))) .nil)) .nil))) (.cons false (.op (.slice true false) (.cons false (.x 2) (.cons false (.op .add (.cons false (.x 4) (.cons false (.c (.int 2)) .nil))) .nil))) .nil)))) .nil))) ds
      [some (.ml (tin A B C)), o1, some (.v (.list (bs.map Bush.enc))), o3, o4] = .ok .nx [some (.ml (tin A' B C')), o1, some (.v (.list [b.enc])), o3', o4'] ∧ b.leaves = sumL bs ∧ 0 ≤ A' ∧ C ≤ C' ∧ C' ≤ C + ds.length
  | [], bs, A, C, o3, o4, hl, _, hA, hC, _ => by
    match bs, hl with
    | [b], _ => exact ⟨b, A, C, o3, o4, by simp [forL], by simp [sumL], hA, by omega, by simp⟩
  | d :: ds, bs, A, C, o3, o4, hl, hl2, hA, hC, hC2 => by
    rw [List.length_cons] at hl hC2
    obtain ⟨v, A1, C1, hr, hv0, hv1, hA1, hC1, hC1'⟩ := take_spec ht k (A := A) (B := B) (C := C) (n := (bs.length : Int) - 1) ⟨hA, hC, by omega⟩ (by omega) (by omega)
    obtain ⟨j, rfl⟩ : ∃ j : Nat, v = j := ⟨v.toNat, by omega⟩
    have hj : j + 1 < bs.length := by omega
    have hsp := split2 hj
    have hlen : (bs.take j ++ Bush.nd bs[j] bs[j + 1] :: bs.drop (j + 2)).length = ds.length + 1 := by
      rw [List.length_append, List.length_cons, List.length_take, List.length_drop]; omega
    have hsum : sumL (bs.take j ++ Bush.nd bs[j] bs[j + 1] :: bs.drop (j + 2)) = sumL bs := by
      have e := congrArg sumL hsp
      simp only [sumL, List.map_append, List.map_cons, List.sum_append, List.sum_cons, Bush.leaves] at e ⊢
      omega
    obtain ⟨b, A', C', o3', o4', h', hb, hA', hC', hC''⟩ := net_loop ht k (B := B) (o1 := o1) ds (bs.take j ++ Bush.nd bs[j] bs[j + 1] :: bs.drop (j + 2)) A1 C1 (some (.v d)) (some (.v (.int j))) hlen (by omega) hA1 (by omega) (by omega)
    refine ⟨b, A', C', o3', o4', ?_, by rw [hb, hsum], hA', by omega, by rw [List.length_cons]; omega⟩
    rw [forL, ← h']
    have i0 : idxf (.list (bs.map Bush.enc)) (.int (j : Int)) = some (.v bs[j].enc) := by rw [idx_nat (by simp; omega)]; simp
    have i1 : idxf (.list (bs.map Bush.enc)) (.int ((j : Int) + 1)) = some (.v bs[j + 1].enc) := by
      rw [show ((j : Int) + 1) = ((j + 1 : Nat) : Int) by omega, idx_nat (by simp; omega)]; simp
    have s0 : slicef (.list (bs.map Bush.enc)) none (some (j : Int)) = some (.ml ((bs.map Bush.enc).take j)) := slice_to
    have s1 : slicef (.list (bs.map Bush.enc)) (some ((j : Int) + 2)) none = some (.ml ((bs.map Bush.enc).drop (j + 2))) := by
      rw [show ((j : Int) + 2) = ((j + 2 : Nat) : Int) by omega, slice_from]
    have l1 : min j bs.length + 1 ≤ 16777216 := by omega
    have l2 : min j bs.length + 1 + (bs.length - (j + 2)) ≤ 16777216 := by omega
    simp [forT, setTg, free, opf1, opf2, lenf, vI, subf, hr, handsOk, ioNames, putBack, bInt, i0, i1, s0, s1, addf, l1, l2, Bush.enc, ← List.map_take, ← List.map_drop]
theorem flat_rep {x : PV} : ∀ m : Nat, (List.replicate m [x]).flatten = List.replicate m x
  | 0 => rfl
  | m + 1 => by rw [List.replicate_succ, List.replicate_succ, List.flatten_cons, flat_rep m]; rfl
theorem range_pred {m : Nat} (hm : 0 < m) (hm2 : m ≤ 1000) : rangeV [.int ((m : Int) - 1)] = some (rangeL 0 (m - 1) 1) := by
  have h1 : decide (-(2 ^ 62) ≤ (m : Int) - 1) = true := decide_eq_true (by omega)
  have h2 : decide ((m : Int) - 1 < 2 ^ 62) = true := decide_eq_true (by omega)
  have e : ((m : Int) - 1).toNat = m - 1 := by omega
  simp only [rangeV, h1, h2, Bool.and_self, if_true, e]
theorem mul_rep {m : Nat} (hm2 : m ≤ 1000) : mulf (.list [.tuple []]) (.int (m : Int)) = some (.ml (List.replicate m (.tuple []))) := by
  have h1 : decide (-(2 ^ 63) ≤ (m : Int)) = true := decide_eq_true (by omega)
  have h2 : decide ((m : Int) < 2 ^ 63) = true := decide_eq_true (by omega)
  have h3 : decide (1 * m ≤ lim) = true := decide_eq_true (by rw [lim_nat]; omega)
  simp only [mulf, List.length_singleton, Int.toNat_natCast, h1, h2, h3, Bool.and_self, if_true, flat_rep]
theorem net_args {cf : Nat → List Ob → CR} {m : Nat} {o0 o2 o3 o4 : Option Ob} : evA cf [0] (.cons false (.lst (.cons false (.tup .nil) .nil)) (.cons false (.x 1) .nil)) [o0, some (.v (.int m)), o2, o3, o4] = .ok [(false, .inr (.ml [.tuple []])), (false, .inl 1)] [o0, some (.v (.int m)), o2, o3, o4] := by
  simp
theorem net_op {a b : PV} {R : Option Ob} (h : mulf a b = R) : opf .mul [a, b] = R := h
theorem net_start {cf : Nat → List Ob → CR} {m : Nat} {o0 o2 o3 o4 : Option Ob} (hm2 : m ≤ 1000) : evS cf [0] (.asg true 2 (.op .mul (.cons false (.lst (.cons false (.tup .nil) .nil)) (.cons false (.x 1) .nil)))) [o0, some (.v (.int m)), o2, o3, o4] = .ok .nx [o0, some (.v (.int m)), some (.v (.list (List.replicate m (.tuple [])))), o3, o4] := by
  rw [y_asg, if_pos (by rfl), y_op, net_args, Rs.bind_ok]
  have e1 : resolve [o0, some (Ob.v (.int m)), o2, o3, o4] (List.map (fun x => x.2) [(false, Sum.inr (Ob.ml [PyData.tuple []])), (false, Sum.inl 1)]) = some [Ob.ml [PyData.tuple []], Ob.v (.int m)] := rfl
  have e2 : views [Ob.ml [PyData.tuple []], Ob.v (.int m)] = some [.list [.tuple []], .int m] := rfl
  rw [e1, Option.bind_some, e2, Option.bind_some, net_op (mul_rep hm2), optR_some, Rs.bind_ok]
  rfl
theorem net_fin {T : Nat → Option FD} {i t k : Nat} {A B C A' C' : Int} {b : Bush} {m : Int} {o3' o4' : Option Ob} (hT : T i = some ⟨2, 5, [0], q_law_net t⟩)
  (hs : evSs (runF T (k + 1)) [0] (q_law_net t) [some (.ml (tin A B C)), some (.v (.int m)), none, none, none] = .ok (.rt (.v b.enc)) [some (.ml (tin A' B C')), some (.v (.int m)), some (.v (.list [b.enc])), o3', o4']) :
  runF T (k + 1 + 1) i [.ml (tin A B C), .v (.int m)] = .ret (.v b.enc) [.ml (tin A' B C')] := by
  rw [y_run hT]
  have e1 : ([Ob.ml (tin A B C), Ob.v (.int m)].map some ++ List.replicate ((⟨2, 5, [0], q_law_net t⟩ : FD).ns - (⟨2, 5, [0], q_law_net t⟩ : FD).np) none) = [some (.ml (tin A B C)), some (.v (.int m)), none, none, none] := by simp
  have e2 : ([Ob.ml (tin A B C), Ob.v (.int m)].length == (⟨2, 5, [0], q_law_net t⟩ : FD).np && ioOk (⟨2, 5, [0], q_law_net t⟩ : FD).io 0 [Ob.ml (tin A B C), Ob.v (.int m)]) = true := by simp [ioOk]
  rw [if_pos e2, e1, hs]
  simp [outsOf]
theorem law_net_spec {T : Nat → Option FD} {i t : Nat} (hT : T i = some ⟨2, 5, [0], q_law_net t⟩) (ht : T t = some ⟨2, 6, [0], q_law_take⟩) (k : Nat) {A B C : Int} (m : Nat) (hm : 0 < m) (hm2 : m ≤ 1000) (hA : 0 ≤ A) (hC : 0 ≤ C) (hC2 : C + m < 1000000000) :
    ∃ (b : Bush) (A' C' : Int), runF T (k + 2) i [.ml (tin A B C), .v (.int m)] = .ret (.v b.enc) [.ml (tin A' B C')] ∧ b.leaves = m ∧ 0 ≤ A' ∧ C ≤ C' ∧ C' ≤ C + m := by
  have hds : (rangeL 0 (m - 1) 1).length = m - 1 := rangeL_length
  obtain ⟨b, A', C', o3', o4', h', hb, hA', hC', hC''⟩ := net_loop ht k (B := B) (o1 := some (.v (.int m))) (rangeL 0 (m - 1) 1) (List.replicate m .lf) A C none none (by rw [hds, List.length_replicate]; omega) (by rw [List.length_replicate]; omega) hA hC (by rw [hds]; omega)
  have hsum : sumL (List.replicate m Bush.lf) = m := by
    simp only [sumL, List.map_replicate, Bush.leaves]
    clear h' hb hC'' hC' hds hm hm2 hC2
    induction m with
    | zero => rfl
    | succ m ih => rw [List.replicate_succ, List.sum_cons, ih]; omega
  refine ⟨b, A', C', ?_, by rw [hb, hsum], hA', hC', by rw [hds] at hC''; omega⟩
  have hr := range_pred hm hm2
  simp only [List.map_replicate, Bush.enc] at h'
  have hs : evSs (runF T (k + 1)) [0] (q_law_net t) [some (.ml (tin A B C)), some (.v (.int m)), none, none, none] = .ok (.rt (.v b.enc)) [some (.ml (tin A' B C')), some (.v (.int m)), some (.v (.list [b.enc])), o3', o4'] := by
    rw [q_law_net, y_ss1, net_start hm2, Rs.bind_ok]
    simp [free, freeTg, opf2, subf, vI, hr, h', idxf, atI, ixN]
  exact net_fin hT hs
end Pv
-- PvDrw
set_option maxRecDepth 100000
set_option maxHeartbeats 1000000
namespace Pv
open PySem L2
open Bush
/-- moves in a row, none of them to more than twelve leaves -/
def drn : List Pl → Bush → Option Bush
  | [], b => some b
  | p :: ps, b => match b.mv p with
    | some c => if c.leaves ≤ 12 then drn ps c else none
    | none => none
theorem drn_go : ∀ {ps : List Pl} {b c : Bush}, drn ps b = some c → b.go ps = some c
  | [], b, c, h => h
  | p :: ps, b, c, h => by
    rw [drn] at h
    rw [go]
    cases e : b.mv p with
    | none => rw [e] at h; cases h
    | some d =>
      rw [e] at h
      simp only at h
      split at h
      · exact drn_go h
      · cases h
theorem drn_one {p : Pl} {ps : List Pl} {b c : Bush} (h : b.mv p = some c) (h2 : c.leaves ≤ 12) : drn (p :: ps) b = drn ps c := by
  rw [drn, h]
  simp only [h2, if_true]
theorem drn_leaves : ∀ {ps : List Pl} {b c : Bush}, drn ps b = some c → c.leaves ≤ max b.leaves 12
  | [], b, c, h => by cases h; omega
  | p :: ps, b, c, h => by
    rw [drn] at h
    cases e : b.mv p with
    | none => rw [e] at h; cases h
    | some d =>
      rw [e] at h
      simp only at h
      split at h
      · have := drn_leaves h; omega
      · cases h
theorem mv_leaves : ∀ {b c : Bush} {p : Pl}, b.mv p = some c → b.leaves < c.leaves ∧ c.leaves ≤ 2 * b.leaves
  | .lf, c, p, h => by cases p <;> cases h
  | .nd a b, c, [], h => by
    rw [mv_nil] at h
    match b, h with
    | .nd x y, h =>
      cases h
      have := height_lt a
      simp only [Bush.leaves]; omega
  | .nd a b, c, false :: p, h => by
    rw [mv_f] at h
    cases e : a.mv p with
    | none => rw [e] at h; cases h
    | some d =>
      rw [e] at h
      cases h
      have := mv_leaves e
      simp only [Bush.leaves]; omega
  | .nd a b, c, true :: p, h => by
    rw [mv_t] at h
    cases e : b.mv p with
    | none => rw [e] at h; cases h
    | some d =>
      rw [e] at h
      cases h
      have := mv_leaves e
      simp only [Bush.leaves]; omega
theorem mv_hle : ∀ {b c : Bush} {p : Pl}, b.mv p = some c → b.height ≤ c.height
  | .lf, c, p, h => by cases p <;> cases h
  | .nd a b, c, [], h => by
    rw [mv_nil] at h
    match b, h with
    | .nd x y, h =>
      cases h
      simp only [Bush.height]; omega
  | .nd a b, c, false :: p, h => by
    rw [mv_f] at h
    cases e : a.mv p with
    | none => rw [e] at h; cases h
    | some d =>
      rw [e] at h
      cases h
      have := mv_hle e
      simp only [Bush.height]; omega
  | .nd a b, c, true :: p, h => by
    rw [mv_t] at h
    cases e : b.mv p with
    | none => rw [e] at h; cases h
    | some d =>
      rw [e] at h
      cases h
      have := mv_hle e
      simp only [Bush.height]; omega
theorem go_hle : ∀ {ps : List Pl} {b c : Bush}, b.go ps = some c → b.height ≤ c.height
  | [], b, c, h => by cases h; omega
  | p :: ps, b, c, h => by
    rw [go] at h
    cases e : b.mv p with
    | none => rw [e] at h; cases h
    | some d =>
      rw [e] at h
      have h1 := mv_hle e
      have h2 := go_hle (b := d) h
      omega
/-- the moves that there are, with what comes of each -/
def goodL (b : Bush) : List (Pl × Bush) := b.places.filterMap fun p => (b.mv p).map fun c => (p, c)
abbrev encG (x : Pl × Bush) : PV := .tuple [encP x.1, x.2.enc]
theorem goodL_stp (b : Bush) : b.places.filterMap (stp b) = (goodL b).map encG := by
  rw [goodL, List.map_filterMap]
  congr 1
  funext p
  unfold stp
  cases b.mv p <;> rfl
theorem goodL_len (b : Bush) : (goodL b).length ≤ b.places.length := List.length_filterMap_le ..
theorem goodL_mv {b : Bush} {x : Pl × Bush} (h : x ∈ goodL b) : b.mv x.1 = some x.2 := by
  obtain ⟨q, hq, e⟩ := List.mem_filterMap.mp h
  cases hm : b.mv q with
  | none => rw [hm] at e; cases e
  | some c =>
    rw [hm] at e
    cases e
    exact hm
theorem mv_plen {b c : Bush} {p : Pl} (h : b.mv p = some c) : p.length + 2 ≤ b.height := by
  rw [mv_at] at h
  cases e : b.at_ p with
  | none => rw [e] at h; cases h
  | some x =>
    rw [e, Option.bind_some] at h
    have h1 : ∀ {b c : Bush} {p : Pl}, b.at_ p = some c → p.length + c.height ≤ b.height := by
      intro b
      induction b with
      | lf =>
        intro c p h
        cases p with
        | nil => cases h; simp
        | cons x p => cases h
      | nd a b iha ihb =>
        intro c p h
        cases p with
        | nil => cases h; simp
        | cons x p =>
          rw [Bush.at_] at h
          rw [List.length_cons, Bush.height]
          cases x
          · have := iha (c := c) (p := p) h; omega
          · have := ihb (c := c) (p := p) h; omega
    have h2 := h1 e
    match x, h, h2 with
    | .nd a (.nd y z), h, h2 =>
      simp only [Bush.height] at h2
      omega
theorem enc_fzB (b : Bush) : (Ob.v b.enc).frozen = .v b.enc := by cases b <;> rfl
theorem encG_nice : ∀ l : List (Pl × Bush), (∀ x ∈ l, x.1.length ≤ 100000) → niceA (l.map encG) = true
  | [], _ => rfl
  | x :: l, h => by
    rw [List.map_cons, niceA, encG_nice l fun y hy => h y (by simp [hy])]
    have h1 : nice (encP x.1) = true := encP_nice (by have := h x (by simp); omega)
    have h2 : nice x.2.enc = true := enc_nice x.2
    have h3 : nice (encG x) = true := by rw [encG, nice, niceA, niceA, niceA, h1, h2]; rfl
    rw [h3]; rfl
section
variable {T : Nat → Option FD} {spo par put mov : Nat} (F : LmFns T spo par put mov)
include F
variable {i st lf ov tk : Nat} (hst : T st = some ⟨1, 4, [], q_law_steps spo mov⟩) (hlf : T lf = some ⟨1, 4, [], q_law_leafs⟩) (hov : T ov = some ⟨2, 2, [0], q_law_of tk⟩) (htk : T tk = some ⟨2, 6, [0], q_law_take⟩)
include hst hlf hov htk
theorem dr_turn (k : Nat) (hk : 20 ≤ k) {b : Bush} (hb : b.leaves ≤ 400) (hh : b.height ≤ 14) {acc : List Pl} {A B C : Int} (hA : 0 ≤ A) (hC : 0 ≤ C) (hC2 : C < 100000000) (ha : acc.length < 1000) {d : PV} {o2 o4 o5 o7 : Option Ob} :
    ∃ (c : Bush) (ps : List Pl) (A' C' : Int) (f5 f7 : Option Ob), drn ps b = some c ∧ ps.length ≤ 1 ∧ 0 ≤ A' ∧ C ≤ C' ∧ C' ≤ C + 1 ∧
      forT (runF T k) [0] (.inr 4) (q_drawnP.t1b0 st lf ov) d [some (.ml (tin A B C)), some (.v b.enc), o2, some (.ml (acc.map encP)), o4, o5, none, o7] =
        .ok .nx [some (.ml (tin A' B C')), some (.v c.enc), o2, some (.ml ((acc ++ ps).map encP)), some (.v d), f5, none, f7] := by
  have hp := places_len b
  have hg := goodL_len b
  have r1 := law_steps_spec F hst b (by omega) k (by omega)
  rw [goodL_stp] at r1
  have c1 : evE (runF T k) [0] (q_drawnP.t1b0c0 st lf ov) [some (.ml (tin A B C)), some (.v b.enc), o2, some (.ml (acc.map encP)), some (.v d), o5, none, o7] = .ok (.ml (((goodL b).filter fun x => decide (x.2.leaves ≤ 12)).map encG)) [some (.ml (tin A B C)), some (.v b.enc), o2, some (.ml (acc.map encP)), some (.v d), o5, none, o7] :=
    lc_fmQ encG (fun x => decide (x.2.leaves ≤ 12)) (fun x => .v (encG x)) encG (by rfl) (by simp [r1, handsOk, ioNames, putBack, itemsOf]) rfl (by rw [lim_nat]; omega) fun x hx => ⟨_, rfl, rfl, by
      have hm := goodL_mv hx
      have h2 := mv_leaves hm
      obtain ⟨j, hj⟩ : ∃ j, k = j + 1 := ⟨k - 1, by omega⟩
      have r2 := leafs_spec hlf j x.2 (by omega)
      rw [← hj] at r2
      have i1 : opf2 .idx (encG x) (.int 1) = some (.v x.2.enc) := rfl
      have l1 : opf2 .le (.int (x.2.leaves : Int)) (.int 12) = some (.v (.bool (decide (x.2.leaves ≤ 12)))) := by
        rw [i_le]
        congr 3
        by_cases h : x.2.leaves ≤ 12
        · rw [decide_eq_true h, decide_eq_true (by omega)]
        · rw [decide_eq_false h, decide_eq_false (by omega)]
      generalize (x.2.leaves : Int) = n at r2 l1
      simp [i1, r2, l1, enc_fzB, handsOk, ioNames, putBack], fun _ => ⟨by simp, fun env => rfl⟩⟩
  rw [forT]
  simp only [setTg, List.set]
  rw [q_drawnP.t1b0, st_asgQ (o := .ml (((goodL b).filter fun x => decide (x.2.leaves ≤ 12)).map encG)) (env'' := [some (.ml (tin A B C)), some (.v b.enc), o2, some (.ml (acc.map encP)), some (.v d), some (.v (.list (((goodL b).filter fun x => decide (x.2.leaves ≤ 12)).map encG))), none, o7]) rfl c1 rfl]
  have hmem : ∀ x ∈ (goodL b).filter (fun x => decide (x.2.leaves ≤ 12)), b.mv x.1 = some x.2 ∧ x.2.leaves ≤ 12 := fun x hx => by
    obtain ⟨h1, h2⟩ := List.mem_filter.mp hx
    exact ⟨goodL_mv h1, of_decide_eq_true h2⟩
  have hlen : ((goodL b).filter (fun x => decide (x.2.leaves ≤ 12))).length ≤ (goodL b).length := List.length_filter_le ..
  generalize (goodL b).filter (fun x => decide (x.2.leaves ≤ 12)) = gs at hmem hlen ⊢
  match gs, hmem, hlen with
  | [], _, _ =>
    have n1 : opf2 .ne (.list []) (.list []) = some (.v (.bool false)) := rfl
    refine ⟨b, [], A, C, some (.v (.list [])), o7, rfl, by simp, hA, by omega, by omega, ?_⟩
    rw [q_drawnP.t1b1, st_skipQ (by simp [n1]) (y_ss0 ..), y_ss0, List.append_nil]
    rfl
  | g :: gs, hmem, hlen =>
    obtain ⟨j, rfl⟩ : ∃ j, k = j + 2 := ⟨k - 2, by omega⟩
    obtain ⟨x1, A1, C1, hx1, r3, a1, c1', c1''⟩ := law_of_spec hov htk j (A := A) (B := B) (C := C) ⟨hA, hC, by omega⟩ ((g :: gs).map encG) (by simp) (by rw [List.length_map]; omega) (encG_nice _ fun x hx => by have := mv_plen (hmem x hx).1; omega)
    obtain ⟨x, hx, rfl⟩ := List.mem_map.mp hx1
    obtain ⟨m1, m2⟩ := hmem x hx
    have n1 : nef (.list ((g :: gs).map encG)) (.list []) = some true := by
      have : eqOk (.list ((g :: gs).map encG)) (.list []) = true := by simp [eqOk, isD, PyData.depth, PyData.depthAll]
      rw [nef, if_pos this]; simp [PyData.eqv, PyData.eqvAll]
    refine ⟨x.2, [x.1], A1, C1, some (.v (.list ((g :: gs).map encG))), some (.v (encP x.1)), by rw [drn_one m1 m2]; rfl, by simp, a1, c1', c1'', ?_⟩
    have hl : acc.length < 16777216 := by omega
    have e1 : evT (runF T (j + 2)) [0] (.op .ne (.cons false (.x 5) (.cons false (.lst .nil) .nil))) [some (.ml (tin A B C)), some (.v b.enc), o2, some (.ml (acc.map encP)), some (.v d), some (.v (.list ((g :: gs).map encG))), none, o7] = .ok true [some (.ml (tin A B C)), some (.v b.enc), o2, some (.ml (acc.map encP)), some (.v d), some (.v (.list ((g :: gs).map encG))), none, o7] := by
      generalize (g :: gs).map encG = L at n1
      simp [o_nei n1]
    rw [q_drawnP.t1b1, st_then (env2 := [some (.ml (tin A1 B C1)), some (.v x.2.enc), o2, some (.ml ((acc ++ [x.1]).map encP)), some (.v d), some (.v (.list ((g :: gs).map encG))), none, some (.v (encP x.1))]) e1 ?_, y_ss0]
    generalize (g :: gs).map encG = L at r3
    rw [q_drawnP.t1b1a0]
    simp [r3, handsOk, ioNames, putBack, free, setTgs, q_drawnP.t1b1a1, isMl, hl]
theorem dr_loop (k : Nat) (hk : 20 ≤ k) {B : Int} {o2 : Option Ob} : ∀ (ds : List PV) (b : Bush) (acc : List Pl) (A C : Int) (o4 o5 o7 : Option Ob), b.leaves ≤ 400 → b.height ≤ 14 → acc.length + ds.length ≤ 1000 → 0 ≤ A → 0 ≤ C → C + ds.length < 100000000 →
    ∃ (c : Bush) (ps : List Pl) (A' C' : Int) (f4 f5 f7 : Option Ob), drn ps b = some c ∧ ps.length ≤ ds.length ∧ 0 ≤ A' ∧ C ≤ C' ∧ C' ≤ C + ds.length ∧
      forL (forT (runF T k) [0] (.inr 4) (q_drawnP.t1b0 st lf ov)) ds [some (.ml (tin A B C)), some (.v b.enc), o2, some (.ml (acc.map encP)), o4, o5, none, o7] =
        .ok .nx [some (.ml (tin A' B C')), some (.v c.enc), o2, some (.ml ((acc ++ ps).map encP)), f4, f5, none, f7]
  | [], b, acc, A, C, o4, o5, o7, hb, hh, hl, hA, hC, hC2 => ⟨b, [], A, C, o4, o5, o7, rfl, by simp, hA, by omega, by simp, by rw [forL, List.append_nil]⟩
  | d :: ds, b, acc, A, C, o4, o5, o7, hb, hh, hl, hA, hC, hC2 => by
    rw [List.length_cons] at hl hC2
    obtain ⟨c, ps, A1, C1, f5, f7, h1, h2, a1, c1, c2, h3⟩ := dr_turn F hst hlf hov htk k hk hb hh (acc := acc) (B := B) hA hC (by omega) (by omega) (d := d) (o2 := o2) (o4 := o4) (o5 := o5) (o7 := o7)
    have lc : c.leaves ≤ 400 ∧ c.height ≤ 14 := by
      match ps, h1, h2 with
      | [], h1, _ => cases h1; exact ⟨hb, hh⟩
      | [p], h1, _ =>
        have := height_lt c
        rw [drn] at h1
        cases e : b.mv p with
        | none => rw [e] at h1; cases h1
        | some x =>
          rw [e] at h1
          simp only at h1
          split at h1
          · cases h1
            omega
          · cases h1
    obtain ⟨c', ps', A2, C2, f4, f5', f7', g1, g2, a2, c3, c4, g3⟩ := dr_loop k hk ds c (acc ++ ps) A1 C1 (some (.v d)) f5 f7 lc.1 lc.2 (by rw [List.length_append]; omega) a1 (by omega) (by omega)
    refine ⟨c', ps ++ ps', A2, C2, f4, f5', f7', ?_, by rw [List.length_append, List.length_cons]; omega, a2, by omega, by rw [List.length_cons]; omega, ?_⟩
    · match ps, h1, h2 with
      | [], h1, _ => cases h1; exact g1
      | [p], h1, _ =>
        rw [drn] at h1
        rw [List.singleton_append, drn]
        cases e : b.mv p with
        | none => rw [e] at h1; cases h1
        | some x =>
          rw [e] at h1
          simp only at h1 ⊢
          split at h1
          · rename_i h12
            cases h1
            rw [if_pos h12]
            exact g1
          · cases h1
    · rw [forL, h3, Rs.bind_ok]
      simp only
      rw [g3, List.append_assoc]
theorem drawn_row_spec (hT : T i = some ⟨3, 8, [0], q_law_drawn_row st lf ov⟩) (k : Nat) (hk : 20 ≤ k) {b : Bush} (hb : b.leaves ≤ 400) (hh : b.height ≤ 14) {A B C : Int} (hA : 0 ≤ A) (hC : 0 ≤ C) (n : Nat) {N : Int} (hN : N = n) (hn : n ≤ 100) (hC2 : C + n < 100000000) :
    ∃ (c : Bush) (ps : List Pl) (A' C' : Int), drn ps b = some c ∧ ps.length ≤ n ∧ 0 ≤ A' ∧ C ≤ C' ∧ C' ≤ C + n ∧
      runF T (k + 1) i [.ml (tin A B C), .v b.enc, .v (.int N)] = .ret (.v (encR ps)) [.ml (tin A' B C')] := by
  have hr : rangeV [.int N] = some (rangeL 0 n 1) := by
    subst hN
    have h1 : decide (-(2 ^ 62) ≤ (n : Int)) = true := decide_eq_true (by omega)
    have h2 : decide ((n : Int) < 2 ^ 62) = true := decide_eq_true (by omega)
    simp only [rangeV, h1, h2, Bool.and_self, if_true, Int.toNat_natCast]
  have hl : (rangeL 0 n 1).length = n := rangeL_length
  obtain ⟨c, ps, A1, C1, f4, f5, f7, h1, h2, a1, c1, c2, h3⟩ := dr_loop F hst hlf hov htk k hk (B := B) (o2 := some (.v (.int N))) (rangeL 0 n 1) b [] A C none none none hb hh (by rw [hl]; simp; omega) hA hC (by rw [hl]; omega)
  rw [hl] at h2 c2
  simp only [List.map_nil, List.nil_append] at h3
  refine ⟨c, ps, A1, C1, h1, h2, a1, c1, c2, ?_⟩
  clear hl
  generalize rangeL 0 n 1 = ds at hr h3
  have t1 : opf1 .tuple (.list (ps.map encP)) = some (.v (encR ps)) := rfl
  clear hN hC2 c2
  have hs : evSs (runF T k) [0] (q_drawnP.t0 st lf ov) [some (.ml (tin A B C)), some (.v b.enc), some (.v (.int N)), none, none, none, none, none] = .ok (.rt (.v (encR ps))) [some (.ml (tin A1 B C1)), some (.v c.enc), some (.v (.int N)), some (.ml (ps.map encP)), f4, f5, none, f7] := by
    rw [q_drawnP.t0, st_asgQ (o := .ml []) (env'' := [some (.ml (tin A B C)), some (.v b.enc), some (.v (.int N)), some (.ml []), none, none, none, none]) rfl (by simp) rfl, q_drawnP.t1,
      st_for (env' := [some (.ml (tin A B C)), some (.v b.enc), some (.v (.int N)), some (.ml []), none, none, none, none]) (ds := ds) rfl (by simp [hr]) h3, q_drawnP.t2]
    simp [t1]
  rw [← q_drawnP_eq] at hs
  have e2 : ([Ob.ml (tin A B C), .v b.enc, .v (.int N)].length == 3 && ioOk [0] 0 [Ob.ml (tin A B C), .v b.enc, .v (.int N)]) = true := rfl
  rw [y_run hT, if_pos e2]
  have e1 : ([Ob.ml (tin A B C), .v b.enc, .v (.int N)].map some ++ List.replicate (8 - 3) none) = [some (.ml (tin A B C)), some (.v b.enc), some (.v (.int N)), none, none, none, none, none] := rfl
  simp only [e1, hs]
  simp [outsOf]
end
end Pv
-- PvTbl
set_option maxRecDepth 100000
namespace Pv
open PySem L2
/-- the entry of a row that is done again and again -/
def atR (r : List Nat) (c : Nat) : Nat := r.getD ((c - 1) % r.length) 0
def chain (f : Nat → Nat) (N : Nat) : Nat → Nat → List Nat
  | 0, x => [x]
  | k + 1, x => x :: (if x = N then [] else chain f N k (f x))
def upTo (N : Nat) : List Nat := (List.range N).map (· + 1)
def newRow (L : List (List Nat)) (N a : Nat) : List Nat := chain (fun x => atR (L.getD x []) (a + 1)) N N (a + 1)
def rowsA (N : Nat) : Nat → List (List Nat)
  | 0 => List.replicate N [] ++ [upTo N]
  | k + 1 => (rowsA N k).set (N - k - 1) (newRow (rowsA N k) N (N - k - 1))
def rowsL (N : Nat) : List (List Nat) := rowsA N (N - 1)
def R (N x : Nat) : List Nat := (rowsL N).getD x []
def F (N x c : Nat) : Nat := atR (R N x) c
theorem rowsA_length (N : Nat) : ∀ k, (rowsA N k).length = N + 1
  | 0 => by simp [rowsA]
  | k + 1 => by rw [rowsA, List.length_set, rowsA_length N k]
theorem getD_set_ne {α : Type} {l : List α} {i j : Nat} {v d : α} (h : i ≠ j) : (l.set i v).getD j d = l.getD j d := by
  simp [List.getD, List.getElem?_set_ne h]
theorem rowsA_stable {N x k : Nat} (hx : N - k ≤ x) : ∀ m, k ≤ m → m ≤ N - 1 → (rowsA N m).getD x [] = (rowsA N k).getD x []
  | 0, h, _ => by rw [show k = 0 by omega]
  | m + 1, h, h2 => by
    by_cases e : k = m + 1
    · rw [e]
    · rw [rowsA, getD_set_ne (by omega), rowsA_stable hx m (by omega) (by omega)]
/-- what a chain is -/
structure Chain (f : Nat → Nat) (N x : Nat) (r : List Nat) : Prop where
  pos : 0 < r.length
  head : r.getD 0 0 = x
  last : r.getD (r.length - 1) 0 = N
  lo : ∀ e ∈ r, x ≤ e
  hi : ∀ e ∈ r, e ≤ N
  next : ∀ i, i + 1 < r.length → r.getD (i + 1) 0 = f (r.getD i 0)
  early : ∀ i, i + 1 < r.length → r.getD i 0 < N
theorem chain_spec {f : Nat → Nat} {N : Nat} : ∀ (k x : Nat), (∀ y, x ≤ y → y < N → y < f y ∧ f y ≤ N) → x ≤ N → N ≤ x + k → Chain f N x (chain f N k x)
  | 0, x, hf, hx, hk => by
    have : x = N := by omega
    subst this
    exact ⟨by simp [chain], rfl, rfl, by simp [chain], by simp [chain], by simp [chain], by simp [chain]⟩
  | k + 1, x, hf, hx, hk => by
    rw [chain]
    by_cases e : x = N
    · subst e
      rw [if_pos rfl]
      exact ⟨by simp, rfl, rfl, by simp, by simp, by simp, by simp⟩
    · rw [if_neg e]
      have h1 := hf x (Nat.le_refl _) (by omega)
      have ih := chain_spec (f := f) (N := N) k (f x) (fun y hy hy2 => hf y (by omega) hy2) h1.2 (by omega)
      generalize chain f N k (f x) = r at ih
      have hp := ih.pos
      refine ⟨by simp, rfl, ?_, ?_, ?_, ?_, ?_⟩
      · have := ih.last
        rw [List.length_cons, Nat.add_sub_cancel]
        obtain ⟨m, hm⟩ : ∃ m, r.length = m + 1 := ⟨r.length - 1, by omega⟩
        rw [hm] at this ⊢
        exact this
      · intro e he
        rcases List.mem_cons.mp he with e' | he
        · omega
        · have := ih.lo e he; omega
      · intro e he
        rcases List.mem_cons.mp he with e' | he
        · omega
        · exact ih.hi e he
      · intro i hi
        rw [List.length_cons] at hi
        cases i with
        | zero => exact ih.head
        | succ i => exact ih.next i (by omega)
      · intro i hi
        rw [List.length_cons] at hi
        cases i with
        | zero => show x < N; omega
        | succ i => exact ih.early i (by omega)
theorem chain_congr {f g : Nat → Nat} {N : Nat} : ∀ (k x : Nat), (∀ y, x ≤ y → y < N → f y = g y) → (∀ y, x ≤ y → y < N → y < g y ∧ g y ≤ N) → x ≤ N → chain f N k x = chain g N k x
  | 0, x, _, _, _ => rfl
  | k + 1, x, h, h2, hx => by
    rw [chain, chain]
    by_cases e : x = N
    · rw [if_pos e, if_pos e]
    · have h3 := h2 x (Nat.le_refl _) (by omega)
      rw [if_neg e, if_neg e, h x (Nat.le_refl _) (by omega), chain_congr k (g x) (fun y hy => h y (by omega)) (fun y hy => h2 y (by omega)) h3.2]
theorem upTo_getD {N c : Nat} (h : c < N) : (upTo N).getD c 0 = c + 1 := by
  simp [upTo, List.getD, h]
theorem upTo_length (N : Nat) : (upTo N).length = N := by simp [upTo]
theorem R_top {N : Nat} (h : 0 < N) : R N N = upTo N := by
  rw [R, rowsL, rowsA_stable (k := 0) (by omega) (N - 1) (by omega) (by omega), rowsA]
  simp [List.getD]
theorem F_top {N c : Nat} (h1 : 1 ≤ c) (h2 : c ≤ N) : F N N c = c := by
  rw [F, R_top (by omega), atR, upTo_length, Nat.mod_eq_of_lt (by omega), upTo_getD (by omega)]
  omega
theorem getD_mem {r : List Nat} {i : Nat} (h : i < r.length) : r.getD i 0 ∈ r := by
  rw [List.getD_eq_getElem?_getD, List.getElem?_eq_getElem h]
  exact List.getElem_mem h
/-- what a row is -/
structure Row (N a : Nat) : Prop where
  eq : R N a = chain (fun x => F N x (a + 1)) N N (a + 1)
  ch : Chain (fun x => F N x (a + 1)) N (a + 1) (R N a)
theorem atR_chain {f : Nat → Nat} {N x : Nat} {r : List Nat} (h : Chain f N x r) (c : Nat) : x ≤ atR r c ∧ atR r c ≤ N := by
  have hlt : (c - 1) % r.length < r.length := Nat.mod_lt _ h.pos
  have hm := getD_mem hlt
  exact ⟨h.lo _ hm, h.hi _ hm⟩
theorem row_spec {N : Nat} : ∀ (d a : Nat), a + d = N → 1 ≤ a → 1 ≤ d → Row N a
  | 0, a, _, _, h => by omega
  | d + 1, a, hd, ha, _ => by
    have step : ∀ y, a + 1 ≤ y → y < N → y < F N y (a + 1) ∧ F N y (a + 1) ≤ N := fun y hy hy2 => by
      have ih := row_spec (N := N) (N - y) y (by omega) (by omega) (by omega)
      have := atR_chain ih.ch (a + 1)
      rw [F]; omega
    have e : R N a = chain (fun x => F N x (a + 1)) N N (a + 1) := by
      rw [R, rowsL, rowsA_stable (k := N - a) (by omega) (N - 1) (by omega) (by omega)]
      obtain ⟨k, hk⟩ : ∃ k, N - a = k + 1 := ⟨N - a - 1, by omega⟩
      have hka : N - k - 1 = a := by omega
      rw [hk, rowsA, hka]
      have hl := rowsA_length N k
      have : ((rowsA N k).set a (newRow (rowsA N k) N a)).getD a [] = newRow (rowsA N k) N a := by
        simp [List.getD, List.getElem?_set_self (show a < (rowsA N k).length by omega)]
      rw [this, newRow]
      refine chain_congr N (a + 1) (fun y hy hy2 => ?_) (fun y hy hy2 => step y hy hy2) (by omega)
      rw [F, R, rowsL, rowsA_stable (k := k) (by omega) (N - 1) (by omega) (by omega)]
    exact ⟨e, by rw [e]; exact chain_spec N (a + 1) (fun y hy hy2 => step y hy hy2) (by omega) (by omega)⟩
theorem row_of {N a : Nat} (h1 : 1 ≤ a) (h2 : a < N) : Row N a := row_spec (N - a) a (by omega) h1 (by omega)
theorem F_lo {N a c : Nat} (h1 : 1 ≤ a) (h2 : a < N) : a < F N a c ∧ F N a c ≤ N := by
  have := atR_chain (row_of h1 h2).ch c
  rw [F]; omega
theorem F_one {N a : Nat} (h1 : 1 ≤ a) (h2 : a < N) : F N a 1 = a + 1 := by
  have h := (row_of h1 h2).ch
  rw [F, atR, show 1 - 1 = 0 by omega, Nat.zero_mod, h.head]
theorem F_next {N a b : Nat} (h1 : 1 ≤ a) (h2 : a < N) (hb : 1 ≤ b) : F N a (b + 1) = F N (F N a b) (a + 1) := by
  have h := (row_of h1 h2).ch
  have hp := h.pos
  have hlt : (b - 1) % (R N a).length < (R N a).length := Nat.mod_lt _ hp
  have e1 : F N a b = (R N a).getD ((b - 1) % (R N a).length) 0 := rfl
  have e2 : F N a (b + 1) = (R N a).getD (b % (R N a).length) 0 := rfl
  by_cases hl : (b - 1) % (R N a).length + 1 < (R N a).length
  · have : b % (R N a).length = (b - 1) % (R N a).length + 1 := by
      obtain ⟨c, rfl⟩ : ∃ c, b = c + 1 := ⟨b - 1, by omega⟩
      rw [Nat.add_sub_cancel] at hl ⊢
      rw [Nat.add_mod, Nat.mod_eq_of_lt (a := 1) (by omega), Nat.mod_eq_of_lt hl]
    rw [e2, this, h.next _ hl, e1]
  · have e3 : (b - 1) % (R N a).length = (R N a).length - 1 := by omega
    have : b % (R N a).length = 0 := by
      obtain ⟨c, rfl⟩ : ∃ c, b = c + 1 := ⟨b - 1, by omega⟩
      rw [Nat.add_sub_cancel] at e3
      have hd := Nat.div_add_mod c (R N a).length
      rw [e3] at hd
      have : c + 1 = (R N a).length * (c / (R N a).length + 1) := by rw [Nat.mul_add]; omega
      rw [this, Nat.mul_mod_right]
    rw [e2, this, h.head, e1, e3, h.last, F_top (by omega) (by omega)]
end Pv
-- PvRows
set_option maxRecDepth 100000
namespace Pv
open PySem L2
def nI (n : Nat) : PV := .int n
def rowV (r : List Nat) : PV := .list (r.map nI)
def rowsV (N : Nat) : List PV := (List.range (N + 1)).map fun x => rowV (R N x)
/-- done down to a -/
def rowsD (N a : Nat) : List PV := (List.range (N + 1)).map fun x => rowV (if a ≤ x then R N x else [])
def downL : Nat → List PV
  | 0 => []
  | n + 1 => .int ((n + 1 : Nat) : Int) :: downL n
theorem rangeL_down : ∀ n : Nat, rangeL (n : Int) n (-1) = downL n
  | 0 => rfl
  | n + 1 => by
    rw [downL, ← rangeL_down n, rangeL, List.range_succ_eq_map, List.map_cons, List.map_map, rangeL]
    have : (fun k : Nat => PyData.int (((n + 1 : Nat) : Int) + (k : Int) * -1)) ∘ Nat.succ = fun k : Nat => PyData.int ((n : Int) + (k : Int) * -1) := by
      funext k
      simp only [Function.comp]
      congr 1
      omega
    rw [this]
    congr 1
theorem idx_at {xs : List PV} {i : Int} {j : Nat} {d : PV} (hi : i = j) (h : xs[j]? = some d) : idxf (.list xs) (.int i) = some (.v d) := by
  have hlt : j < xs.length := (List.getElem?_eq_some_iff.mp h).1
  subst hi
  have h0 : (0 : Int) ≤ (j : Int) := by omega
  have h1 : (j : Int) < (xs.length : Int) := by omega
  simp only [idxf, atI, ixN, if_pos h0, if_pos h1, Int.toNat_natCast, Option.bind_some, h, Option.map_some]
theorem idx_end {pre : List PV} {x : PV} : idxf (.list (pre ++ [x])) (.int (-1)) = some (.v x) := by
  have h : ¬ ((0 : Int) ≤ -1) := by omega
  have h2 : -(((pre ++ [x]).length : Nat) : Int) ≤ -1 := by simp; omega
  have h3 : (-1 + (((pre ++ [x]).length : Nat) : Int)).toNat = pre.length := by
    rw [List.length_append, List.length_singleton]; omega
  simp only [idxf, atI, ixN]
  rw [if_neg h, if_pos h2, h3]
  simp
theorem ixN_at {n j : Nat} {i : Int} (hi : i = j) (h : j < n) : ixN n i = some j := by
  subst hi
  simp [ixN, h]
theorem rowV_at {r : List Nat} {i : Int} {j : Nat} (hi : i = j) (h : j < r.length) : idxf (rowV r) (.int i) = some (.v (.int (r.getD j 0))) := by
  refine idx_at hi ?_
  rw [List.getElem?_map, List.getElem?_eq_getElem h, List.getD_eq_getElem?_getD, List.getElem?_eq_getElem h]
  rfl
theorem rowsD_at {N a x : Nat} (h : x ≤ N) : (rowsD N a)[x]? = some (rowV (if a ≤ x then R N x else [])) := by
  have : x < N + 1 := by omega
  rw [rowsD, List.getElem?_map, List.getElem?_range this]; rfl
theorem rowsD_length (N a : Nat) : (rowsD N a).length = N + 1 := by simp [rowsD]
theorem rowsD_set {N a : Nat} (h : a < N) : (rowsD N (a + 1)).set a (rowV (R N a)) = rowsD N a := by
  refine List.ext_getElem? fun x => ?_
  by_cases e : x = a
  · subst e
    rw [List.getElem?_set_self (by rw [rowsD_length]; omega), rowsD_at (by omega), if_pos (Nat.le_refl _)]
  · rw [List.getElem?_set_ne (fun q => e q.symm)]
    by_cases l : x ≤ N
    · rw [rowsD_at l, rowsD_at l]
      congr 2
      by_cases q : a ≤ x
      · rw [if_pos q, if_pos (by omega)]
      · rw [if_neg q, if_neg (by omega)]
    · rw [List.getElem?_eq_none (by rw [rowsD_length]; omega), List.getElem?_eq_none (by rw [rowsD_length]; omega)]
@[simp] theorem rowV_fz {r : List Nat} {env : En} : fzR (.v (rowV r)) env = .ok (rowV r) env := rfl
theorem rowV_len {r : List Nat} : lenf (rowV r) = some (.v (.int r.length)) := by simp [rowV, lenf, vI]
theorem wfuel_big {n : Nat} (h : n ≤ 1000000) : n < wfuel := by unfold wfuel; omega
theorem rows_turn {cf : Nat → List Ob → CR} {S pre : List PV} {r : List Nat} {X A M y L : Int} {o0 o1 o3 o6 : Option Ob} (h2 : idxf (.list S) (.int X) = some (.v (rowV r))) (hl : lenf (rowV r) = some (.v (.int L))) (h3 : modf (.int A) (.int L) = some (.v (.int M))) (h4 : idxf (rowV r) (.int M) = some (.v (.int y))) (hlen : pre.length + 1 < 16777216) :
    whlB cf [] (.cons (.asg true 6 (.op .idx (.cons false (.x 2) (.cons false (.op .idx (.cons false (.x 5) (.cons false (.op .neg (.cons false (.c (.int 1)) .nil)) .nil))) .nil))))
    (.cons (.ap 5 (.op .idx (.cons false (.x 6) (.cons false (.op .mod (.cons false (.x 4) (.cons false (.op .len (.cons false (.x 6) .nil)) .nil))) .nil)))) .nil))
      [o0, o1, some (.ml S), o3, some (.v (.int A)), some (.ml (pre ++ [.int X])), o6] = .ok .nx [o0, o1, some (.ml S), o3, some (.v (.int A)), some (.ml (pre ++ [.int X] ++ [.int y])), some (.v (rowV r))] := by
  generalize rowV r = rv at h2 hl h4
  simp [whlB, free, opf1, opf2, negf, vI, idx_end, h2, hl, h3, h4, isMl, hlen]
theorem rows_while {cf : Nat → List Ob → CR} {N a : Nat} (h1 : 1 ≤ a) (h2 : a < N) (hN : N ≤ 100000) {S : List PV} (hS : ∀ x, a < x → x ≤ N → S[x]? = some (rowV (R N x))) {o0 o3 : Option Ob} : ∀ (k x : Nat) (pre : List PV) (o6 : Option Ob) (n : Nat), a < x → x ≤ N → N ≤ x + k → k + 1 < n → pre.length + k + 1 ≤ 200000 →
    ∃ o6', whileN (whlC cf [] (.op .ne (.cons false (.op .idx (.cons false (.x 5) (.cons false (.op .neg (.cons false (.c (.int 1)) .nil)) .nil))) (.cons false (.x 1) .nil)))) (whlB cf [] (.cons (.asg true 6 (.op .idx (.cons false (.x 2) (.cons false (.op .idx (.cons false (.x 5) (.cons false (.op .neg (.cons false (.c (.int 1)) .nil)) .nil))) .nil))))
    (.cons (.ap 5 (.op .idx (.cons false (.x 6) (.cons false (.op .mod (.cons false (.x 4) (.cons false (.op .len (.cons false (.x 6) .nil)) .nil))) .nil)))) .nil))) n
      [o0, some (.v (.int N)), some (.ml S), o3, some (.v (.int a)), some (.ml (pre ++ [nI x])), o6] = .ok .nx [o0, some (.v (.int N)), some (.ml S), o3, some (.v (.int a)), some (.ml (pre ++ (chain (fun x => F N x (a + 1)) N k x).map nI)), o6'] := by
  intro k
  induction k with
  | zero =>
    intro x pre o6 n _ hx hk hn hp
    have e : x = N := by omega
    subst e
    obtain ⟨n, rfl⟩ : ∃ j, n = j + 1 := ⟨n - 1, by omega⟩
    refine ⟨o6, ?_⟩
    rw [whileN]
    simp [whlC, whlB, opf1, opf2, cmpf, negf, vI, idx_end, nI, chain]
  | succ k ih =>
    intro x pre o6 n hax hx hk hn hp
    obtain ⟨n, rfl⟩ : ∃ j, n = j + 1 := ⟨n - 1, by omega⟩
    by_cases e : x = N
    · subst e
      refine ⟨o6, ?_⟩
      rw [whileN]
      simp [whlC, whlB, opf1, opf2, cmpf, negf, vI, idx_end, nI, chain]
    · have hlo := F_lo (N := N) (a := x) (c := a + 1) (by omega) (by omega)
      have hp0 := (row_of (N := N) (a := x) (by omega) (by omega)).ch.pos
      obtain ⟨o6', ih'⟩ := ih (F N x (a + 1)) (pre ++ [nI x]) (some (.v (rowV (R N x)))) n (by omega) (by omega) (by omega) (by omega) (by rw [List.length_append, List.length_singleton]; omega)
      refine ⟨o6', ?_⟩
      have hm : modf (.int (a : Int)) (.int ((R N x).length : Int)) = some (.v (.int ((a % (R N x).length : Nat) : Int))) := by
        have : (0 : Int) < ((R N x).length : Int) := by omega
        rw [modf, if_pos this, vI, ← Int.natCast_emod]
      have t := rows_turn (cf := cf) (S := S) (pre := pre) (r := R N x) (X := (x : Int)) (A := (a : Int)) (o0 := o0) (o1 := some (.v (.int N))) (o3 := o3) (o6 := o6) (idx_at rfl (hS x hax hx)) rowV_len hm (rowV_at rfl (Nat.mod_lt _ hp0)) (by omega)
      have c : whlC cf [] (.op .ne (.cons false (.op .idx (.cons false (.x 5) (.cons false (.op .neg (.cons false (.c (.int 1)) .nil)) .nil))) (.cons false (.x 1) .nil))) [o0, some (.v (.int N)), some (.ml S), o3, some (.v (.int a)), some (.ml (pre ++ [nI x])), o6] = .ok true [o0, some (.v (.int N)), some (.ml S), o3, some (.v (.int a)), some (.ml (pre ++ [nI x])), o6] := by
        have : ((x : Int) != (N : Int)) = true := by simp; omega
        simp [whlC, opf1, opf2, cmpf, negf, vI, idx_end, nI, this]
      rw [whileN, c, Rs.bind_ok, if_pos rfl]
      have e2 : (R N x).getD (a % (R N x).length) 0 = F N x (a + 1) := rfl
      rw [e2] at t
      rw [show nI x = .int (x : Int) from rfl, t, Rs.bind_ok, chain, if_neg e]
      rw [show (PyData.int (F N x (a + 1) : Int)) = nI (F N x (a + 1)) from rfl]
      simp only [ih', List.map_cons, List.append_assoc, List.cons_append, List.nil_append] at ih' ⊢
      exact ih'
theorem R_zero {N : Nat} (h : 0 < N) : R N 0 = [] := by
  have : ∀ k, k ≤ N - 1 → (rowsA N k).getD 0 [] = [] := fun k => by
    induction k with
    | zero => intro _; rw [rowsA]; simp [List.getD, h]
    | succ k ih => intro hk; rw [rowsA, getD_set_ne (by omega), ih (by omega)]
  exact this _ (Nat.le_refl _)
theorem rowsD_one {N : Nat} (h : 0 < N) : rowsD N 1 = rowsV N := by
  rw [rowsD, rowsV]
  refine List.map_congr_left fun x _ => ?_
  by_cases e : 1 ≤ x
  · rw [if_pos e]
  · rw [if_neg e, show x = 0 by omega, R_zero h]
def rowsWhile : IS := .whl (.op .ne (.cons false (.op .idx (.cons false (.x 5) (.cons false (.op .neg (.cons false (.c (.int 1)) .nil)) .nil))) (.cons false (.x 1) .nil))) (.cons (.asg true 6 (.op .idx (.cons false (.x 2) (.cons false (.op .idx (.cons false (.x 5) (.cons false (.op .neg (.cons false (.c (.int 1)) .nil)) .nil))) .nil))))
    (.cons (.ap 5 (.op .idx (.cons false (.x 6) (.cons false (.op .mod (.cons false (.x 4) (.cons false (.op .len (.cons false (.x 6) .nil)) .nil))) .nil)))) .nil))
def rowsBody : ISs := .cons (.asg false 5 (.lst (.cons false (.op .add (.cons false (.x 4) (.cons false (.c (.int 1)) .nil))) .nil)))
    (.cons rowsWhile (.cons (.sub 2 (.x 4) (.x 5)) .nil))
theorem rows_turn2 {cf : Nat → List Ob → CR} {N a : Nat} (h1 : 1 ≤ a) (h2 : a < N) (hN : N ≤ 100000) {o0 o3 o4 o5 o6 : Option Ob} :
    ∃ o4' o5' o6', forT cf [] (.inr 4) rowsBody (.int (a : Int)) [o0, some (.v (.int N)), some (.ml (rowsD N (a + 1))), o3, o4, o5, o6] = .ok .nx [o0, some (.v (.int N)), some (.ml (rowsD N a)), o3, o4', o5', o6'] := by
  obtain ⟨o6', w⟩ := rows_while (cf := cf) h1 h2 hN (S := rowsD N (a + 1)) (fun x hx hx2 => by rw [rowsD_at hx2, if_pos (by omega)]) (o0 := o0) (o3 := o3) N (a + 1) [] o6 wfuel (by omega) (by omega) (by omega) (wfuel_big (by omega)) (by rw [List.length_nil]; omega)
  rw [← (row_of h1 h2).eq] at w
  have hset := rowsD_set h2
  have hix : ixN (rowsD N (a + 1)).length (a : Int) = some a := ixN_at rfl (by rw [rowsD_length]; omega)
  have e1 : (nI (a + 1)) = .int ((a : Int) + 1) := by rw [nI]; congr 1
  rw [e1] at w
  rw [rowV] at hset
  generalize rowsD N (a + 1) = S at w hset hix ⊢
  generalize (R N a).map nI = r at w hset
  generalize (a : Int) = A at w hix ⊢
  generalize (N : Int) = B at w ⊢
  refine ⟨some (.v (.int A)), some (.v (.list r)), o6', ?_⟩
  rw [List.nil_append, List.nil_append] at w
  have c1 : ∀ o4 o5 o6 : Option Ob, o4 = some (.v (.int A)) → evE cf [] (.lst (.cons false (.op .add (.cons false (.x 4) (.cons false (.c (.int 1)) .nil))) .nil)) [o0, some (.v (.int B)), some (.ml S), o3, o4, o5, o6] = .ok (.ml [.int (A + 1)]) [o0, some (.v (.int B)), some (.ml S), o3, o4, o5, o6] := fun o4 o5 o6 h => by
    subst h
    simp [opf2, addf, vI]
  have w' : evS cf [] rowsWhile [o0, some (.v (.int B)), some (.ml S), o3, some (.v (.int A)), some (.ml [.int (A + 1)]), o6] = .ok .nx [o0, some (.v (.int B)), some (.ml S), o3, some (.v (.int A)), some (.ml r), o6'] := by
    rw [rowsWhile, y_whl]; exact w
  have c2 : evS cf [] (.sub 2 (.x 4) (.x 5)) [o0, some (.v (.int B)), some (.ml S), o3, some (.v (.int A)), some (.ml r), o6'] = .ok .nx [o0, some (.v (.int B)), some (.ml (S.set a (.list r))), o3, some (.v (.int A)), some (.v (.list r)), o6'] := by
    simp [isMl, hix]
  rw [forT]
  simp only [setTg, List.set, rowsBody]
  rw [y_ss1, y_asg, if_pos (by rfl), c1 _ _ _ rfl, Rs.bind_ok, Rs.bind_ok]
  simp only [y_z0, List.set]
  rw [y_ss1, w', Rs.bind_ok]
  simp only []
  rw [y_ss1, c2, Rs.bind_ok]
  simp only [hset, y_ss0]
theorem rows_for {cf : Nat → List Ob → CR} {N : Nat} (hN : N ≤ 100000) {o0 o3 : Option Ob} : ∀ (n : Nat) (o4 o5 o6 : Option Ob), n < N →
    ∃ o4' o5' o6', forL (forT cf [] (.inr 4) rowsBody) (downL n) [o0, some (.v (.int N)), some (.ml (rowsD N (n + 1))), o3, o4, o5, o6] = .ok .nx [o0, some (.v (.int N)), some (.ml (rowsD N 1)), o3, o4', o5', o6']
  | 0, o4, o5, o6, _ => ⟨o4, o5, o6, by rw [downL, forL]⟩
  | n + 1, o4, o5, o6, h => by
    obtain ⟨p4, p5, p6, t⟩ := rows_turn2 (cf := cf) (N := N) (a := n + 1) (by omega) h hN (o0 := o0) (o3 := o3) (o4 := o4) (o5 := o5) (o6 := o6)
    obtain ⟨q4, q5, q6, u⟩ := rows_for (cf := cf) hN (o0 := o0) (o3 := o3) n p4 p5 p6 (by omega)
    refine ⟨q4, q5, q6, ?_⟩
    rw [downL, forL, t, Rs.bind_ok]
    exact u
theorem shl_one {l : Nat} (h : l ≤ 13) : shlf (.int 1) (.int (l : Int)) = some (.v (.int ((2 ^ l : Nat) : Int))) := by
  have h1 : powOk 1 (l : Int) = true := by simp [powOk]; omega
  rw [shlf, if_pos h1, vI, Int.toNat_natCast, Int.one_mul]
  congr 3
theorem pow_le13 {l : Nat} (h : l ≤ 13) : 1 ≤ 2 ^ l ∧ 2 ^ l ≤ 8192 := by
  refine ⟨Nat.one_le_two_pow, ?_⟩
  have := Nat.pow_le_pow_right (n := 2) (by omega) h
  omega
theorem listR_up {N : Nat} (h : N ≤ 100000) : listRf (.int 1) (.int ((N : Int) + 1)) = some (.ml ((upTo N).map nI)) := by
  have h1 : rgOk 1 ((N : Int) + 1) = true := by
    simp only [rgOk, Bool.and_eq_true, decide_eq_true_eq]
    omega
  have e : rgP 1 ((N : Int) + 1) = (upTo N).map nI := by
    have e2 : (PyData.int ∘ fun i : Nat => (1 : Int) + (i : Int)) = (nI ∘ fun x => x + 1) := by
      funext i
      show PyData.int (1 + (i : Int)) = PyData.int ((i + 1 : Nat) : Int)
      rw [Int.natCast_add, Int.add_comm]
      rfl
    rw [rgP, upTo, List.map_map, Int.add_sub_cancel, Int.toNat_natCast, ← e2]
    rfl
  rw [listRf, if_pos h1, e]
theorem rowsD_top {N : Nat} (h : 0 < N) : rowsD N N = List.replicate N (.list []) ++ [rowV (upTo N)] := by
  rw [rowsD, List.range_succ, List.map_append, List.map_singleton, if_pos (Nat.le_refl _), R_top h]
  congr 1
  refine List.ext_getElem? fun i => ?_
  by_cases hi : i < N
  · rw [List.getElem?_map, List.getElem?_range hi, List.getElem?_replicate_of_lt hi]
    simp only [Option.map_some]
    rw [if_neg (by omega)]; rfl
  · rw [List.getElem?_eq_none (by simp; omega), List.getElem?_eq_none (by simp; omega)]
theorem range_up {n : Nat} (h : n ≤ 100000) : rangeV [.int (n : Int)] = some (rangeL 0 n 1) := by
  have h1 : decide (-(2 ^ 62) ≤ (n : Int)) = true := decide_eq_true (by omega)
  have h2 : decide ((n : Int) < 2 ^ 62) = true := decide_eq_true (by omega)
  simp only [rangeV, h1, h2, Bool.and_self, if_true, Int.toNat_natCast]
theorem range_dn {n : Nat} {A : Int} (hA : A = n) (h : n ≤ 100000) : rangeV [.int A, .int 0, .int (-1)] = some (downL n) := by
  subst hA
  have h1 : decide (-(2 ^ 62) ≤ (n : Int)) = true := decide_eq_true (by omega)
  have h2 : decide ((n : Int) < 2 ^ 62) = true := decide_eq_true (by omega)
  have h3 : decide (-(2 ^ 62) ≤ (0 : Int)) = true := decide_eq_true (by omega)
  have h4 : decide ((0 : Int) < 2 ^ 62) = true := decide_eq_true (by omega)
  simp only [rangeV, h1, h2, h3, h4, Bool.and_self, if_true, Int.sub_zero, Int.toNat_natCast, rangeL_down]
end Pv
-- PvRows2
set_option maxRecDepth 100000
namespace Pv
open PySem L2
theorem run_ret {T : Nat → Option FD} {i k np ns : Nat} {body : ISs} {args : List Ob} {env env' : En} {o : Ob} (hT : T i = some ⟨np, ns, [], body⟩) (e2 : (args.length == np && ioOk [] 0 args) = true) (e1 : args.map some ++ List.replicate (ns - np) none = env) (hs : evSs (runF T k) [] body env = .ok (.rt o) env') : runF T (k + 1) i args = .ret o [] := by
  rw [y_run hT, if_pos e2]
  simp only [e1, hs]
  simp [outsOf]
theorem rows_c2 {cf : Nat → List Ob → CR} {B : Int} {U : List PV} {o0 o4 o5 o6 : Option Ob} (hl : listRf (.int 1) (.int (B + 1)) = some (.ml U)) :
    evE cf [] (.lst (.cons false (.op .listR (.cons false (.c (.int 1)) (.cons false (.op .add (.cons false (.x 1) (.cons false (.c (.int 1)) .nil))) .nil))) .nil))
      [o0, some (.v (.int B)), none, none, o4, o5, o6] = .ok (.ml [.list U]) [o0, some (.v (.int B)), none, none, o4, o5, o6] := by
  simp [opf2, addf, vI, hl]
theorem rows_c3 {cf : Nat → List Ob → CR} {B : Int} {N : Nat} {U : List PV} {o0 o4 o5 o6 : Option Ob} (hs : N + 1 ≤ 16777216)
  (c1 : evE cf [] (.lc [3] (.inr 3) (.range (.cons false (.x 1) .nil)) .nil (.lst .nil)) [o0, some (.v (.int B)), none, none, o4, o5, o6] = .ok (.ml (List.replicate N (.list []))) [o0, some (.v (.int B)), none, none, o4, o5, o6])
  (c2 : evE cf [] (.lst (.cons false (.op .listR (.cons false (.c (.int 1)) (.cons false (.op .add (.cons false (.x 1) (.cons false (.c (.int 1)) .nil))) .nil))) .nil))
      [o0, some (.v (.int B)), none, none, o4, o5, o6] = .ok (.ml [.list U]) [o0, some (.v (.int B)), none, none, o4, o5, o6]) :
    evE cf [] (.op .add (.cons false (.lc [3] (.inr 3) (.range (.cons false (.x 1) .nil)) .nil (.lst .nil)) (.cons false (.lst (.cons false (.op .listR (.cons false (.c (.int 1)) (.cons false (.op .add (.cons false (.x 1) (.cons false (.c (.int 1)) .nil))) .nil))) .nil)) .nil)))
      [o0, some (.v (.int B)), none, none, o4, o5, o6] = .ok (.ml (List.replicate N (.list []) ++ [.list U])) [o0, some (.v (.int B)), none, none, o4, o5, o6] := by
  rw [y_op, y_a1, y_A1lc, c1, Rs.bind_ok, Rs.bind_ok, y_a1, y_A1lst, c2]
  simp [opf2, addf, hs]
theorem rows_start {cf : Nat → List Ob → CR} {N : Nat} (h : 0 < N) (hN : N ≤ 100000) {o0 o4 o5 o6 : Option Ob} :
    evE cf [] (.op .add (.cons false (.lc [3] (.inr 3) (.range (.cons false (.x 1) .nil)) .nil (.lst .nil)) (.cons false (.lst (.cons false (.op .listR (.cons false (.c (.int 1)) (.cons false (.op .add (.cons false (.x 1) (.cons false (.c (.int 1)) .nil))) .nil))) .nil)) .nil)))
      [o0, some (.v (.int N)), none, none, o4, o5, o6] = .ok (.ml (rowsD N N)) [o0, some (.v (.int N)), none, none, o4, o5, o6] := by
  have hr := range_up hN
  have c1 : evE cf [] (.lc [3] (.inr 3) (.range (.cons false (.x 1) .nil)) .nil (.lst .nil)) [o0, some (.v (.int N)), none, none, o4, o5, o6] = .ok (.ml ((rangeL 0 N 1).map fun _ => .list [])) [o0, some (.v (.int N)), none, none, o4, o5, o6] := by
    refine lc_map _ (by simp) ?_ rfl (by rw [rangeL_length, lim_nat]; omega) fun d hd => ?_
    · have c : evF cf [] (.cons false (.x 1) .nil) [o0, some (.v (.int N)), none, none, o4, o5, o6] = .ok [.int N] [o0, some (.v (.int N)), none, none, o4, o5, o6] := by simp
      rw [y_range, c, Rs.bind_ok, hr, optR_some]
    · exact ⟨[o0, some (.v (.int N)), none, some (.v d), o4, o5, o6], .ml [], [o0, some (.v (.int N)), none, some (.v d), o4, o5, o6], rfl, by simp, rfl, rfl⟩
  have e1 : (rangeL 0 N 1).map (fun _ => PyData.list []) = List.replicate N (.list []) := by
    rw [List.map_const', rangeL_length]
  rw [e1] at c1
  have hl := listR_up hN
  rw [rowsD_top h, rowV]
  exact rows_c3 (by omega) c1 (rows_c2 hl)
theorem rows_in_spec {T : Nat → Option FD} {i : Nat} (hT : T i = some ⟨1, 7, [], q_rows_in_2⟩) (k l : Nat) (hl : l ≤ 13) : runF T (k + 1) i [.v (.int l)] = .ret (.ml (rowsV (2 ^ l))) [] := by
  have hp := pow_le13 hl
  have hs := shl_one hl
  generalize 2 ^ l = N at hp hs ⊢
  have c0 := rows_start (cf := runF T k) (N := N) (by omega) (by omega) (o0 := some (.v (.int l))) (o4 := none) (o5 := none) (o6 := none)
  obtain ⟨o4, o5, o6, f⟩ := rows_for (cf := runF T k) (N := N) (by omega) (o0 := some (.v (.int l))) (o3 := none) (N - 1) none none none (by omega)
  have hd : rangeV [.int ((N : Int) - 1), .int 0, .int (-1)] = some (downL (N - 1)) := range_dn (by omega) (by omega)
  rw [show N - 1 + 1 = N by omega, rowsD_one (by omega)] at f
  have c1 : evE (runF T k) [] (.op .shl (.cons false (.c (.int 1)) (.cons false (.x 0) .nil))) [some (.v (.int l)), none, none, none, none, none, none] = .ok (.v (.int N)) [some (.v (.int l)), none, none, none, none, none, none] := by
    generalize (l : Int) = A at hs ⊢
    simp [opf2, hs]
  have c3 : evF (runF T k) [] (.cons false (.op .sub (.cons false (.x 1) (.cons false (.c (.int 1)) .nil))) (.cons false (.c (.int 0)) (.cons false (.op .neg (.cons false (.c (.int 1)) .nil)) .nil))) [some (.v (.int l)), some (.v (.int N)), some (.ml (rowsD N N)), none, none, none, none] = .ok [.int ((N : Int) - 1), .int 0, .int (-1)] [some (.v (.int l)), some (.v (.int N)), some (.ml (rowsD N N)), none, none, none, none] := by
    generalize (l : Int) = A
    generalize (N : Int) = B
    simp [opf1, opf2, subf, negf, vI]
  refine run_ret hT rfl rfl (env' := [some (.v (.int l)), some (.v (.int N)), none, none, o4, o5, o6]) ?_
  rw [q_rows_in_2]
  show evSs (runF T k) [] _ [some (.v (.int l)), none, none, none, none, none, none] = _
  rw [y_ss1, y_asg, if_pos (by rfl), c1, Rs.bind_ok, Rs.bind_ok]
  simp only [y_z1, y_zv, List.set]
  rw [y_ss1, y_asg, if_pos (by rfl), c0, Rs.bind_ok, Rs.bind_ok]
  simp only [y_z0, List.set]
  rw [y_ss1, y_for, if_pos (by rfl), y_range, c3, Rs.bind_ok, hd, optR_some, Rs.bind_ok]
  rw [rowsBody, rowsWhile] at f
  rw [f, Rs.bind_ok]
  simp only []
  rw [y_ss1, y_ret, y_retx]
  simp [free]
end Pv
-- PvMvX
set_option maxRecDepth 100000
set_option maxHeartbeats 1000000
namespace Pv
open PySem L2
theorem insP_first {n : Int} : ∀ {ns : List Int}, (∀ m ∈ ns, n ≤ m) → insP (.int n) (ns.map PyData.int) = .int n :: ns.map PyData.int
  | [], _ => rfl
  | m :: ns, h => by
    have h1 := h m (by simp)
    have : pLt (.int m) (.int n) = false := by
      have : pLt (.int m) (.int n) = decide (m < n) := by simp [pLt, PySem.W.dataLt, PySem.W.keyToks, PyProof.Rows.lexLt, PyProof.Rows.itemOrd, PyProof.Rows.itemLt]
      rw [this]; exact decide_eq_false (by omega)
    rw [List.map_cons, insP, this]; rfl
theorem sort_inc : ∀ {ns : List Int}, ns.Pairwise (· ≤ ·) → sortP (ns.map PyData.int) = ns.map PyData.int
  | [], _ => rfl
  | n :: ns, h => by
    obtain ⟨h1, h2⟩ := List.pairwise_cons.mp h
    rw [List.map_cons, sortP, sort_inc h2, insP_first h1]
theorem sorted_inc {ns : List Int} (h : ns.Pairwise (· ≤ ·)) : opf1 .sorted (.list (ns.map PyData.int)) = some (.ml (ns.map PyData.int)) := by
  have h1 : sortOk (ns.map PyData.int) = true := by
    unfold sortOk
    rw [Bool.and_eq_true]
    refine ⟨?_, ?_⟩
    · rw [List.all_eq_true]
      intro x hx
      obtain ⟨n, _, rfl⟩ := List.mem_map.mp hx
      rw [Bool.and_eq_true, List.all_eq_true]
      refine ⟨rfl, fun y hy => ?_⟩
      obtain ⟨m, _, rfl⟩ := List.mem_map.mp hy
      rfl
    · rw [Bool.or_eq_true]
      right
      rw [List.all_eq_true]
      intro x hx
      obtain ⟨n, _, rfl⟩ := List.mem_map.mp hx
      rfl
  have e : opf1 .sorted (.list (ns.map PyData.int)) = sortedf (.list (ns.map PyData.int)) := by unfold opf1; rfl
  rw [e, sortedf, if_pos h1, sort_inc h]
theorem run_x {T : Nat → Option FD} {i k np ns : Nat} {body : ISs} {args : List Ob} {env env' : En} {c : Nat} (hT : T i = some ⟨np, ns, [], body⟩) (e2 : (args.length == np && ioOk [] 0 args) = true) (e1 : args.map some ++ List.replicate (ns - np) none = env) (hs : evSs (runF T k) [] body env = .ex c [] env') : runF T (k + 1) i args = .exc c [] := by
  rw [y_run hT, if_pos e2]
  simp only [e1, hs]
section
variable {T : Nat → Option FD} {long tup isb sure told zer stold isin sp spr put spi mvi sti srow isr : Nat} (R : RowFns T long tup isb sure told zer stold isin sp spr put spi mvi sti srow isr)
include R
theorem movedx_spec {i xc : Nat} (hT : T i = some ⟨2, 4, [], q_moved_x sure mvi sp xc⟩) {d e : PV} {b c : Bush} {p : Pl} (s : Soft d b) (s' : SoftP e p) (hl : p.length ≤ 100000) (hm : b.mv p = some c) (k : Nat) (hk : b.height + 8 ≤ k) : runF T k i [.v d, .v e] = .ret (.v c.enc) [] := by
  obtain ⟨k, rfl⟩ : ∃ j, k = j + 6 := ⟨k - 6, by omega⟩
  have h1 := sure_soft R.b s (k + 5) (by omega)
  have hat : (b.at_ p).isSome = true := by
    rw [Bush.mv_at] at hm
    cases e : b.at_ p with
    | none => rw [e] at hm; cases hm
    | some x => rfl
  have h2 := sp_spec R.p k (b := b) s' (by omega) hat
  have h3 := moved_in_spec R.m.h4 R.m.h1 R.m.h2 R.m.h3 (k + 5) b p (by omega)
  rw [hm] at h3
  have e1 : opf2 .isN c.enc .none = some (.v (.bool false)) := by cases c <;> rfl
  have e2 : (Ob.v c.enc).frozen = .v c.enc := by cases c <;> rfl
  rw [y_run hT, q_moved_x_eq]
  simp only [optE] at h3
  simp [q_moved_x.t0, q_moved_x.t1, q_moved_x.t2, q_moved_x.t3, ioOk, free, h1, h2, h3, handsOk, ioNames, putBack, e1, e2, outsOf]
/-- the bushes of a row, or CanNot -/
def RbX (b : Bush) (ps : List Pl) (xc : Nat) (x : CR) : Prop := match b.go ps with
  | some _ => x = .ret (.v (.tuple (encB (b.stepsL ps)))) []
  | none => x = .exc xc []
theorem rowx_spec {i xc : Nat} (hT : T i = some ⟨2, 5, [], q_row_bushes_x sure srow sti xc⟩) {d e : PV} {b : Bush} {ps : List Pl} (s : Soft d b) (s' : SoftR e ps) (hn : nice (encR ps) = true) (hl : ps.length ≤ 1000) (k : Nat) (hk : b.height + ps.length + 8 ≤ k) : RbX b ps xc (runF T k i [.v d, .v e]) := by
  obtain ⟨k, rfl⟩ : ∃ j, k = j + 6 := ⟨k - 6, by omega⟩
  have h1 := sure_soft R.b s (k + 5) (by omega)
  have h2 := sure_row_spec R.r1 R.p.h1 R.r2 R.p.h3 R.p.h2 k s' hn
  have h3 := steps_in_spec R.m b ps hl (k + 5) (by omega)
  have h4 := Bush.stepsL_go ps b
  have l1 : opf1 .len (.list (encB (b.stepsL ps))) = some (.v (.int ((b.stepsL ps).length : Int))) := o_len (by rw [lenf, List.length_map]; rfl)
  have l2 : opf1 .len (encR ps) = some (.v (.int (ps.length : Int))) := o_len (by rw [lenf, List.length_map]; rfl)
  have t1 : opf1 .tuple (.list (encB (b.stepsL ps))) = some (.v (.tuple (encB (b.stepsL ps)))) := rfl
  unfold RbX
  cases hg : b.go ps with
  | some c =>
    rw [hg] at h4
    have l3 : opf2 .le (.int ((b.stepsL ps).length : Int)) (.int (ps.length : Int)) = some (.v (.bool false)) := by rw [i_le, h4.1]; simp; omega
    show runF T (k + 6) i [.v d, .v e] = _
    rw [y_run hT, q_row_bushes_x_eq]
    generalize (ps.length : Int) = n at l2 l3
    generalize ((b.stepsL ps).length : Int) = n' at l1 l3
    simp [q_row_bushes_x.t0, q_row_bushes_x.t1, q_row_bushes_x.t2, q_row_bushes_x.t3, q_row_bushes_x.t4, ioOk, free, h1, h2, h3, handsOk, ioNames, putBack, l1, l2, l3, outsOf, t1]
  | none =>
    rw [hg] at h4
    have l3 : opf2 .le (.int ((b.stepsL ps).length : Int)) (.int (ps.length : Int)) = some (.v (.bool true)) := by rw [i_le]; simp at h4 ⊢; omega
    show runF T (k + 6) i [.v d, .v e] = _
    rw [y_run hT, q_row_bushes_x_eq]
    generalize (ps.length : Int) = n at l2 l3
    generalize ((b.stepsL ps).length : Int) = n' at l1 l3
    simp [q_row_bushes_x.t0, q_row_bushes_x.t1, q_row_bushes_x.t2, q_row_bushes_x.t3, q_row_bushes_x.t3a0, ioOk, free, h1, h2, h3, handsOk, ioNames, putBack, l1, l2, l3, outsOf, t1]
def RlX (b : Bush) (ps : List Pl) (xc : Nat) (x : CR) : Prop := match b.go ps with
  | some c => x = .ret (.v c.enc) []
  | none => x = .exc xc []
theorem ledx_spec {i rb xc : Nat} (hT : T i = some ⟨2, 2, [], q_row_led rb⟩) (hB : T rb = some ⟨2, 5, [], q_row_bushes_x sure srow sti xc⟩) {d e : PV} {b : Bush} {ps : List Pl} (s : Soft d b) (s' : SoftR e ps) (hn : nice (encR ps) = true) (hl : ps.length ≤ 1000) (k : Nat) (hk : b.height + ps.length + 9 ≤ k) : RlX b ps xc (runF T k i [.v d, .v e]) := by
  obtain ⟨k, rfl⟩ : ∃ j, k = j + 1 := ⟨k - 1, by omega⟩
  have h1 := rowx_spec R hB s s' hn hl k (by omega)
  have h4 := Bush.stepsL_go ps b
  unfold RlX
  unfold RbX at h1
  cases hg : b.go ps with
  | some c =>
    rw [hg] at h1 h4
    simp only at h1 ⊢
    have e1 : opf2 .idx (.tuple (encB (b.stepsL ps))) (.int (-1)) = some (.v c.enc) := by
      obtain ⟨r, hr⟩ : ∃ r, b.stepsL ps = r ++ [c] := List.getLast?_eq_some_iff.mp h4.2
      have e2 := o_last (L := encB r) (d := c.enc)
      rw [hr, encB, List.map_append]
      have : opf2 .idx (.tuple (r.map Bush.enc ++ [c].map Bush.enc)) (.int (-1)) = opf2 .idx (.list (r.map Bush.enc ++ [c].map Bush.enc)) (.int (-1)) := rfl
      rw [this]; exact e2
    rw [y_run hT]
    simp [q_row_led, ioOk, h1, handsOk, ioNames, putBack, i_neg, e1, outsOf]
  | none =>
    rw [hg] at h1
    simp only at h1 ⊢
    rw [y_run hT]
    simp [q_row_led, ioOk, h1, handsOk, ioNames, putBack, outsOf]
/-- where a row is stuck -/
def stuckP (b : Bush) (ps : List Pl) : PV := match b.go ps with
  | some _ => .none
  | none => .int ((b.stepsL ps).length - 1)
theorem stuck_spec {i : Nat} (hT : T i = some ⟨2, 5, [], q_first_stuck sure srow sti⟩) {d e : PV} {b : Bush} {ps : List Pl} (s : Soft d b) (s' : SoftR e ps) (hn : nice (encR ps) = true) (hl : ps.length ≤ 1000) (k : Nat) (hk : b.height + ps.length + 8 ≤ k) : runF T k i [.v d, .v e] = .ret (.v (stuckP b ps)) [] := by
  obtain ⟨k, rfl⟩ : ∃ j, k = j + 6 := ⟨k - 6, by omega⟩
  have h1 := sure_soft R.b s (k + 5) (by omega)
  have h2 := sure_row_spec R.r1 R.p.h1 R.r2 R.p.h3 R.p.h2 k s' hn
  have h3 := steps_in_spec R.m b ps hl (k + 5) (by omega)
  have h4 := Bush.stepsL_go ps b
  have l1 : opf1 .len (.list (encB (b.stepsL ps))) = some (.v (.int ((b.stepsL ps).length : Int))) := o_len (by rw [lenf, List.length_map]; rfl)
  have l2 : opf1 .len (encR ps) = some (.v (.int (ps.length : Int))) := o_len (by rw [lenf, List.length_map]; rfl)
  unfold stuckP
  cases hg : b.go ps with
  | some c =>
    rw [hg] at h4
    have l3 : opf2 .lt (.int ((b.stepsL ps).length - 1 : Int)) (.int (ps.length : Int)) = some (.v (.bool false)) := by rw [i_lt, h4.1]; simp
    rw [y_run hT, q_first_stuck_eq]
    generalize (ps.length : Int) = n at l2 l3
    generalize ((b.stepsL ps).length : Int) = n' at l1 l3
    simp [q_first_stuck.t0, q_first_stuck.t1, q_first_stuck.t2, q_first_stuck.t3, ioOk, free, h1, h2, h3, handsOk, ioNames, putBack, l1, l2, l3, i_sub, outsOf]
  | none =>
    rw [hg] at h4
    have l3 : opf2 .lt (.int ((b.stepsL ps).length - 1 : Int)) (.int (ps.length : Int)) = some (.v (.bool true)) := by rw [i_lt]; simp at h4 ⊢; omega
    rw [y_run hT, q_first_stuck_eq]
    generalize (ps.length : Int) = n at l2 l3
    generalize ((b.stepsL ps).length : Int) = n' at l1 l3
    simp [q_first_stuck.t0, q_first_stuck.t1, q_first_stuck.t2, q_first_stuck.t3, ioOk, free, h1, h2, h3, handsOk, ioNames, putBack, l1, l2, l3, i_sub, outsOf]
end
/-- what is heard of one of two defs -/
theorem heard2 {T : Nat → Option FD} {i un f0 f1 : Nat} {d e : PV} (hT : T i = some ⟨3, 4, [], q_law_heard_x 1 0 un f0 f1⟩) (hu : T un = some ⟨1, 1, [], q_law_unmarked⟩) (k : Nat) {j : Int} {f : Nat} (hj : j = 0 ∧ f = f0 ∨ j = 1 ∧ f = f1) (hd : isD d = false) (he : isD e = false) :
    (∀ x : PV, isTupV x = true → isD x = false → runF T (k + 1) f [.v d, .v e] = .ret (.v x) [] → runF T (k + 2) i [.v (.int j), .v d, .v e] = .ret (.v x) []) ∧ (runF T (k + 1) f [.v d, .v e] = .exc 0 [] → runF T (k + 2) i [.v (.int j), .v d, .v e] = .ret (.ml [.str "can not", .bool true]) []) := by
  have z1 := y_fzv (env := [some (.v (.int j)), some (.v d), some (.v e), none]) hd
  have z2 := y_fzv (env := [some (.v (.int j)), some (.v d), some (.v e), none]) he
  have a0 : atI [f0, f1] 0 = some f0 := rfl
  have a1 : atI [f0, f1] 1 = some f1 := rfl
  refine ⟨fun x hx hxd h => ?_, fun h => ?_⟩
  · have i1 : opf1 .isList x = some (.v (.bool false)) := by cases x <;> first | rfl | (cases hx)
    have g4 : runF T (k + 1) un [.v x] = .ret (.v x) [] := by
      rw [y_run hu, q_law_unmarked]
      simp [ioOk, free, i1, handsOk, ioNames, putBack, outsOf]
    have z3 : ∀ env, fzR (.v x) env = .ok x env := fun env => y_fzv hxd
    rw [y_run hT, q_law_heard_x_eq]
    rcases hj with ⟨rfl, rfl⟩ | ⟨rfl, rfl⟩
    · simp [q_law_heard_x.t0, ioOk, free, z1, z2, a0, h, g4, handsOk, ioNames, putBack, outsOf, resTry, endCall]
    · simp [q_law_heard_x.t0, ioOk, free, z1, z2, a1, h, g4, handsOk, ioNames, putBack, outsOf, resTry, endCall]
  · rw [y_run hT, q_law_heard_x_eq]
    rcases hj with ⟨rfl, rfl⟩ | ⟨rfl, rfl⟩
    · simp [q_law_heard_x.t0, ioOk, free, z1, z2, a0, h, handsOk, ioNames, putBack, outsOf, resTry, endCall]
    · simp [q_law_heard_x.t0, ioOk, free, z1, z2, a1, h, handsOk, ioNames, putBack, outsOf, resTry, endCall]
end Pv
-- PvK4a
set_option maxRecDepth 100000
set_option maxHeartbeats 1000000
namespace Pv
open PySem L2
theorem r_take {ps : List Pl} {k : Nat} : opf2 (.slice false true) (encR ps) (.int (k : Int)) = some (.v (encR (ps.take k))) := by
  have h := tsl_to (xs := ps.map encP) (j := k)
  rw [← List.map_take] at h
  exact h
theorem r_drop {ps : List Pl} {k : Nat} : opf2 (.slice true false) (encR ps) (.int (k : Int)) = some (.v (encR (ps.drop k))) := by
  have h := tsl_from (xs := ps.map encP) (j := k)
  rw [← List.map_drop] at h
  exact h
theorem r_rev {ps : List Pl} : opf1 .rev (encR ps) = some (.v (encR ps.reverse)) := by
  have : revf (encR ps) = some (.v (encR ps.reverse)) := by rw [encR, revf, ← List.map_reverse]
  have e : opf1 .rev (encR ps) = revf (encR ps) := by unfold opf1; rfl
  rw [e, this]
section
variable {cf : Nat → List Ob → CR} {e0 e1 e2 e3 e4 e5 e6 e7 e8 e9 e10 e11 e12 e13 e14 e15 : Option Ob} {b b' c g : Bush} {ps qs : List Pl} {p : Pl} {L : List Bush} {u0 u1 u2 Lb Lp : List PV} {V J M : Int} {S X0 Y0 : PV} {K9 : Bool} {k : Nat}
theorem n4_0 (h1 : cf 23 [.ml u0, .v (.int 7)] = .ret (.v (.int V)) [.ml u1]) (h2 : cf 30 [.ml u1, .v (.int (1 + V))] = .ret (.v b.enc) [.ml u2]) :
    evSs cf [0] q_law_right_4.t0 [some (.ml u0), e1, e2, e3, e4, e5, e6, e7, e8, e9, e10, e11, e12, e13, e14, e15] = evSs cf [0] q_law_right_4.t1 [some (.ml u2), some (.v b.enc), e2, e3, e4, e5, e6, e7, e8, e9, e10, e11, e12, e13, e14, e15] := by
  rw [q_law_right_4.t0]
  exact st_asg (o := .v b.enc) (env' := [some (.ml u2), e1, e2, e3, e4, e5, e6, e7, e8, e9, e10, e11, e12, e13, e14, e15]) rfl (by simp [h1, i_add, h2, handsOk, ioNames, putBack]) rfl
theorem n4_1 (h1 : cf 23 [.ml u0, .v (.int 7)] = .ret (.v (.int V)) [.ml u1]) (h2 : cf 36 [.ml u1, .v b.enc, .v (.int V)] = .ret (.v (encR ps)) [.ml u2]) :
    evSs cf [0] q_law_right_4.t1 [some (.ml u0), some (.v b.enc), e2, e3, e4, e5, e6, e7, e8, e9, e10, e11, e12, e13, e14, e15] = evSs cf [0] q_law_right_4.t2 [some (.ml u2), some (.v b.enc), some (.v (encR ps)), e3, e4, e5, e6, e7, e8, e9, e10, e11, e12, e13, e14, e15] := by
  rw [q_law_right_4.t1]
  exact st_asg (o := .v (encR ps)) (env' := [some (.ml u2), some (.v b.enc), e2, e3, e4, e5, e6, e7, e8, e9, e10, e11, e12, e13, e14, e15]) rfl (by simp [h1, h2, handsOk, ioNames, putBack]) rfl
theorem n4_2b0  :
    evSs cf [0] q_law_right_4.t2b0 [e0, some (.v b.enc), e2, e3, e4, e5, e6, e7, e8, e9, e10, e11, e12, e13, e14, e15] = evSs cf [0] q_law_right_4.t2b1 [e0, some (.v b.enc), e2, e3, some (.ml [b.enc]), some (.v .none), e6, e7, e8, e9, e10, e11, e12, e13, e14, e15] := by
  rw [q_law_right_4.t2b0]
  exact st_par (os := [.ml [b.enc], .v .none]) (env' := [e0, some (.v b.enc), e2, e3, e4, e5, e6, e7, e8, e9, e10, e11, e12, e13, e14, e15]) rfl (by simp) rfl
theorem n4_in_s (h1 : cf 34 [.v b'.enc, .v (encP p)] = .ret (.v (optE (b'.mv p))) []) (hm : b'.mv p = some c) (hl : L.length ≤ 1000) :
    forT cf [0] (.inl [6, 7]) q_law_right_4.t2b1b0 (.tuple [.int J, encP p]) [e0, e1, e2, e3, some (.ml (encB (L ++ [b']))), some (.v .none), e6, e7, e8, e9, e10, e11, e12, e13, e14, e15] = .ok .nx [e0, e1, e2, e3, some (.ml (encB (L ++ [b'] ++ [c]))), some (.v .none), some (.v (.int J)), some (.v (encP p)), some (.v c.enc), e9, e10, e11, e12, e13, e14, e15] := by
  have a1 : opf2 .isN .none .none = some (.v (.bool true)) := rfl
  have a2 : opf2 .idx (.list (encB (L ++ [b']))) (.int (-1)) = some (.v b'.enc) := by rw [encB, List.map_append]; exact o_last (L := encB L) (d := b'.enc)
  have a3 : opf2 .isN c.enc .none = some (.v (.bool false)) := by cases c <;> rfl
  have a4 : opf2 .notN c.enc .none = some (.v (.bool true)) := by cases c <;> rfl
  have a5 : (encB (L ++ [b'])).length < 16777216 := by rw [List.length_map, List.length_append, List.length_singleton]; omega
  rw [hm] at h1
  simp only [optE] at h1
  have a6 : encB (L ++ [b'] ++ [c]) = encB (L ++ [b']) ++ [c.enc] := by rw [encB, List.map_append]; rfl
  rw [a6]
  generalize encB (L ++ [b']) = X at a2 a5
  rw [forT]
  simp only [setTg, setTgs, List.set]
  rw [q_law_right_4.t2b1b0]
  simp [a1, i_neg, a2, h1, enc_fzB, handsOk, ioNames, putBack, free]
  rw [q_law_right_4.t2b1b1]
  simp [a3]
  rw [q_law_right_4.t2b1b2]
  simp [a4, q_law_right_4.t2b1b2a0, isMl, a5]
theorem n4_in_n (h1 : cf 34 [.v b'.enc, .v (encP p)] = .ret (.v (optE (b'.mv p))) []) (hm : b'.mv p = none) :
    forT cf [0] (.inl [6, 7]) q_law_right_4.t2b1b0 (.tuple [.int J, encP p]) [e0, e1, e2, e3, some (.ml (encB (L ++ [b']))), some (.v .none), e6, e7, e8, e9, e10, e11, e12, e13, e14, e15] = .ok .nx [e0, e1, e2, e3, some (.ml (encB (L ++ [b']))), some (.v (.int J)), some (.v (.int J)), some (.v (encP p)), some (.v .none), e9, e10, e11, e12, e13, e14, e15] := by
  have a1 : opf2 .isN .none .none = some (.v (.bool true)) := rfl
  have a2 : opf2 .idx (.list (encB (L ++ [b']))) (.int (-1)) = some (.v b'.enc) := by rw [encB, List.map_append]; exact o_last (L := encB L) (d := b'.enc)
  have a4 : opf2 .notN .none .none = some (.v (.bool false)) := rfl
  rw [hm] at h1
  simp only [optE] at h1
  generalize encB (L ++ [b']) = X at a2 ⊢
  rw [forT]
  simp only [setTg, setTgs, List.set]
  rw [q_law_right_4.t2b1b0]
  simp [a1, i_neg, a2, h1, enc_fzB, handsOk, ioNames, putBack, free]
  rw [q_law_right_4.t2b1b1]
  simp [a1, q_law_right_4.t2b1b1a0, free]
  rw [q_law_right_4.t2b1b2]
  simp [a4]
theorem n4_in_o  :
    forT cf [0] (.inl [6, 7]) q_law_right_4.t2b1b0 (.tuple [.int J, encP p]) [e0, e1, e2, e3, e4, some (.v (.int M)), e6, e7, e8, e9, e10, e11, e12, e13, e14, e15] = .ok .nx [e0, e1, e2, e3, e4, some (.v (.int M)), some (.v (.int J)), some (.v (encP p)), some (.v .none), e9, e10, e11, e12, e13, e14, e15] := by
  have a1 : opf2 .isN (.int M) .none = some (.v (.bool false)) := rfl
  have a2 : opf2 .isN .none .none = some (.v (.bool true)) := rfl
  have a4 : opf2 .notN .none .none = some (.v (.bool false)) := rfl
  rw [forT]
  simp only [setTg, setTgs, List.set]
  rw [q_law_right_4.t2b1b0]
  simp [a1, free]
  rw [q_law_right_4.t2b1b1]
  simp [a1, a2]
  rw [q_law_right_4.t2b1b2]
  simp [a4]
theorem n4_2b2 (hs : opf2 .isN S .none = some (.v (.bool K9))) :
    evSs cf [0] q_law_right_4.t2b2 [e0, e1, e2, e3, e4, some (.v S), e6, e7, e8, e9, e10, e11, e12, e13, e14, e15] = evSs cf [0] q_law_right_4.t2b3 [e0, e1, e2, e3, e4, some (.v S), e6, e7, e8, some (.v (.bool K9)), e10, e11, e12, e13, e14, e15] := by
  rw [q_law_right_4.t2b2]
  exact st_asg (o := .v (.bool K9)) (env' := [e0, e1, e2, e3, e4, some (.v S), e6, e7, e8, e9, e10, e11, e12, e13, e14, e15]) rfl (by simp [hs, handsOk, ioNames, putBack]) rfl
theorem n4_2b3  :
    evSs cf [0] q_law_right_4.t2b3 [e0, e1, e2, e3, some (.ml (encB (L ++ [g]))), some (.v .none), e6, e7, e8, some (.v (.bool true)), e10, e11, e12, e13, e14, e15] = evSs cf [0] q_law_right_4.t2b4 [e0, e1, e2, e3, some (.ml (encB (L ++ [g]))), some (.v .none), e6, e7, e8, some (.v (.bool true)), some (.v (.list [g.enc, .tuple (encB (L ++ [g])), .none])), e11, e12, e13, e14, e15] := by
  have a2 : opf2 .idx (.list (encB (L ++ [g]))) (.int (-1)) = some (.v g.enc) := by rw [encB, List.map_append]; exact o_last (L := encB L) (d := g.enc)
  have a3 : opf1 .tuple (.list (encB (L ++ [g]))) = some (.v (.tuple (encB (L ++ [g])))) := rfl
  generalize encB (L ++ [g]) = X at a2 a3 ⊢
  rw [q_law_right_4.t2b3]
  exact st_asg (o := .ml [g.enc, .tuple X, .none]) (env' := [e0, e1, e2, e3, some (.ml X), some (.v .none), e6, e7, e8, some (.v (.bool true)), e10, e11, e12, e13, e14, e15]) rfl (by simp [a2, a3, i_neg, enc_fz, handsOk, ioNames, putBack]) rfl
theorem n4_2b3n  :
    evSs cf [0] q_law_right_4.t2b3 [e0, e1, e2, e3, e4, some (.v (.int M)), e6, e7, e8, some (.v (.bool false)), e10, e11, e12, e13, e14, e15] = evSs cf [0] q_law_right_4.t2b4 [e0, e1, e2, e3, e4, some (.v (.int M)), e6, e7, e8, some (.v (.bool false)), some (.v (.list [.list [.str "can not", .bool true], .list [.str "can not", .bool true], .int M])), e11, e12, e13, e14, e15] := by
  rw [q_law_right_4.t2b3]
  exact st_asg (o := .ml [.list [.str "can not", .bool true], .list [.str "can not", .bool true], .int M]) (env' := [e0, e1, e2, e3, e4, some (.v (.int M)), e6, e7, e8, some (.v (.bool false)), e10, e11, e12, e13, e14, e15]) rfl (by simp [y_fzm, handsOk, ioNames, putBack]) rfl
theorem n4_2b4 (h1 : cf 26 [.v b.enc] = .ret (.ml Lb) []) (h3 : cf 26 [.v (encR ps)] = .ret (.ml Lp) []) (h2 : cf 37 [.v (.int 0), .v (.list Lb), .v (encR ps)] = .ret (.v g.enc) []) (h4 : cf 37 [.v (.int 1), .v b.enc, .v (.list Lp)] = .ret (.v (.tuple (encB (L ++ [g])))) []) (h5 : cf 20 [.v b.enc, .v (encR ps)] = .ret (.v S) []) (h6 : cf 20 [.v b.enc, .v (.list (ps.map encP))] = .ret (.v S) []) (hS : ∀ env, fzR (.v S) env = .ok S env) :
    evSs cf [0] q_law_right_4.t2b4 [e0, some (.v b.enc), some (.v (encR ps)), e3, e4, e5, e6, e7, e8, e9, e10, e11, e12, e13, e14, e15] = evSs cf [0] q_law_right_4.t2b5 [e0, some (.v b.enc), some (.v (encR ps)), e3, e4, e5, e6, e7, e8, e9, e10, some (.v (.list [g.enc, .tuple (encB (L ++ [g])), S, S])), e12, e13, e14, e15] := by
  have y2 : opf1 .list (encR ps) = some (.ml (ps.map encP)) := rfl
  generalize encB (L ++ [g]) = X at h4 ⊢
  rw [q_law_right_4.t2b4]
  exact st_asg (o := .ml [g.enc, .tuple X, S, S]) (env' := [e0, some (.v b.enc), some (.v (encR ps)), e3, e4, e5, e6, e7, e8, e9, e10, e11, e12, e13, e14, e15]) rfl (by simp [h1, h2, h3, h4, h5, h6, hS, y2, pickD, handsOk, ioNames, putBack]) rfl
theorem n4_2b4n (h1 : cf 26 [.v b.enc] = .ret (.ml Lb) []) (h3 : cf 26 [.v (encR ps)] = .ret (.ml Lp) []) (h2 : cf 37 [.v (.int 0), .v (.list Lb), .v (encR ps)] = .ret (.ml [.str "can not", .bool true]) []) (h4 : cf 37 [.v (.int 1), .v b.enc, .v (.list Lp)] = .ret (.ml [.str "can not", .bool true]) []) (h5 : cf 20 [.v b.enc, .v (encR ps)] = .ret (.v S) []) (h6 : cf 20 [.v b.enc, .v (.list (ps.map encP))] = .ret (.v S) []) (hS : ∀ env, fzR (.v S) env = .ok S env) :
    evSs cf [0] q_law_right_4.t2b4 [e0, some (.v b.enc), some (.v (encR ps)), e3, e4, e5, e6, e7, e8, e9, e10, e11, e12, e13, e14, e15] = evSs cf [0] q_law_right_4.t2b5 [e0, some (.v b.enc), some (.v (encR ps)), e3, e4, e5, e6, e7, e8, e9, e10, some (.v (.list [.list [.str "can not", .bool true], .list [.str "can not", .bool true], S, S])), e12, e13, e14, e15] := by
  have y2 : opf1 .list (encR ps) = some (.ml (ps.map encP)) := rfl
  rw [q_law_right_4.t2b4]
  exact st_asg (o := .ml [.list [.str "can not", .bool true], .list [.str "can not", .bool true], S, S]) (env' := [e0, some (.v b.enc), some (.v (encR ps)), e3, e4, e5, e6, e7, e8, e9, e10, e11, e12, e13, e14, e15]) rfl (by simp [h1, h2, h3, h4, h5, h6, hS, y2, pickD, handsOk, ioNames, putBack]) rfl
theorem n4_2b5 (h1 : cf 27 [.v (.list [X0, Y0, .none, .none]), .v (.list [X0, Y0, .none, .none])] = .ret (.v (.bool true)) []) :
    evSs cf [0] q_law_right_4.t2b5 [e0, e1, e2, e3, e4, some (.v .none), e6, e7, e8, e9, some (.v (.list [X0, Y0, .none])), some (.v (.list [X0, Y0, .none, .none])), e12, e13, e14, e15] = evSs cf [0] q_law_right_4.t2b6 [e0, e1, e2, e3, e4, some (.v .none), e6, e7, e8, e9, some (.v (.list [X0, Y0, .none])), some (.v (.list [X0, Y0, .none, .none])), e12, e13, e14, e15] := by
  have a1 : opf2 .add (.list [X0, Y0, .none]) (.list [.none]) = some (.ml [X0, Y0, .none, .none]) := rfl
  rw [q_law_right_4.t2b5]
  exact st_skipQ (by simp [a1, h1, handsOk, ioNames, putBack]) (y_ss0 ..)
theorem n4_2b5n (h1 : cf 27 [.v (.list [X0, Y0, (.int M), (.int M)]), .v (.list [X0, Y0, (.int M), (.int M)])] = .ret (.v (.bool true)) []) :
    evSs cf [0] q_law_right_4.t2b5 [e0, e1, e2, e3, e4, some (.v (.int M)), e6, e7, e8, e9, some (.v (.list [X0, Y0, (.int M)])), some (.v (.list [X0, Y0, (.int M), (.int M)])), e12, e13, e14, e15] = evSs cf [0] q_law_right_4.t2b6 [e0, e1, e2, e3, e4, some (.v (.int M)), e6, e7, e8, e9, some (.v (.list [X0, Y0, (.int M)])), some (.v (.list [X0, Y0, (.int M), (.int M)])), e12, e13, e14, e15] := by
  have a1 : opf2 .add (.list [X0, Y0, (.int M)]) (.list [(.int M)]) = some (.ml [X0, Y0, (.int M), (.int M)]) := rfl
  rw [q_law_right_4.t2b5]
  exact st_skipQ (by simp [a1, h1, handsOk, ioNames, putBack]) (y_ss0 ..)
theorem n4_2b6a0 (hp : ∀ c ∈ L ++ [g], cf 11 [.v c.enc] = .ret (.v (.int (c.leaves : Int))) []) (hl : L.length ≤ 1000) (h1 : cf 19 [.v b.enc, .v (encR ps)] = .ret (.v g.enc) []) (h2 : cf 21 [.v b.enc, .v (encR ps)] = .ret (.v (.tuple (encB (L ++ [g])))) []) :
    evSs cf [0] q_law_right_4.t2b6a0 [e0, some (.v b.enc), some (.v (encR ps)), e3, some (.ml (encB (L ++ [g]))), e5, e6, e7, e8, e9, e10, e11, none, e13, e14, e15] = evSs cf [0] q_law_right_4.t2b6a1 [e0, some (.v b.enc), some (.v (encR ps)), e3, some (.v (.list (encB (L ++ [g])))), e5, e6, e7, e8, e9, e10, some (.v (.list [g.enc, .tuple (encB (L ++ [g])), (.list ((L ++ [g]).map fun c => .int (c.leaves : Int)))])), none, e13, e14, e15] := by
  have c0 : evE cf [0] q_law_right_4.t2b6a0c0 [e0, some (.v b.enc), some (.v (encR ps)), e3, some (.ml (encB (L ++ [g]))), e5, e6, e7, e8, e9, e10, e11, none, e13, e14, e15] = .ok (.ml ((L ++ [g]).map fun c => .int (c.leaves : Int))) [e0, some (.v b.enc), some (.v (encR ps)), e3, some (.v (.list (encB (L ++ [g])))), e5, e6, e7, e8, e9, e10, e11, none, e13, e14, e15] :=
    lc_mapQ Bush.enc (fun c => .v (.int (c.leaves : Int))) (fun c => .int (c.leaves : Int)) (by rfl) (by simp [itemsOf]) rfl (by rw [lim_nat, List.length_append, List.length_singleton]; omega) fun c hc => ⟨_, rfl, rfl, by
      have h := hp c hc
      generalize (c.leaves : Int) = n at h
      simp [h, enc_fzB, handsOk, ioNames, putBack], fun _ => rfl⟩
  generalize (L ++ [g]).map (fun c => PyData.int (c.leaves : Int)) = LV at c0 ⊢
  generalize encB (L ++ [g]) = X at h2 c0 ⊢
  rw [q_law_right_4.t2b6a0]
  exact st_asg (o := .ml [g.enc, .tuple X, (.list LV)]) (env' := [e0, some (.v b.enc), some (.v (encR ps)), e3, some (.v (.list X)), e5, e6, e7, e8, e9, e10, e11, none, e13, e14, e15]) rfl (by simp [h1, h2, c0, pickD, handsOk, ioNames, putBack]) rfl
theorem n4_2b6a1 (hp : ∀ c ∈ L ++ [g], cf 29 [.v c.enc] = .ret (.v (.int (c.leaves : Int))) []) (hl : L.length ≤ 1000) (hs : opf1 .sorted (.list ((L ++ [g]).map fun c => .int (c.leaves : Int))) = some (.ml ((L ++ [g]).map fun c => .int (c.leaves : Int)))) (h1 : cf 27 [.v (.list [g.enc, .tuple (encB (L ++ [g])), (.list ((L ++ [g]).map fun c => .int (c.leaves : Int)))]), .v (.list [g.enc, .tuple (encB (L ++ [g])), (.list ((L ++ [g]).map fun c => .int (c.leaves : Int)))])] = .ret (.v (.bool true)) []) :
    evSs cf [0] q_law_right_4.t2b6a1 [e0, e1, e2, e3, some (.v (.list (encB (L ++ [g])))), e5, e6, e7, e8, e9, e10, some (.v (.list [g.enc, .tuple (encB (L ++ [g])), (.list ((L ++ [g]).map fun c => .int (c.leaves : Int)))])), none, e13, e14, e15] = evSs cf [0] q_law_right_4.t2b6a2 [e0, e1, e2, e3, some (.v (.list (encB (L ++ [g])))), e5, e6, e7, e8, e9, e10, some (.v (.list [g.enc, .tuple (encB (L ++ [g])), (.list ((L ++ [g]).map fun c => .int (c.leaves : Int)))])), none, e13, e14, e15] := by
  have c1 : evE cf [0] q_law_right_4.t2b6a1c0 [e0, e1, e2, e3, some (.v (.list (encB (L ++ [g])))), e5, e6, e7, e8, e9, e10, some (.v (.list [g.enc, .tuple (encB (L ++ [g])), (.list ((L ++ [g]).map fun c => .int (c.leaves : Int)))])), none, e13, e14, e15] = .ok (.ml ((L ++ [g]).map fun c => .int (c.leaves : Int))) [e0, e1, e2, e3, some (.v (.list (encB (L ++ [g])))), e5, e6, e7, e8, e9, e10, some (.v (.list [g.enc, .tuple (encB (L ++ [g])), (.list ((L ++ [g]).map fun c => .int (c.leaves : Int)))])), none, e13, e14, e15] :=
    lc_mapQ Bush.enc (fun c => .v (.int (c.leaves : Int))) (fun c => .int (c.leaves : Int)) (by rfl) (by simp [itemsOf]) rfl (by rw [lim_nat, List.length_append, List.length_singleton]; omega) fun c hc => ⟨_, rfl, rfl, by
      have h := hp c hc
      generalize (c.leaves : Int) = n at h
      simp [h, enc_fzB, handsOk, ioNames, putBack], fun _ => rfl⟩
  have a2 : opf2 .idx (.list (encB (L ++ [g]))) (.int (-1)) = some (.v g.enc) := by rw [encB, List.map_append]; exact o_last (L := encB L) (d := g.enc)
  have a3 : opf1 .tuple (.list (encB (L ++ [g]))) = some (.v (.tuple (encB (L ++ [g])))) := rfl
  generalize (L ++ [g]).map (fun c => PyData.int (c.leaves : Int)) = LV at c1 h1 hs ⊢
  generalize encB (L ++ [g]) = X at h1 a2 a3 c1 ⊢
  rw [q_law_right_4.t2b6a1]
  exact st_skipQ (by simp [a2, a3, i_neg, y_A1n q_law_right_4.t2b6a1c0_x, c1, hs, h1, enc_fz, handsOk, ioNames, putBack]) (y_ss0 ..)
theorem n4_2b6a2  :
    evSs cf [0] q_law_right_4.t2b6a2 [e0, some (.v b.enc), e2, e3, e4, e5, e6, e7, e8, e9, e10, e11, e12, e13, e14, e15] = evSs cf [0] q_law_right_4.t2b6a3 [e0, some (.v b.enc), e2, e3, e4, e5, e6, e7, e8, e9, e10, e11, e12, some (.v b.enc), e14, e15] := by
  rw [q_law_right_4.t2b6a2]
  exact st_asg (o := .v b.enc) (env' := [e0, some (.v b.enc), e2, e3, e4, e5, e6, e7, e8, e9, e10, e11, e12, e13, e14, e15]) rfl (by simp [enc_fzB, handsOk, ioNames, putBack]) rfl
theorem n4_mv (h1 : cf 18 [.v b'.enc, .v (encP p)] = .ret (.v c.enc) []) :
    forT cf [0] (.inr 7) q_law_right_4.t2b6a3b0 (encP p) [e0, e1, e2, e3, e4, e5, e6, e7, e8, e9, e10, e11, e12, some (.v b'.enc), e14, e15] = .ok .nx [e0, e1, e2, e3, e4, e5, e6, some (.v (encP p)), e8, e9, e10, e11, e12, some (.v c.enc), e14, e15] := by
  rw [forT]
  simp only [setTg, List.set]
  rw [q_law_right_4.t2b6a3b0]
  simp [h1, enc_fzB, free, handsOk, ioNames, putBack]
theorem n4_2b6a4 (h1 : cf 23 [.ml u0, .v (.int ((ps.length : Int) + 1))] = .ret (.v (.int V)) [.ml u1]) :
    evSs cf [0] q_law_right_4.t2b6a4 [some (.ml u0), e1, some (.v (encR ps)), e3, e4, e5, e6, e7, e8, e9, e10, e11, e12, e13, e14, e15] = evSs cf [0] q_law_right_4.t2b6a5 [some (.ml u1), e1, some (.v (encR ps)), e3, e4, e5, some (.v (.int V)), e7, e8, e9, e10, e11, e12, e13, e14, e15] := by
  have l1 : opf1 .len (encR ps) = some (.v (.int (ps.length : Int))) := o_len (by rw [lenf, List.length_map]; rfl)
  generalize (ps.length : Int) = n at l1 h1
  rw [q_law_right_4.t2b6a4]
  exact st_asg (o := .v (.int V)) (env' := [some (.ml u1), e1, some (.v (encR ps)), e3, e4, e5, e6, e7, e8, e9, e10, e11, e12, e13, e14, e15]) rfl (by simp [l1, i_add, h1, handsOk, ioNames, putBack]) rfl
theorem n4_2b6a5 (h1 : cf 19 [.v b.enc, .v (encR (ps.take k))] = .ret (.v c.enc) []) (h2 : cf 19 [.v c.enc, .v (encR (ps.drop k))] = .ret (.v g.enc) []) (h3 : cf 27 [.v (.list [g.enc, g.enc]), .v (.list [g.enc, g.enc])] = .ret (.v (.bool true)) []) :
    evSs cf [0] q_law_right_4.t2b6a5 [e0, some (.v b.enc), some (.v (encR ps)), e3, some (.v (.list (encB (L ++ [g])))), e5, some (.v (.int (k : Int))), e7, e8, e9, e10, e11, e12, some (.v g.enc), e14, e15] = .ok .nx [e0, some (.v b.enc), some (.v (encR ps)), e3, some (.v (.list (encB (L ++ [g])))), e5, some (.v (.int (k : Int))), e7, e8, e9, e10, e11, e12, some (.v g.enc), e14, e15] := by
  have s1 : opf2 (.slice false true) (encR ps) (.int (k : Int)) = some (.v (encR (ps.take k))) := r_take
  have s2 : opf2 (.slice true false) (encR ps) (.int (k : Int)) = some (.v (encR (ps.drop k))) := r_drop
  have a2 : opf2 .idx (.list (encB (L ++ [g]))) (.int (-1)) = some (.v g.enc) := by rw [encB, List.map_append]; exact o_last (L := encB L) (d := g.enc)
  generalize encB (L ++ [g]) = X at a2 ⊢
  generalize ps.take k = p1 at s1 h1
  generalize ps.drop k = p2 at s2 h2
  generalize (k : Int) = n at s1 s2 ⊢
  rw [q_law_right_4.t2b6a5, st_skipQ (by simp [s1, s2, a2, i_neg, h1, h2, h3, enc_fz, enc_fzB, handsOk, ioNames, putBack]) (y_ss0 ..), y_ss0]
theorem n4_2b7 (h1 : cf 23 [.ml u0, .v (.int ((ps.length : Int) + 1))] = .ret (.v (.int V)) [.ml u1]) :
    evSs cf [0] q_law_right_4.t2b7 [some (.ml u0), e1, some (.v (encR ps)), e3, e4, e5, e6, e7, e8, e9, e10, e11, e12, e13, e14, e15] = evSs cf [0] q_law_right_4.t2b8 [some (.ml u1), e1, some (.v (encR ps)), e3, e4, e5, some (.v (.int V)), e7, e8, e9, e10, e11, e12, e13, e14, e15] := by
  have l1 : opf1 .len (encR ps) = some (.v (.int (ps.length : Int))) := o_len (by rw [lenf, List.length_map]; rfl)
  generalize (ps.length : Int) = n at l1 h1
  rw [q_law_right_4.t2b7]
  exact st_asg (o := .v (.int V)) (env' := [some (.ml u1), e1, some (.v (encR ps)), e3, e4, e5, e6, e7, e8, e9, e10, e11, e12, e13, e14, e15]) rfl (by simp [l1, i_add, h1, handsOk, ioNames, putBack]) rfl
theorem n4_2b8 (h1 : evE cf [0] q_law_right_4.t2b8c0 [some (.ml u0), e1, e2, e3, e4, e5, e6, e7, e8, e9, e10, e11, e12, e13, e14, none] = .ok (.ml (p.map bitP)) [some (.ml u1), e1, e2, e3, e4, e5, e6, e7, e8, e9, e10, e11, e12, e13, e14, none]) :
    evSs cf [0] q_law_right_4.t2b8 [some (.ml u0), e1, e2, e3, e4, e5, e6, e7, e8, e9, e10, e11, e12, e13, e14, none] = evSs cf [0] q_law_right_4.t2b9 [some (.ml u1), e1, e2, e3, e4, e5, e6, e7, e8, e9, e10, e11, e12, e13, some (.v (encP p)), none] := by
  have a1 : opf1 .tuple (.list (p.map bitP)) = some (.v (encP p)) := rfl
  rw [q_law_right_4.t2b8]
  exact st_asg (o := .v (encP p)) (env' := [some (.ml u1), e1, e2, e3, e4, e5, e6, e7, e8, e9, e10, e11, e12, e13, e14, none]) rfl (by simp [y_A1n q_law_right_4.t2b8c0_x, h1, a1]) rfl
theorem n4_2b9 (hl : ps.length ≤ 1000) (h1 : cf 25 [.ml u0, .v (.list [encR (ps.take k ++ [p] ++ ps.drop k), encR (ps.take k ++ ps.drop (k + 1)), encR ps.reverse, encR (ps.take k ++ [p] ++ ps.drop (k + 1))])] = .ret (.v (encR qs)) [.ml u1]) :
    evSs cf [0] q_law_right_4.t2b9 [some (.ml u0), e1, some (.v (encR ps)), e3, e4, e5, some (.v (.int (k : Int))), e7, e8, e9, e10, e11, e12, e13, some (.v (encP p)), e15] = .ok .nx [some (.ml u1), e1, some (.v (encR qs)), e3, e4, e5, some (.v (.int (k : Int))), e7, e8, e9, e10, e11, e12, e13, some (.v (encP p)), e15] := by
  have s1 : opf2 (.slice false true) (encR ps) (.int (k : Int)) = some (.v (encR (ps.take k))) := r_take
  have s2 : opf2 (.slice true false) (encR ps) (.int (k : Int)) = some (.v (encR (ps.drop k))) := r_drop
  have s3 : opf2 (.slice true false) (encR ps) (.int ((k : Int) + 1)) = some (.v (encR (ps.drop (k + 1)))) := r_drop (k := k + 1)
  have s4 : opf1 .rev (encR ps) = some (.v (encR ps.reverse)) := r_rev
  have lt : (ps.take k).length ≤ 1000 := by rw [List.length_take]; omega
  have ld : (ps.drop k).length ≤ 1000 := by rw [List.length_drop]; omega
  have ld2 : (ps.drop (k + 1)).length ≤ 1000 := by rw [List.length_drop]; omega
  have b1 : opf2 .add (encR (ps.take k)) (.tuple [encP p]) = some (.v (encR (ps.take k ++ [p]))) := r_add (a := ps.take k) (b := [p]) (by rw [List.length_singleton]; omega)
  have b2 := r_add (a := ps.take k ++ [p]) (b := ps.drop k) (by rw [List.length_append, List.length_singleton]; omega)
  have b3 := r_add (a := ps.take k) (b := ps.drop (k + 1)) (by omega)
  have b4 := r_add (a := ps.take k ++ [p]) (b := ps.drop (k + 1)) (by rw [List.length_append, List.length_singleton]; omega)
  generalize ps.take k ++ [p] ++ ps.drop k = r1 at b2 h1
  generalize ps.take k ++ ps.drop (k + 1) = r2 at b3 h1
  generalize ps.take k ++ [p] ++ ps.drop (k + 1) = r3 at b4 h1
  generalize ps.take k ++ [p] = r4 at b1 b2 b4
  generalize ps.reverse = r5 at s4 h1
  generalize ps.take k = r6 at s1 b1 b3
  generalize ps.drop k = r7 at s2 b2
  generalize ps.drop (k + 1) = r8 at s3 b3 b4
  generalize (k : Int) = n at s1 s2 s3 ⊢
  rw [q_law_right_4.t2b9]
  exact (st_asg (o := .v (encR qs)) (env' := [some (.ml u1), e1, some (.v (encR ps)), e3, e4, e5, some (.v (.int n)), e7, e8, e9, e10, e11, e12, e13, some (.v (encP p)), e15]) rfl (by simp [s1, s2, s3, s4, i_add, b1, b2, b3, b4, h1, handsOk, ioNames, putBack]) rfl).trans (y_ss0 ..)
theorem n4_3 (h1 : cf 19 [.v (.tuple []), .v (.tuple [])] = .ret (.v (.tuple [])) []) (h2 : cf 21 [.v (.tuple []), .v (.tuple [])] = .ret (.v (.tuple [.tuple []])) []) (h3 : cf 20 [.v (.tuple []), .v (.tuple [])] = .ret (.v .none) []) (h4 : cf 20 [.v (.tuple []), .v (.tuple [.tuple []])] = .ret (.v (.int 0)) []) (h5 : cf 20 [.v (.tuple [.tuple [], .tuple []]), .v (.tuple [.tuple [.int 0, .int 0]])] = .ret (.v (.int 0)) []) (h6 : cf 27 [.v (.list [.tuple [], .tuple [.tuple []], .none, .int 0, .int 0]), .v (.list [.tuple [], .tuple [.tuple []], .none, .int 0, .int 0])] = .ret (.v (.bool true)) []) :
    evSs cf [0] q_law_right_4.t3 [e0, e1, e2, e3, e4, e5, e6, e7, e8, e9, e10, e11, e12, e13, e14, e15] = .ok (.rt (.v (.bool true))) [e0, e1, e2, e3, e4, e5, e6, e7, e8, e9, e10, e11, e12, e13, e14, e15] := by
  rw [q_law_right_4.t3]
  simp [h1, h2, h3, h4, h5, h6, handsOk, ioNames, putBack]
end
end Pv
-- PvDraw
set_option maxRecDepth 100000
namespace Pv
open PySem L2
section
variable {cf : Nat → List Ob → CR} {lk : List Nat} {own : List Nat} {tg : List Nat ⊕ Nat}
theorem restore_none : ∀ (l : List Nat) (env0 env : En), (∀ i ∈ l, env0[i]? = some none) → restore env0 env l = wipeL env l
  | [], _, _, _ => rfl
  | i :: l, env0, env, h => by
    rw [restore, h i List.mem_cons_self]
    exact restore_none l env0 _ fun j hj => h j (List.mem_cons_of_mem _ hj)
theorem loop_state {elt : En → Rs Ob} {Inv : Nat → En → Prop} {Q : PV → Prop} {N : Nat} : ∀ (ds acc : List PV) (i : Nat) (env : En), i + ds.length ≤ N → acc.length + ds.length ≤ lim → Inv i (wipeL env own) →
    (∀ i e d, i < N → d ∈ ds → Inv i (wipeL e own) → ∃ e1 o y e3, setTg (wipeL e own) tg d = some e1 ∧ elt e1 = .ok o e3 ∧ fzR o e3 = .ok y e3 ∧ Q y ∧ Inv (i + 1) (wipeL e3 own)) →
    ∃ ys e', loopL (turnL own tg (fun env => .ok true env) elt) ds acc env = .ok (acc ++ ys) e' ∧ ys.length = ds.length ∧ (∀ y ∈ ys, Q y) ∧ Inv (i + ds.length) (wipeL e' own)
  | [], acc, i, env, _, _, h0, _ => ⟨[], env, by rw [loopL, List.append_nil], rfl, by simp, h0⟩
  | d :: ds, acc, i, env, hN, hl, h0, h => by
    rw [List.length_cons] at hl hN
    obtain ⟨e1, o, y, e3, q1, q2, q3, q4, q5⟩ := h i env d (by omega) List.mem_cons_self h0
    obtain ⟨ys, e', r1, r2, r3, r4⟩ := loop_state (elt := elt) (Inv := Inv) (Q := Q) ds (acc ++ [y]) (i + 1) e3 (by omega) (by rw [List.length_append, List.length_singleton]; omega) q5 fun i e d hi hd => h i e d hi (List.mem_cons_of_mem _ hd)
    refine ⟨y :: ys, e', ?_, by simp [r2], ?_, ?_⟩
    · have hlt : acc.length < lim := by omega
      have t : turnL own tg (fun env => .ok true env) elt d acc env = .ok (acc ++ [y]) e3 := by
        unfold turnL
        rw [q1]
        simp only [Rs.bind_ok, if_true, q2, q3, if_pos hlt]
      rw [loopL, t]
      simp only [r1, List.append_assoc, List.cons_append, List.nil_append]
    · intro z hz
      rcases List.mem_cons.mp hz with e | hz
      · rw [e]; exact q4
      · exact r3 z hz
    · rw [List.length_cons, show i + (ds.length + 1) = i + 1 + ds.length by omega]; exact r4
theorem lc_state {it : IT} {elt : IE} {env env0 : En} {ds : List PV} {Inv : Nat → En → Prop} {Q : PV → Prop} (hlk : own.any (fun i => lk.contains i) = false) (hit : evIt cf lk it env = .ok ds env0) (hn : ∀ i ∈ own, env0[i]? = some none) (h0 : Inv 0 (wipeL env0 own)) (hl : ds.length ≤ lim)
    (h : ∀ i e d, i < ds.length → d ∈ ds → Inv i (wipeL e own) → ∃ e1 o y e3, setTg (wipeL e own) tg d = some e1 ∧ evE cf lk elt e1 = .ok o e3 ∧ fzR o e3 = .ok y e3 ∧ Q y ∧ Inv (i + 1) (wipeL e3 own)) :
    ∃ ys e', evE cf lk (.lc own tg it .nil elt) env = .ok (.ml ys) e' ∧ ys.length = ds.length ∧ (∀ y ∈ ys, Q y) ∧ Inv ds.length e' := by
  have hw : Inv 0 (wipeL (wipeL env0 own) own) := by rw [wipeL_idem]; exact h0
  obtain ⟨ys, e', r1, r2, r3, r4⟩ := loop_state (elt := fun env => evE cf lk elt env) (Inv := Inv) (Q := Q) (N := ds.length) ds [] 0 (wipeL env0 own) (by omega) (by simpa using hl) hw h
  refine ⟨ys, wipeL e' own, ?_, r2, r3, by rw [Nat.zero_add] at r4; exact r4⟩
  rw [y_lc, hlk, hit]
  simp only [Bool.false_eq_true, if_false, Rs.bind_ok]
  have e : (fun env => evK cf lk .nil env) = fun env => Rs.ok true env := by funext env; rw [y_k0]
  rw [e, r1]
  simp only [Rs.bind_ok, List.nil_append]
  rw [restore_none _ _ _ hn]
end
end Pv
-- PvLawB
set_option maxRecDepth 100000
namespace Pv
open PySem L2
theorem rangeL_mem {n : Nat} {a : Int} {d : PV} (h : d ∈ rangeL a n 1) : ∃ j : Nat, j < n ∧ d = .int (a + j) := by
  obtain ⟨j, hj, rfl⟩ := List.mem_map.mp h
  exact ⟨j, List.mem_range.mp hj, by simp⟩
theorem law2_turn {T : Nat → Option FD} {r bx : Nat} (k : Nat) {J : Int} {d0 : PV} {cs : List PV} {A B A' B' C' : Int} (b1 : runF T k bx [.v (.list cs), .v (.int J)] = .ret (.ml (tin A B 0)) []) (b3 : runF T k r [.ml (tin A B 0)] = .ret (.v (.bool true)) [.ml (tin A' B' C')]) :
    evE (runF T k) [] (.call r (.cons true (.call bx (.cons false (.x 1) (.cons false (.x 2) .nil))) .nil)) [some (.v d0), some (.v (.list cs)), some (.v (.int J))] = .ok (.v (.bool true)) [some (.v d0), some (.v (.list cs)), some (.v (.int J))] := by
  have c1 : evE (runF T k) [] (.call bx (.cons false (.x 1) (.cons false (.x 2) .nil))) [some (.v d0), some (.v (.list cs)), some (.v (.int J))] = .ok (.ml (tin A B 0)) [some (.v d0), some (.v (.list cs)), some (.v (.int J))] := by
    simp [b1, handsOk, ioNames, putBack]
  rw [y_call, y_C1, y_Ct, y_A1call, c1]
  simp [b3, handsOk, ioNames, putBack]
theorem law2_comp {T : Nat → Option FD} {r bx : Nat} {cc : Int} (hb : T bx = some ⟨2, 3, [], q_law_box cc⟩) (k : Nat) (h : ∀ A B, 0 ≤ A → ∃ A' B' C', runF T (k + 1) r [.ml (tin A B 0)] = .ret (.v (.bool true)) [.ml (tin A' B' C')]) {d0 : PV} {cs : List Int} (h3 : cs.length ≤ 63) :
    evE (runF T (k + 1)) [] (.lc [2] (.inr 2) (.range (.cons false (.op .len (.cons false (.x 1) .nil)) .nil)) .nil (.call r (.cons true (.call bx (.cons false (.x 1) (.cons false (.x 2) .nil))) .nil))) [some (.v d0), some (.v (.list (cs.map .int))), none] =
      .ok (.ml ((rangeL 0 cs.length 1).map fun _ => .bool true)) [some (.v d0), some (.v (.list (cs.map .int))), none] := by
  have hr : rangeV [.int (cs.length : Int)] = some (rangeL 0 cs.length 1) := by
    have h1 : decide (-(2 ^ 62) ≤ (cs.length : Int)) = true := decide_eq_true (by omega)
    have h2 : decide ((cs.length : Int) < 2 ^ 62) = true := decide_eq_true (by omega)
    simp only [rangeV, h1, h2, Bool.and_self, if_true, Int.toNat_natCast]
  refine lc_map _ (by simp) ?_ rfl (by rw [rangeL_length]; simp; omega) fun d hd => ?_
  · have hlen : lenf (.list (cs.map PyData.int)) = some (.v (.int cs.length)) := by simp [lenf, vI]
    generalize (cs.length : Int) = L at hr hlen
    have c1 : evF (runF T (k + 1)) [] (.cons false (.op .len (.cons false (.x 1) .nil)) .nil) [some (.v d0), some (.v (.list (cs.map .int))), none] = .ok [.int L] [some (.v d0), some (.v (.list (cs.map .int))), none] := by
      simp [opf1, hlen]
    rw [y_range, c1, Rs.bind_ok, hr, optR_some]
  · obtain ⟨j, hj, rfl⟩ := rangeL_mem hd
    obtain ⟨A, B, b1, b2⟩ := box_spec hb k cs j hj (by omega)
    obtain ⟨A', B', C', b3⟩ := h A B b2
    rw [Int.zero_add]
    exact ⟨[some (.v d0), some (.v (.list (cs.map .int))), some (.v (.int j))], .v (.bool true), [some (.v d0), some (.v (.list (cs.map .int))), some (.v (.int j))], rfl, law2_turn (k + 1) b1 b3, rfl, rfl⟩
theorem law2_fin {T : Nat → Option FD} {i c r bx : Nat} {d0 : PV} {M : Int} {cs ds : List PV} (hT : T i = some ⟨1, 3, [], q_law_2 c r bx⟩) (k : Nat) (hM : M = 2)
    (h1 : runF T k c [.v d0, .v (.int M)] = .ret (.ml cs) [])
    (hl : evE (runF T k) [] (.lc [2] (.inr 2) (.range (.cons false (.op .len (.cons false (.x 1) .nil)) .nil)) .nil (.call r (.cons true (.call bx (.cons false (.x 1) (.cons false (.x 2) .nil))) .nil))) [some (.v d0), some (.v (.list cs)), none] = .ok (.ml ds) [some (.v d0), some (.v (.list cs)), none])
    (ha : allf (.list ds) = some (.v (.bool true))) : runF T (k + 1) i [.v d0] = .ret (.v (.bool true)) [] := by
  subst hM
  have c1 : evE (runF T k) [] (.call c (.cons false (.x 0) (.cons false (.c (.int 2)) .nil))) [some (.v d0), none, none] = .ok (.ml cs) [some (.v d0), none, none] := by
    simp [h1, handsOk, ioNames, putBack]
  have c2 : evE (runF T k) [] (.op .all (.cons false (.lc [2] (.inr 2) (.range (.cons false (.op .len (.cons false (.x 1) .nil)) .nil)) .nil (.call r (.cons true (.call bx (.cons false (.x 1) (.cons false (.x 2) .nil))) .nil))) .nil)) [some (.v d0), some (.v (.list cs)), none] = .ok (.v (.bool true)) [some (.v d0), some (.v (.list cs)), none] := by
    simp [hl, opf1, ha]
  have hs : evSs (runF T k) [] (q_law_2 c r bx) [some (.v d0), none, none] = .ok (.rt (.v (.bool true))) [some (.v d0), some (.v (.list cs)), none] := by
    rw [q_law_2, y_ss1, y_asg, if_pos (by rfl), c1, Rs.bind_ok, Rs.bind_ok]
    simp only [y_z1, y_zm, List.set]
    rw [y_ss1, y_ret, y_rop, c2, Rs.bind_ok, Rs.bind_ok]
  rw [y_run hT]
  have e1 : ([Ob.v d0].map some ++ List.replicate ((⟨1, 3, [], q_law_2 c r bx⟩ : FD).ns - (⟨1, 3, [], q_law_2 c r bx⟩ : FD).np) none) = [some (.v d0), none, none] := by rfl
  have e2 : ([Ob.v d0].length == (⟨1, 3, [], q_law_2 c r bx⟩ : FD).np && ioOk (⟨1, 3, [], q_law_2 c r bx⟩ : FD).io 0 [Ob.v d0]) = true := by rfl
  rw [if_pos e2, e1, hs]
  simp [outsOf]
theorem law2_spec {T : Nat → Option FD} {i c r bx : Nat} {cc : Int} (hT : T i = some ⟨1, 3, [], q_law_2 c r bx⟩) (hc : T c = some ⟨2, 6, [], q_law_cells⟩) (hb : T bx = some ⟨2, 3, [], q_law_box cc⟩) (k : Nat) (h : ∀ A B, 0 ≤ A → ∃ A' B' C', runF T (k + 1) r [.ml (tin A B 0)] = .ret (.v (.bool true)) [.ml (tin A' B' C')]) (ns : List Int) :
    runF T (k + 1 + 1) i [.v (ro (ns.map .int))] = .ret (.v (.bool true)) [] := by
  obtain ⟨cs, h1, h2, h3⟩ := cells_spec hc k 2 (by omega) (by omega) ns
  refine law2_fin hT (k + 1) rfl h1 (law2_comp hb k h (by omega)) ?_
  have t1 := all_true (rangeL 0 cs.length 1)
  have t2 := all_const (rangeL 0 cs.length 1)
  simp only [allf, t1, t2, Option.map_some]
  simp [vB]
end Pv
-- PvK6a
set_option maxRecDepth 100000
namespace Pv
open Bush
theorem swp2_eq {α : Type} (x : α × α) : swp2 x = (x.2, x.1) := rfl
/-- what a row has behind a start -/
def strp : Pl → Pl → Option Pl
  | [], q => some q
  | false :: p, false :: q => strp p q
  | true :: p, true :: q => strp p q
  | _ :: _, _ => none
theorem strp_eq : ∀ p q : Pl, strp p q = if q.take p.length = p then some (q.drop p.length) else none
  | [], q => by simp [strp]
  | x :: p, [] => by cases x <;> simp [strp]
  | x :: p, y :: q => by
    cases x <;> cases y <;> simp [strp, strp_eq p q]
def belF (p r : Pl) : List Pl × List Pl := match r with
  | [true] => ([p ++ [true], p], [p, p ++ [true], p ++ [false]])
  | false :: r => ([p ++ (false :: false :: r), p ++ (true :: false :: r)], [p])
  | true :: x :: r => ([p ++ (x :: true :: r)], [p])
  | [] => ([], [])
theorem belF_eq (p r : Pl) : belF p r = belo p r := by
  unfold belF belo
  split <;> rfl
def crsF (p q : Pl) : List Pl × List Pl := match strp p q with
  | some r => belF p r
  | none => match strp q p with
    | some r => match belF q r with
      | (a, b) => (b, a)
    | none => ([q], [p])
theorem crsF_eq (p q : Pl) : crsF p q = crs p q := by
  unfold crsF crs
  rw [strp_eq, strp_eq]
  by_cases h0 : p = q
  · subst h0
    simp [belF]
  · rw [if_neg h0]
    by_cases h1 : q.take p.length = p
    · rw [if_pos h1, if_pos h1]
      exact belF_eq ..
    · rw [if_neg h1, if_neg h1]
      by_cases h2 : p.take q.length = q
      · rw [if_pos h2, if_pos h2]
        simp only [belF_eq]; rfl
      · rw [if_neg h2, if_neg h2]
/-- rows crossed, within so many calls deep and so many crossings -/
inductive Rw where
  | oof | tm | ok (a b : List Pl) (n : Nat)
def rws : Nat → Nat → List Pl → List Pl → Rw
  | 0, _, _, _ => .oof
  | _ + 1, n, [], far => .ok far [] n
  | _ + 1, n, near, [] => .ok [] near n
  | _ + 1, 0, _ :: _, _ :: _ => .tm
  | f + 1, n + 1, p :: ps, q :: qs => match crsF p q with
    | (one, other) => match rws f n ps one with
      | .oof => .oof
      | .tm => .tm
      | .ok after rest m => match rws f m (other ++ rest) qs with
        | .oof => .oof
        | .tm => .tm
        | .ok last e m' => .ok (after ++ last) e m'
theorem rws_l (f n : Nat) (far : List Pl) : rws (f + 1) n [] far = .ok far [] n := by
  unfold rws; rfl
theorem rws_r (f n : Nat) (p : Pl) (ps : List Pl) : rws (f + 1) n (p :: ps) [] = .ok [] (p :: ps) n := by
  unfold rws; rfl
theorem rws_0 (f : Nat) (p q : Pl) (ps qs : List Pl) : rws (f + 1) 0 (p :: ps) (q :: qs) = .tm := by
  unfold rws; rfl
theorem rws_s (f n : Nat) (p q : Pl) (ps qs : List Pl) : rws (f + 1) (n + 1) (p :: ps) (q :: qs) = match rws f n ps (crs p q).1 with
      | .oof => .oof
      | .tm => .tm
      | .ok after rest m => match rws f m ((crs p q).2 ++ rest) qs with
        | .oof => .oof
        | .tm => .tm
        | .ok last e m' => .ok (after ++ last) e m' := by
  rw [rws, crsF_eq]
/-- rows crossed lead to one bush -/
theorem rws_meet : ∀ (f n : Nat) (ps qs : List Pl) (a e : List Pl) (m : Nat) (b c d : Bush), rws f n ps qs = .ok a e m → b.go ps = some c → b.go qs = some d → ∃ g, c.go a = some g ∧ d.go e = some g
  | 0, n, ps, qs, a, e, m, b, c, d, h, _, _ => by cases h
  | f + 1, n, [], qs, a, e, m, b, c, d, h, h1, h2 => by
    rw [rws_l] at h
    cases h
    cases h1
    exact ⟨d, h2, rfl⟩
  | f + 1, n, p :: ps, [], a, e, m, b, c, d, h, h1, h2 => by
    rw [rws_r] at h
    cases h
    cases h2
    exact ⟨c, rfl, h1⟩
  | f + 1, 0, p :: ps, q :: qs, a, e, m, b, c, d, h, h1, h2 => by rw [rws_0] at h; cases h
  | f + 1, n + 1, p :: ps, q :: qs, a, e, m, b, c, d, h, h1, h2 => by
    rw [rws_s] at h
    rw [go] at h1 h2
    cases hx : b.mv p with
    | none => rw [hx] at h1; cases h1
    | some x =>
      cases hy : b.mv q with
      | none => rw [hy] at h2; cases h2
      | some y =>
        rw [hx, Option.bind_some] at h1
        rw [hy, Option.bind_some] at h2
        obtain ⟨z, z1, z2⟩ := crs_meet b p q (by rw [hx]; rfl) (by rw [hy]; rfl)
        rw [go, hx, Option.bind_some] at z1
        rw [go, hy, Option.bind_some] at z2
        cases r1 : rws f n ps (crs p q).1 with
        | oof => rw [r1] at h; cases h
        | tm => rw [r1] at h; cases h
        | ok after rest m1 =>
          rw [r1] at h
          simp only at h
          obtain ⟨g1, u1, u2⟩ := rws_meet f n ps _ after rest m1 x c z r1 h1 z1
          cases r2 : rws f m1 ((crs p q).2 ++ rest) qs with
          | oof => rw [r2] at h; cases h
          | tm => rw [r2] at h; cases h
          | ok last e' m2 =>
            rw [r2] at h
            cases h
            obtain ⟨g, w1, w2⟩ := rws_meet f m1 _ qs last e m y g1 d r2 (by rw [go_app, z2]; exact u2) h2
            exact ⟨g, by rw [go_app, u1]; exact w1, w2⟩
theorem rws_le : ∀ (f n : Nat) (ps qs : List Pl) (a e : List Pl) (m : Nat), rws f n ps qs = .ok a e m → m ≤ n
  | 0, n, ps, qs, a, e, m, h => by cases h
  | f + 1, n, [], qs, a, e, m, h => by rw [rws_l] at h; cases h; omega
  | f + 1, n, p :: ps, [], a, e, m, h => by rw [rws_r] at h; cases h; omega
  | f + 1, 0, p :: ps, q :: qs, a, e, m, h => by rw [rws_0] at h; cases h
  | f + 1, n + 1, p :: ps, q :: qs, a, e, m, h => by
    rw [rws_s] at h
    cases r1 : rws f n ps (crs p q).1 with
    | oof => rw [r1] at h; cases h
    | tm => rw [r1] at h; cases h
    | ok after rest m1 =>
      rw [r1] at h
      simp only at h
      cases r2 : rws f m1 ((crs p q).2 ++ rest) qs with
      | oof => rw [r2] at h; cases h
      | tm => rw [r2] at h; cases h
      | ok last e' m2 =>
        rw [r2] at h
        cases h
        have h1 := rws_le f n _ _ _ _ _ r1
        have h2 := rws_le f m1 _ _ _ _ _ r2
        omega
theorem crs_len (p q : Pl) : (crs p q).1.length + (crs p q).2.length ≤ 5 := by
  unfold crs
  have h1 := belo_len p (q.drop p.length)
  have h2 := belo_len q (p.drop q.length)
  split
  · simp
  · split
    · omega
    · split
      · simp only [swp2]; omega
      · simp
/-- how long what comes is -/
theorem rws_len : ∀ (f n : Nat) (ps qs : List Pl) (a e : List Pl) (m : Nat), rws f n ps qs = .ok a e m → a.length + e.length + 5 * m ≤ ps.length + qs.length + 5 * n
  | 0, n, ps, qs, a, e, m, h => by cases h
  | f + 1, n, [], qs, a, e, m, h => by rw [rws_l] at h; cases h; simp
  | f + 1, n, p :: ps, [], a, e, m, h => by rw [rws_r] at h; cases h; simp
  | f + 1, 0, p :: ps, q :: qs, a, e, m, h => by rw [rws_0] at h; cases h
  | f + 1, n + 1, p :: ps, q :: qs, a, e, m, h => by
    rw [rws_s] at h
    cases r1 : rws f n ps (crs p q).1 with
    | oof => rw [r1] at h; cases h
    | tm => rw [r1] at h; cases h
    | ok after rest m1 =>
      rw [r1] at h
      simp only at h
      cases r2 : rws f m1 ((crs p q).2 ++ rest) qs with
      | oof => rw [r2] at h; cases h
      | tm => rw [r2] at h; cases h
      | ok last e' m2 =>
        rw [r2] at h
        cases h
        have h1 := rws_len f n _ _ _ _ _ r1
        have h2 := rws_len f m1 _ _ _ _ _ r2
        have h3 := crs_len p q
        simp only [List.length_append, List.length_cons] at h2 ⊢
        omega
def Lw (m : Nat) (ps : List Pl) : Prop := ∀ p ∈ ps, p.length ≤ m
theorem Lw.mono {m n : Nat} {ps : List Pl} (h : Lw m ps) (hn : m ≤ n) : Lw n ps := fun p hp => Nat.le_trans (h p hp) hn
theorem Lw.app {m : Nat} {ps qs : List Pl} (h : Lw m ps) (h' : Lw m qs) : Lw m (ps ++ qs) := fun p hp => (List.mem_append.mp hp).elim (h p) (h' p)
/-- how far down what comes goes -/
theorem rws_lw : ∀ (f n M : Nat) (ps qs : List Pl) (a e : List Pl) (m : Nat), 1 ≤ M → rws f n ps qs = .ok a e m → Lw M ps → Lw M qs → Lw (M + 2 * (n - m)) a ∧ Lw (M + 2 * (n - m)) e
  | 0, n, M, ps, qs, a, e, m, hM, h, _, _ => by cases h
  | f + 1, n, M, [], qs, a, e, m, hM, h, h1, h2 => by rw [rws_l] at h; cases h; exact ⟨h2.mono (by omega), fun p hp => by cases hp⟩
  | f + 1, n, M, p :: ps, [], a, e, m, hM, h, h1, h2 => by rw [rws_r] at h; cases h; exact ⟨fun p hp => (by cases hp), h1.mono (by omega)⟩
  | f + 1, 0, M, p :: ps, q :: qs, a, e, m, hM, h, _, _ => by rw [rws_0] at h; cases h
  | f + 1, n + 1, M, p :: ps, q :: qs, a, e, m, hM, h, h1, h2 => by
    rw [rws_s] at h
    cases r1 : rws f n ps (crs p q).1 with
    | oof => rw [r1] at h; cases h
    | tm => rw [r1] at h; cases h
    | ok after rest m1 =>
      rw [r1] at h
      simp only at h
      cases r2 : rws f m1 ((crs p q).2 ++ rest) qs with
      | oof => rw [r2] at h; cases h
      | tm => rw [r2] at h; cases h
      | ok last e' m2 =>
        rw [r2] at h
        cases h
        have s := crs_shr (p := p) (q := q) (n := M) (h1 p (by simp)) (h2 q (by simp)) hM
        have i1 := rws_le f n _ _ _ _ _ r1
        have i2 := rws_le f m1 _ _ _ _ _ r2
        obtain ⟨g1, g2⟩ := rws_lw f n (M + 2) ps _ after rest m1 (by omega) r1 (Lw.mono (fun x hx => h1 x (by simp [hx])) (by omega)) (fun x hx => s.1.2 x hx)
        obtain ⟨g3, g4⟩ := rws_lw f m1 (M + 2 + 2 * (n - m1)) _ qs last e m (by omega) r2 (Lw.app (Lw.mono (fun x hx => s.2.2 x hx) (by omega)) g2) (Lw.mono (fun x hx => h2 x (by simp [hx])) (by omega))
        exact ⟨(g1.mono (by omega)).app (g3.mono (by omega)), g4.mono (by omega)⟩
end Pv
-- PvRowL
set_option maxRecDepth 100000
set_option maxHeartbeats 1000000
namespace Pv
open PySem L2
open Bush
theorem run_io0' {T : Nat → Option FD} {i k np ns : Nat} {body : ISs} {args : List Ob} {env env' : En} {o : Ob} {t : List PV} (hT : T i = some ⟨np, ns, [0], body⟩) (e2 : (args.length == np && ioOk [0] 0 args) = true) (e1 : args.map some ++ List.replicate (ns - np) none = env) (hs : evSs (runF T k) [0] body env = .ok (.rt o) env') (ho : outsOf env' [0] = some [.ml t]) : runF T (k + 1) i args = .ret o [.ml t] := by
  rw [y_run hT, if_pos e2]
  simp only [e1, hs, ho]
  simp
theorem drn_lw : ∀ {ps : List Pl} {b c : Bush}, drn ps b = some c → ∀ p ∈ ps, p.length ≤ b.height + ps.length
  | [], b, c, _, p, hp => by cases hp
  | q :: ps, b, c, h, p, hp => by
    rw [drn] at h
    cases e : b.mv q with
    | none => rw [e] at h; cases h
    | some d =>
      rw [e] at h
      simp only at h
      split at h
      · rcases List.mem_cons.mp hp with rfl | hp
        · have := mv_plen e
          rw [List.length_cons]; omega
        · have h1 := drn_lw h p hp
          have h2 := mv_height e
          rw [List.length_cons]; omega
      · cases h
theorem lw_nice {ps : List Pl} (h : Lw 1000 ps) (hl : ps.length ≤ 1000) : nice (encR ps) = true := encR_nice (fun p hp => by have := h p hp; omega) (by omega)
theorem enc2_nice {c : List Pl × List Pl} (h1 : nice (encR c.1) = true) (h2 : nice (encR c.2) = true) : nice (enc2 c) = true := by
  rw [nice, niceA, niceA, niceA, h1, h2]; rfl
theorem enc2_depth (c : List Pl × List Pl) : (enc2 c).depth ≤ 3 := by
  have d1 := encR_depth c.1
  have d2 := encR_depth c.2
  rw [PyData.depth, PyData.depthAll, PyData.depthAll, PyData.depthAll]; omega
theorem nice_l {xs : List PV} (h : ∀ x ∈ xs, nice x = true) (hl : xs.length ≤ 1000) : nice (.list xs) = true := by
  have : ∀ xs : List PV, (∀ x ∈ xs, nice x = true) → niceA xs = true := fun xs => by
    induction xs with
    | nil => intro _; rfl
    | cons x xs ih =>
      intro h
      rw [niceA, h x (by simp), ih fun y hy => h y (by simp [hy])]; rfl
  rw [nice, this xs h]
  simp; omega
theorem depth_l {xs : List PV} {n : Nat} (h : ∀ x ∈ xs, x.depth ≤ n) : (PyData.list xs).depth ≤ n + 1 := by
  have : ∀ xs : List PV, (∀ x ∈ xs, x.depth ≤ n) → PyData.depthAll xs ≤ n := fun xs => by
    induction xs with
    | nil => intro _; simp [PyData.depthAll]
    | cons x xs ih =>
      intro h
      rw [PyData.depthAll]
      have h1 := h x (by simp)
      have h2 := ih fun y hy => h y (by simp [hy])
      omega
  rw [PyData.depth]
  have := this xs h
  omega
abbrev encL (p : Pl) : PV := .list (p.map bitP)
theorem listP_encP (p : Pl) : listP (encP p) = encL p := by
  have : ∀ p : Pl, listPs (p.map bitP) = p.map bitP := fun p => by
    induction p with
    | nil => rfl
    | cons x p ih => rw [List.map_cons, listPs, ih]; cases x <;> rfl
  rw [encP, listP, this]
theorem lists_row {T : Nat → Option FD} {i : Nat} (hT : T i = some ⟨1, 2, [], q_law_lists i⟩) (k : Nat) (ps : List Pl) (hn : nice (encR ps) = true) (hk : 4 ≤ k) : runF T k i [.v (encR ps)] = .ret (.ml (ps.map encL)) [] := by
  have h := lists_spec hT k (encR ps) hn (by have := encR_depth ps; omega)
  rw [show listO (encR ps) = .ml ((ps.map encP).map listP) from rfl, List.map_map] at h
  rw [h]
  congr 2
  exact List.map_congr_left fun p _ => listP_encP p
theorem SoftR.lists {ps : List Pl} (h : Lw 1000 ps) (hl : ps.length ≤ 1000) : SoftR (.list (ps.map encL)) ps where
  n := nice_l (fun x hx => by
    obtain ⟨p, hp, rfl⟩ := List.mem_map.mp hx
    exact (SoftP.lst (p := p) (by have := h p hp; omega)).n) (by rw [List.length_map]; exact hl)
  t := by
    rw [tupP, tupPs_map, List.map_map]
    congr 1
    refine List.map_congr_left fun p hp => (SoftP.lst (p := p) (by have := h p hp; omega)).t
  d := depth_l fun x hx => by
    obtain ⟨p, hp, rfl⟩ := List.mem_map.mp hx
    exact (SoftP.lst (p := p) (by have := h p hp; omega)).d
theorem SoftR.half {ps : List Pl} (h : Lw 1000 ps) (hl : ps.length ≤ 1000) : SoftR (.list (ps.map encP)) ps where
  n := nice_l (fun x hx => by
    obtain ⟨p, hp, rfl⟩ := List.mem_map.mp hx
    exact encP_nice (p := p) (by have := h p hp; omega)) (by rw [List.length_map]; exact hl)
  t := by rw [tupP, encR_tup]
  d := depth_l fun x hx => by
    obtain ⟨p, hp, rfl⟩ := List.mem_map.mp hx
    rw [encP_depth]; omega
end Pv
-- PvK4b
set_option maxRecDepth 100000
set_option maxHeartbeats 2000000
namespace Pv
open PySem L2
open Bush
theorem bits_of_q' : ∀ {ys : List PV}, (∀ y ∈ ys, ∃ x : Bool, y = bitP x) → ∃ xs : Pl, ys = xs.map bitP
  | [], _ => ⟨[], rfl⟩
  | y :: ys, h => by
    obtain ⟨x, rfl⟩ := h y List.mem_cons_self
    obtain ⟨xs, rfl⟩ := bits_of_q' fun z hz => h z (List.mem_cons_of_mem _ hz)
    exact ⟨x :: xs, rfl⟩
theorem range_to' {cf : Nat → List Ob → CR} {lk : List Nat} {e : IE} {env env' : En} {n : Nat} (hn : n ≤ 100000) (h : evF cf lk (.cons false e .nil) env = .ok [.int (n : Int)] env') : evIt cf lk (.range (.cons false e .nil)) env = .ok (rangeL 0 n 1) env' := by
  have h1 : decide (-(2 ^ 62) ≤ (n : Int)) = true := decide_eq_true (by omega)
  have h2 : decide ((n : Int) < 2 ^ 62) = true := decide_eq_true (by omega)
  rw [y_range, h, Rs.bind_ok]
  simp only [rangeV, h1, h2, Bool.and_self, if_true, optR_some, Int.toNat_natCast]
section
variable {cf : Nat → List Ob → CR} {e0 e1 e2 e3 e4 e5 e6 e7 e8 e9 e10 e11 e12 e13 e14 e15 : Option Ob} {b : Bush}
/-- stuck: nothing is done any more -/
theorem in4_o {M : Int} : ∀ (ps : List Pl) (k0 : Nat) (e6 e7 e8 : Option Ob), ∃ f6 f7 f8, forL (forT cf [0] (.inl [6, 7]) q_law_right_4.t2b1b0) (enumL k0 (ps.map encP)) [e0, e1, e2, e3, e4, some (.v (.int M)), e6, e7, e8, e9, e10, e11, e12, e13, e14, e15] = .ok .nx [e0, e1, e2, e3, e4, some (.v (.int M)), f6, f7, f8, e9, e10, e11, e12, e13, e14, e15]
  | [], k0, e6, e7, e8 => ⟨e6, e7, e8, by rw [List.map_nil, enumL, forL]⟩
  | p :: ps, k0, e6, e7, e8 => by
    obtain ⟨f6, f7, f8, ih⟩ := in4_o ps (k0 + 1) (some (.v (.int (k0 : Int)))) (some (.v (encP p))) (some (.v .none))
    exact ⟨f6, f7, f8, by rw [List.map_cons, enumL, forL, n4_in_o, Rs.bind_ok]; exact ih⟩
def stkI (k0 : Nat) (b : Bush) (ps : List Pl) : PV := match b.go ps with
  | some _ => .none
  | none => .int ((k0 : Int) + ((b.stepsL ps).length : Int) - 1)
theorem in4 {H : Nat} (h : ∀ (b : Bush) (p : Pl), b.height ≤ H → cf 34 [.v b.enc, .v (encP p)] = .ret (.v (optE (b.mv p))) []) : ∀ (ps : List Pl) (k0 : Nat) (L : List Bush) (b' : Bush) (e6 e7 e8 : Option Ob), b'.height + ps.length ≤ H → L.length + ps.length ≤ 900 →
    ∃ f6 f7 f8, forL (forT cf [0] (.inl [6, 7]) q_law_right_4.t2b1b0) (enumL k0 (ps.map encP)) [e0, e1, e2, e3, some (.ml (encB (L ++ [b']))), some (.v .none), e6, e7, e8, e9, e10, e11, e12, e13, e14, e15] = .ok .nx [e0, e1, e2, e3, some (.ml (encB (L ++ b'.stepsL ps))), some (.v (stkI k0 b' ps)), f6, f7, f8, e9, e10, e11, e12, e13, e14, e15]
  | [], k0, L, b', e6, e7, e8, _, _ => ⟨e6, e7, e8, by rw [List.map_nil, enumL, forL]; rfl⟩
  | p :: ps, k0, L, b', e6, e7, e8, hH, hl => by
    rw [List.length_cons] at hH hl
    have h1 := h b' p (by omega)
    cases hm : b'.mv p with
    | none =>
      have t := n4_in_n (L := L) (J := (k0 : Int)) (e0 := e0) (e1 := e1) (e2 := e2) (e3 := e3) (e6 := e6) (e7 := e7) (e8 := e8) (e9 := e9) (e10 := e10) (e11 := e11) (e12 := e12) (e13 := e13) (e14 := e14) (e15 := e15) h1 hm
      obtain ⟨f6, f7, f8, ih⟩ := in4_o (cf := cf) (M := (k0 : Int)) (e4 := some (.ml (encB (L ++ [b'])))) (e0 := e0) (e1 := e1) (e2 := e2) (e3 := e3) (e9 := e9) (e10 := e10) (e11 := e11) (e12 := e12) (e13 := e13) (e14 := e14) (e15 := e15) ps (k0 + 1) (some (.v (.int (k0 : Int)))) (some (.v (encP p))) (some (.v .none))
      refine ⟨f6, f7, f8, ?_⟩
      have e1' : stkI k0 b' (p :: ps) = .int (k0 : Int) := by
        unfold stkI
        rw [go, hm]
        simp [stepsL, hm]
      have e2' : b'.stepsL (p :: ps) = [b'] := by rw [stepsL, hm]
      rw [e1', e2', List.map_cons, enumL, forL, t, Rs.bind_ok]
      exact ih
    | some c =>
      have t := n4_in_s (L := L) (J := (k0 : Int)) (e0 := e0) (e1 := e1) (e2 := e2) (e3 := e3) (e6 := e6) (e7 := e7) (e8 := e8) (e9 := e9) (e10 := e10) (e11 := e11) (e12 := e12) (e13 := e13) (e14 := e14) (e15 := e15) h1 hm (by omega)
      have hc := mv_height hm
      obtain ⟨f6, f7, f8, ih⟩ := in4 h ps (k0 + 1) (L ++ [b']) c (some (.v (.int (k0 : Int)))) (some (.v (encP p))) (some (.v c.enc)) (by omega) (by rw [List.length_append, List.length_singleton]; omega)
      refine ⟨f6, f7, f8, ?_⟩
      have e1' : stkI k0 b' (p :: ps) = stkI (k0 + 1) c ps := by
        unfold stkI
        rw [go, hm, Option.bind_some, stepsL, hm]
        cases c.go ps with
        | some _ => rfl
        | none => simp only [List.length_cons]; congr 1; omega
      have e2' : L ++ b'.stepsL (p :: ps) = L ++ [b'] ++ c.stepsL ps := by rw [stepsL, hm, List.append_assoc]; rfl
      rw [e1', e2', List.map_cons, enumL, forL, t, Rs.bind_ok]
      exact ih
/-- moves, one behind another -/
theorem mv4 {H : Nat} (h : ∀ (b c : Bush) (p : Pl), b.height ≤ H → p.length ≤ 100 → b.mv p = some c → cf 18 [.v b.enc, .v (encP p)] = .ret (.v c.enc) []) : ∀ (ps : List Pl) (b' g : Bush) (e7 : Option Ob), Lw 100 ps → b'.height + ps.length ≤ H → b'.go ps = some g →
    ∃ f7, forL (forT cf [0] (.inr 7) q_law_right_4.t2b6a3b0) (ps.map encP) [e0, e1, e2, e3, e4, e5, e6, e7, e8, e9, e10, e11, e12, some (.v b'.enc), e14, e15] = .ok .nx [e0, e1, e2, e3, e4, e5, e6, f7, e8, e9, e10, e11, e12, some (.v g.enc), e14, e15]
  | [], b', g, e7, _, _, hg => by cases hg; exact ⟨e7, by rw [List.map_nil, forL]⟩
  | p :: ps, b', g, e7, hw, hH, hg => by
    rw [List.length_cons] at hH
    rw [go] at hg
    cases hm : b'.mv p with
    | none => rw [hm] at hg; cases hg
    | some c =>
      rw [hm] at hg
      have hc := mv_height hm
      obtain ⟨f7, ih⟩ := mv4 h ps c g (some (.v (encP p))) (fun x hx => hw x (by simp [hx])) (by omega) hg
      have t := n4_mv (cf := cf) (e0 := e0) (e1 := e1) (e2 := e2) (e3 := e3) (e4 := e4) (e5 := e5) (e6 := e6) (e7 := e7) (e8 := e8) (e9 := e9) (e10 := e10) (e11 := e11) (e12 := e12) (e14 := e14) (e15 := e15) (h b' c p (by omega) (hw p (by simp)) hm)
      exact ⟨f7, by rw [List.map_cons, forL, t, Rs.bind_ok]; exact ih⟩
theorem bit4_elt {t0 t1 : List PV} {V : Int} (h1 : cf 23 [.ml t0, .v (.int 2)] = .ret (.v (.int V)) [.ml t1]) :
    evE cf [0] (.call 23 (.cons true (.x 0) (.cons false (.c (.int 2)) .nil))) [some (.ml t0), e1, e2, e3, e4, e5, e6, e7, e8, e9, e10, e11, e12, e13, e14, e15] = .ok (.v (.int V)) [some (.ml t1), e1, e2, e3, e4, e5, e6, e7, e8, e9, e10, e11, e12, e13, e14, e15] := by
  simp [h1, handsOk, ioNames, putBack]
theorem bit4_it {t0 t1 : List PV} {M N : Int} (h1 : cf 23 [.ml t0, .v (.int M)] = .ret (.v (.int N)) [.ml t1]) :
    evF cf [0] (.cons false (.call 23 (.cons true (.x 0) (.cons false (.c (.int M)) .nil))) .nil) [some (.ml t0), e1, e2, e3, e4, e5, e6, e7, e8, e9, e10, e11, e12, e13, e14, e15] = .ok [.int N] [some (.ml t1), e1, e2, e3, e4, e5, e6, e7, e8, e9, e10, e11, e12, e13, e14, e15] := by
  simp [h1, handsOk, ioNames, putBack]
/-- what the drawing of numbers gives -/
def Drw4 (cf : Nat → List Ob → CR) (B : Int) : Prop := ∀ A C : Int, 0 ≤ A → 0 ≤ C → C ≤ 100000 → ∀ (n : Nat) (z : Int), z = n → 0 < n → n ≤ 1000 →
  ∃ (v : Nat) (A' C' : Int), cf 23 [.ml (tin A B C), .v (.int z)] = .ret (.v (.int v)) [.ml (tin A' B C')] ∧ v < n ∧ 0 ≤ A' ∧ C ≤ C' ∧ C' ≤ C + 1
theorem bits4_lc {B : Int} (hd : Drw4 cf B) {A C : Int} (hA : 0 ≤ A) (hC : 0 ≤ C) (hC2 : C ≤ 1000) :
    ∃ (bs : Pl) (A' C' : Int), evE cf [0] q_law_right_4.t2b8c0 [some (.ml (tin A B C)), e1, e2, e3, e4, e5, e6, e7, e8, e9, e10, e11, e12, e13, e14, none] = .ok (.ml (bs.map bitP)) [some (.ml (tin A' B C')), e1, e2, e3, e4, e5, e6, e7, e8, e9, e10, e11, e12, e13, e14, none] ∧ bs.length < 4 ∧ 0 ≤ A' ∧ C ≤ C' ∧ C' ≤ C + 11 := by
  obtain ⟨n, A1, C1, t1, hn, hA1, hC1, hC1'⟩ := hd A C hA hC (by omega) 4 4 rfl (by omega) (by omega)
  have it := range_to' (cf := cf) (lk := [0]) (n := n) (by omega) (bit4_it (e15 := none) (e1 := e1) (e2 := e2) (e3 := e3) (e4 := e4) (e5 := e5) (e6 := e6) (e7 := e7) (e8 := e8) (e9 := e9) (e10 := e10) (e11 := e11) (e12 := e12) (e13 := e13) (e14 := e14) t1)
  obtain ⟨ys, e', q1, q2, q3, A2, C2, q4, q5, q6, q7⟩ := lc_state (cf := cf) (lk := [0]) (own := [15]) (tg := .inr 15) (elt := .call 23 (.cons true (.x 0) (.cons false (.c (.int 2)) .nil)))
    (Inv := fun i e => ∃ A' C', e = [some (.ml (tin A' B C')), e1, e2, e3, e4, e5, e6, e7, e8, e9, e10, e11, e12, e13, e14, none] ∧ 0 ≤ A' ∧ C1 ≤ C' ∧ C' ≤ C1 + (i : Int)) (Q := fun y => ∃ x : Bool, y = bitP x) (by simp) it (by simp) ⟨A1, C1, rfl, hA1, by omega, by simp⟩ (by rw [lim_nat, rangeL_length]; omega)
    fun i e d hi hdd ⟨A3, C3, he, g1, g2, g3⟩ => by
      rw [rangeL_length] at hi
      obtain ⟨w, A4, C4, t4, hw, hA4, hC4, hC4'⟩ := hd A3 C3 g1 (by omega) (by omega) 2 2 rfl (by omega) (by omega)
      rw [he]
      refine ⟨_, .v (.int (w : Int)), .int (w : Int), [some (.ml (tin A4 B C4)), e1, e2, e3, e4, e5, e6, e7, e8, e9, e10, e11, e12, e13, e14, some (.v d)], rfl, bit4_elt t4, rfl, ?_, A4, C4, rfl, hA4, by omega, by push_cast; omega⟩
      have : w = 0 ∨ w = 1 := by omega
      rcases this with rfl | rfl
      · exact ⟨false, rfl⟩
      · exact ⟨true, rfl⟩
  obtain ⟨bs, rfl⟩ := bits_of_q' q3
  rw [rangeL_length, List.length_map] at q2
  rw [q4] at q1
  rw [rangeL_length] at q7
  exact ⟨bs, A2, C2, q1, by omega, q5, by omega, by omega⟩
end
theorem stepsL_inc : ∀ (ps : List Pl) (b : Bush), ((b.stepsL ps).map fun c => (c.leaves : Int)).Pairwise (· ≤ ·) ∧ ∀ c ∈ b.stepsL ps, b.leaves ≤ c.leaves ∧ c.leaves ≤ 2 ^ ps.length * b.leaves ∧ c.height ≤ b.height + ps.length
  | [], b => by simp [stepsL]
  | p :: ps, b => by
    rw [stepsL]
    cases hm : b.mv p with
    | none =>
      refine ⟨by simp, fun c hc => ?_⟩
      rw [List.mem_singleton.mp hc]
      have : 1 * b.leaves ≤ 2 ^ (p :: ps).length * b.leaves := Nat.mul_le_mul_right _ Nat.one_le_two_pow
      refine ⟨by omega, by omega, by omega⟩
    | some d =>
      obtain ⟨h1, h2⟩ := stepsL_inc ps d
      have hl := mv_leaves hm
      have hh := mv_height hm
      refine ⟨?_, fun c hc => ?_⟩
      · rw [List.map_cons, List.pairwise_cons]
        refine ⟨fun x hx => ?_, h1⟩
        obtain ⟨c, hc, rfl⟩ := List.mem_map.mp hx
        have := (h2 c hc).1
        omega
      · rcases List.mem_cons.mp hc with rfl | hc
        · have : 1 * c.leaves ≤ 2 ^ (p :: ps).length * c.leaves := Nat.mul_le_mul_right _ Nat.one_le_two_pow
          refine ⟨by omega, by omega, by omega⟩
        · obtain ⟨g1, g2, g3⟩ := h2 c hc
          refine ⟨by omega, ?_, by rw [List.length_cons]; omega⟩
          rw [List.length_cons, Nat.pow_succ, Nat.mul_assoc]
          exact Nat.le_trans g2 (Nat.mul_le_mul_left _ hl.2)
end Pv
-- PvK4c
set_option maxRecDepth 100000
set_option maxHeartbeats 4000000
namespace Pv
open PySem L2
open Bush
structure K04T (T : Nat → Option FD) : Prop where
  h0 : T 0 = some ⟨2, 2, [], q_is_long⟩
  h1 : T 1 = some ⟨1, 2, [], q_tupled 1⟩
  h2 : T 2 = some ⟨1, 1, [], q_is_bush_in 0 2⟩
  h3 : T 3 = some ⟨1, 2, [], q_sure_bush 1 2⟩
  h4 : T 4 = some ⟨1, 2, [], q_is_place_told⟩
  h5 : T 5 = some ⟨1, 2, [], q_is_zeros_and_ones 4⟩
  h6 : T 6 = some ⟨1, 2, [], q_sure_place_told 1 5⟩
  h7 : T 7 = some ⟨2, 4, [], q_is_place_in⟩
  h8 : T 8 = some ⟨2, 3, [], q_sure_place 6 7⟩
  h9 : T 9 = some ⟨3, 3, [], q_put_in 9⟩
  h10 : T 10 = some ⟨1, 1, [], q_leaves_in 10⟩
  h11 : T 11 = some ⟨1, 1, [], q_leaves 10 3⟩
  h12 : T 12 = some ⟨1, 2, [], q_sure_row 1 13⟩
  h13 : T 13 = some ⟨1, 2, [], q_is_row_in 5⟩
  h14 : T 14 = some ⟨1, 1, [], q_spreads⟩
  h15 : T 15 = some ⟨1, 1, [], q_spread_in⟩
  h16 : T 16 = some ⟨2, 4, [], q_moved_in 14 9 15⟩
  h17 : T 17 = some ⟨2, 5, [], q_steps_in 16⟩
  h18 : T 18 = some ⟨2, 4, [], q_moved_x 3 16 8 0⟩
  h19 : T 19 = some ⟨2, 2, [], q_row_led 21⟩
  h20 : T 20 = some ⟨2, 5, [], q_first_stuck 3 12 17⟩
  h21 : T 21 = some ⟨2, 5, [], q_row_bushes_x 3 12 17 0⟩
  h22 : T 22 = some ⟨2, 3, [], q_law_box 9285004⟩
  h23 : T 23 = some ⟨2, 6, [0], q_law_take⟩
  h24 : T 24 = some ⟨2, 6, [], q_law_cells⟩
  h25 : T 25 = some ⟨2, 2, [0], q_law_of 23⟩
  h26 : T 26 = some ⟨1, 2, [], q_law_lists 26⟩
  h27 : T 27 = some ⟨2, 4, [], q_law_same 27⟩
  h28 : T 28 = some ⟨1, 1, [], q_law_unmarked⟩
  h29 : T 29 = some ⟨1, 4, [], q_law_leafs⟩
  h30 : T 30 = some ⟨2, 5, [0], q_law_net 23⟩
  h31 : T 31 = some ⟨1, 3, [], q_law_spots 31⟩
  h32 : T 32 = some ⟨2, 3, [], q_law_part⟩
  h33 : T 33 = some ⟨3, 3, [], q_law_put 33⟩
  h34 : T 34 = some ⟨2, 6, [], q_law_move 31 32 33⟩
  h35 : T 35 = some ⟨1, 4, [], q_law_steps 31 34⟩
  h36 : T 36 = some ⟨3, 8, [0], q_law_drawn_row 35 29 25⟩
  h37 : T 37 = some ⟨3, 4, [], q_law_heard_x 1 0 28 19 21⟩
  h38 : T 38 = some ⟨1, 16, [0], q_law_right_4 30 23 36 34 37 26 20 27 19 21 11 29 18 25⟩
  h39 : T 39 = some ⟨1, 3, [], q_law_2 24 38 22⟩
section
variable {T : Nat → Option FD} (K : K04T T)
include K
theorem K04T.bf : BushFns T 0 1 2 3 := ⟨K.h0, K.h1, K.h2, K.h3⟩
theorem K04T.pf : PlaceFns T 1 4 5 6 7 8 := ⟨K.h1, K.h4, K.h5, K.h6, K.h7, K.h8⟩
theorem K04T.mf : MvFns T 14 9 15 16 17 := ⟨K.h14, K.h9, K.h15, K.h16, K.h17⟩
theorem K04T.rf : RowFns T 0 1 2 3 4 5 6 7 8 14 9 15 16 17 12 13 := ⟨K.bf, K.pf, K.mf, K.h12, K.h13⟩
theorem K04T.lf : LmFns T 31 32 33 34 := ⟨K.h31, K.h32, K.h33, K.h34⟩
variable {k : Nat} (hk : 60 ≤ k) {d e : PV} {b c : Bush} {ps qs : List Pl}
include hk
theorem s4_same (hn : nice d = true) (hd : d.depth ≤ 50) : runF T k 27 [.v d, .v d] = .ret (.v (.bool true)) [] := by
  have := same_spec K.h27 k d d hn hn (by omega)
  rw [pvEq_self _ hn] at this
  exact this
theorem s4_move (b : Bush) (p : Pl) (h : b.height ≤ 15) : runF T k 34 [.v b.enc, .v (encP p)] = .ret (.v (optE (b.mv p))) [] := by
  refine law_move_spec K.lf b p ?_ k (by omega)
  have h1 := leaves_pow b
  have h2 : 2 ^ b.height ≤ 2 ^ 15 := Nat.pow_le_pow_right (by omega) h
  omega
theorem s4_drw (B : Int) : Drw4 (runF T k) B := fun A C hA hC hC2 n z hz hn hn2 => by
  obtain ⟨j, rfl⟩ : ∃ j, k = j + 1 := ⟨k - 1, by omega⟩
  exact take_nat' K.h23 j hA hC (by omega) n hz hn (by omega)
theorem rows_niceA {xs : List (List Pl)} (h : ∀ x ∈ xs, nice (encR x) = true) : niceA (xs.map encR) = true := by
  clear K hk
  induction xs with
  | nil => rfl
  | cons x xs ih =>
    rw [List.map_cons, niceA, h x (by simp), ih fun y hy => h y (by simp [hy])]; rfl
/-- the end of a lap: another row -/
theorem k04_end (lp : ps.length ≤ 8) (w : Lw 20 ps) {A B C : Int} (hA : 0 ≤ A) (hC : 0 ≤ C) (hC2 : C ≤ 500) {e1 e3 e4 e5 e6 e7 e8 e9 e10 e11 e12 e13 e14 : Option Ob} :
    ∃ (qs : List Pl) (A' C' : Int) (f6 f14 : Option Ob), qs.length ≤ ps.length + 1 ∧ Lw 20 qs ∧ 0 ≤ A' ∧ C ≤ C' ∧ C' ≤ C + 20 ∧
      evSs (runF T k) [0] q_law_right_4.t2b7 [some (.ml (tin A B C)), e1, some (.v (encR ps)), e3, e4, e5, e6, e7, e8, e9, e10, e11, e12, e13, e14, none] = .ok .nx [some (.ml (tin A' B C')), e1, some (.v (encR qs)), e3, e4, e5, f6, e7, e8, e9, e10, e11, e12, e13, f14, none] := by
  have hd := s4_drw K hk B
  obtain ⟨V, A1, C1, t1, hv, a1, c1, c1'⟩ := hd A C hA hC (by omega) (ps.length + 1) ((ps.length : Int) + 1) (by push_cast; rfl) (by omega) (by omega)
  obtain ⟨p, A2, C2, t2, lpp, a2, c2, c2'⟩ := bits4_lc (e6 := some (.v (.int (V : Int)))) (e2 := some (.v (encR ps))) (e1 := e1) (e3 := e3) (e4 := e4) (e5 := e5) (e7 := e7) (e8 := e8) (e9 := e9) (e10 := e10) (e11 := e11) (e12 := e12) (e13 := e13) (e14 := e14) hd a1 (C := C1) (by omega) (by omega)
  obtain ⟨j, hj⟩ : ∃ j, k = j + 2 := ⟨k - 2, by omega⟩
  have lt : ∀ p ∈ ps.take V, p.length ≤ 20 := fun p hp => w p (List.mem_of_mem_take hp)
  have ld : ∀ p ∈ ps.drop V, p.length ≤ 20 := fun p hp => w p (List.mem_of_mem_drop hp)
  have ld2 : ∀ p ∈ ps.drop (V + 1), p.length ≤ 20 := fun p hp => w p (List.mem_of_mem_drop hp)
  have wp : Lw 20 [p] := fun x hx => by rw [List.mem_singleton.mp hx]; omega
  have all : ∀ x ∈ [ps.take V ++ [p] ++ ps.drop V, ps.take V ++ ps.drop (V + 1), ps.reverse, ps.take V ++ [p] ++ ps.drop (V + 1)], x.length ≤ ps.length + 1 ∧ Lw 20 x := fun x hx => by
    simp only [List.mem_cons, List.not_mem_nil, or_false] at hx
    rcases hx with rfl | rfl | rfl | rfl
    · exact ⟨by simp only [List.length_append, List.length_take, List.length_drop, List.length_singleton]; omega, Lw.app (Lw.app lt wp) ld⟩
    · exact ⟨by simp only [List.length_append, List.length_take, List.length_drop]; omega, Lw.app lt ld2⟩
    · exact ⟨by rw [List.length_reverse]; omega, fun q hq => w q (List.mem_reverse.mp hq)⟩
    · exact ⟨by simp only [List.length_append, List.length_take, List.length_drop, List.length_singleton]; omega, Lw.app (Lw.app lt wp) ld2⟩
  obtain ⟨x1, A3, C3, hx1, r3, a3, c3, c3'⟩ := law_of_spec K.h25 K.h23 j (A := A2) (B := B) (C := C2) ⟨a2, by omega, by omega⟩ ([ps.take V ++ [p] ++ ps.drop V, ps.take V ++ ps.drop (V + 1), ps.reverse, ps.take V ++ [p] ++ ps.drop (V + 1)].map encR) (by simp) (by simp) (rows_niceA K hk fun x hx => by
    obtain ⟨g1, g2⟩ := all x hx
    exact lw_nice (g2.mono (by omega)) (by omega))
  rw [← hj] at r3
  obtain ⟨qs, hq, rfl⟩ := List.mem_map.mp hx1
  obtain ⟨q1, q2⟩ := all qs hq
  have g7 := n4_2b7 (cf := runF T k) (ps := ps) (e15 := none) (e1 := e1) (e3 := e3) (e4 := e4) (e5 := e5) (e6 := e6) (e7 := e7) (e8 := e8) (e9 := e9) (e10 := e10) (e11 := e11) (e12 := e12) (e13 := e13) (e14 := e14) t1
  have g8 := n4_2b8 (cf := runF T k) (e2 := some (.v (encR ps))) (e6 := some (.v (.int (V : Int)))) (e1 := e1) (e3 := e3) (e4 := e4) (e5 := e5) (e7 := e7) (e8 := e8) (e9 := e9) (e10 := e10) (e11 := e11) (e12 := e12) (e13 := e13) (e14 := e14) t2
  have g9 := n4_2b9 (cf := runF T k) (ps := ps) (k := V) (p := p) (e15 := none) (e1 := e1) (e3 := e3) (e4 := e4) (e5 := e5) (e7 := e7) (e8 := e8) (e9 := e9) (e10 := e10) (e11 := e11) (e12 := e12) (e13 := e13) (by omega) r3
  exact ⟨qs, A3, C3, _, _, q1, q2, a3, by omega, by omega, g7.trans (g8.trans g9)⟩
/-- a lap -/
theorem k04_lap (hb : b.leaves ≤ 7) (lp : ps.length ≤ 8) (w : Lw 20 ps) {A B C : Int} (hA : 0 ≤ A) (hC : 0 ≤ C) (hC2 : C ≤ 400) {e3 e4 e5 e6 e7 e8 e9 e10 e11 e13 e14 : Option Ob} :
    ∃ (qs : List Pl) (A' C' : Int) (f4 f5 f6 f7 f8 f9 f10 f11 f13 f14 : Option Ob), qs.length ≤ ps.length + 1 ∧ Lw 20 qs ∧ 0 ≤ A' ∧ C ≤ C' ∧ C' ≤ C + 30 ∧
      evSs (runF T k) [0] q_law_right_4.t2b0 [some (.ml (tin A B C)), some (.v b.enc), some (.v (encR ps)), e3, e4, e5, e6, e7, e8, e9, e10, e11, none, e13, e14, none] = .ok .nx [some (.ml (tin A' B C')), some (.v b.enc), some (.v (encR qs)), e3, f4, f5, f6, f7, f8, f9, f10, f11, none, f13, f14, none] := by
  have hh := height_lt b
  have hn := lw_nice (w.mono (n := 1000) (by omega)) (by omega)
  have s1 : SoftR (encR ps) ps := SoftR.enc (fun p hp => by have := w p hp; omega) (by omega)
  have s1' := SoftR.lists (w.mono (n := 1000) (by omega)) (by omega)
  have s1h := SoftR.half (w.mono (n := 1000) (by omega)) (by omega)
  obtain ⟨Lb, r26b, hLb⟩ := lists_enc K.h26 k b (by omega)
  have sb := Soft.soft b
  rw [hLb] at sb
  have r26p := lists_row K.h26 k ps hn (by omega)
  have r20 := stuck_spec K.rf K.h20 (Soft.enc b) s1 hn (by omega) k (by omega)
  have r20h := stuck_spec K.rf K.h20 (Soft.enc b) s1h hn (by omega) k (by omega)
  obtain ⟨j, hj⟩ : ∃ j, k = j + 2 := ⟨k - 2, by omega⟩
  have l19 := ledx_spec K.rf K.h19 K.h21 sb s1 hn (by omega) (j + 1) (by omega)
  have l21 := rowx_spec K.rf K.h21 (Soft.enc b) s1' hn (by omega) (j + 1) (by omega)
  have q19 := heard2 (d := .list Lb) (e := encR ps) K.h37 K.h28 j (j := 0) (f := 19) (.inl ⟨rfl, rfl⟩) rfl rfl
  have q21 := heard2 (d := b.enc) (e := .list (ps.map encL)) K.h37 K.h28 j (j := 1) (f := 21) (.inr ⟨rfl, rfl⟩) enc_isD rfl
  rw [← hj] at q19 q21
  have g0 := n4_2b0 (cf := runF T k) (b := b) (e0 := some (.ml (tin A B C))) (e2 := some (.v (encR ps))) (e12 := none) (e15 := none) (e3 := e3) (e4 := e4) (e5 := e5) (e6 := e6) (e7 := e7) (e8 := e8) (e9 := e9) (e10 := e10) (e11 := e11) (e13 := e13) (e14 := e14)
  obtain ⟨f6, f7, f8, hl⟩ := in4 (cf := runF T k) (H := 15) (e0 := some (.ml (tin A B C))) (e1 := some (.v b.enc)) (e2 := some (.v (encR ps))) (e12 := none) (e15 := none) (e3 := e3) (e9 := e9) (e10 := e10) (e11 := e11) (e13 := e13) (e14 := e14) (s4_move K hk) ps 0 [] b e6 e7 e8 (by omega) (by simp; omega)
  simp only [List.nil_append] at hl
  have g1 : evSs (runF T k) [0] q_law_right_4.t2b1 [some (.ml (tin A B C)), some (.v b.enc), some (.v (encR ps)), e3, some (.ml [b.enc]), some (.v .none), e6, e7, e8, e9, e10, e11, none, e13, e14, none] = evSs (runF T k) [0] q_law_right_4.t2b2 [some (.ml (tin A B C)), some (.v b.enc), some (.v (encR ps)), e3, some (.ml (encB (b.stepsL ps))), some (.v (stkI 0 b ps)), f6, f7, f8, e9, e10, e11, none, e13, e14, none] := by
    rw [q_law_right_4.t2b1]
    exact st_for rfl (by simp [listOf]) hl
  have hst := stepsL_inc ps b
  have hgo := Bush.stepsL_go ps b
  cases hg : b.go ps with
  | none =>
    have es : stkI 0 b ps = .int (((b.stepsL ps).length : Int) - 1) := by
      unfold stkI
      rw [hg]
      simp
    have ep : stuckP b ps = .int (((b.stepsL ps).length : Int) - 1) := by
      unfold stuckP
      rw [hg]
    rw [es] at g1
    rw [ep] at r20 r20h
    unfold RlX at l19
    unfold RbX at l21
    rw [hg] at l19 l21
    have h37a := q19.2 l19
    have h37b := q21.2 l21
    generalize ((b.stepsL ps).length : Int) - 1 = M at g1 r20 r20h
    have r27 := s4_same K hk (d := .list [.list [.str "can not", .bool true], .list [.str "can not", .bool true], .int M, .int M]) (by rfl) (by simp [PyData.depth, PyData.depthAll])
    have g2 := n4_2b2 (cf := runF T k) (S := .int M) (K9 := false) (e0 := some (.ml (tin A B C))) (e1 := some (.v b.enc)) (e2 := some (.v (encR ps))) (e4 := some (.ml (encB (b.stepsL ps)))) (e6 := f6) (e7 := f7) (e8 := f8) (e12 := none) (e15 := none) (e3 := e3) (e9 := e9) (e10 := e10) (e11 := e11) (e13 := e13) (e14 := e14) rfl
    have g3 := n4_2b3n (cf := runF T k) (M := M) (e0 := some (.ml (tin A B C))) (e1 := some (.v b.enc)) (e2 := some (.v (encR ps))) (e4 := some (.ml (encB (b.stepsL ps)))) (e6 := f6) (e7 := f7) (e8 := f8) (e12 := none) (e15 := none) (e3 := e3) (e10 := e10) (e11 := e11) (e13 := e13) (e14 := e14)
    have g4 := n4_2b4n (cf := runF T k) (S := .int M) (e0 := some (.ml (tin A B C))) (e4 := some (.ml (encB (b.stepsL ps)))) (e5 := some (.v (.int M))) (e6 := f6) (e7 := f7) (e8 := f8) (e9 := some (.v (.bool false))) (e10 := some (.v (.list [.list [.str "can not", .bool true], .list [.str "can not", .bool true], .int M]))) (e12 := none) (e15 := none) (e3 := e3) (e11 := e11) (e13 := e13) (e14 := e14) r26b r26p h37a h37b r20 r20h (fun env => rfl)
    have g5 := n4_2b5n (cf := runF T k) (M := M) (X0 := .list [.str "can not", .bool true]) (Y0 := .list [.str "can not", .bool true]) (e0 := some (.ml (tin A B C))) (e1 := some (.v b.enc)) (e2 := some (.v (encR ps))) (e4 := some (.ml (encB (b.stepsL ps)))) (e6 := f6) (e7 := f7) (e8 := f8) (e9 := some (.v (.bool false))) (e12 := none) (e15 := none) (e3 := e3) (e13 := e13) (e14 := e14) r27
    have g6 : ∀ x10 x11 : Option Ob, evSs (runF T k) [0] q_law_right_4.t2b6 [some (.ml (tin A B C)), some (.v b.enc), some (.v (encR ps)), e3, some (.ml (encB (b.stepsL ps))), some (.v (.int M)), f6, f7, f8, some (.v (.bool false)), x10, x11, none, e13, e14, none] = evSs (runF T k) [0] q_law_right_4.t2b7 [some (.ml (tin A B C)), some (.v b.enc), some (.v (encR ps)), e3, some (.ml (encB (b.stepsL ps))), some (.v (.int M)), f6, f7, f8, some (.v (.bool false)), x10, x11, none, e13, e14, none] := fun x10 x11 => by
      rw [q_law_right_4.t2b6]
      exact st_skipQ (by simp) (y_ss0 ..)
    obtain ⟨qs, A', C', x6, x14, z1, z2, z3, z4, z5, g7⟩ := k04_end K hk lp w (A := A) (B := B) (C := C) hA hC (by omega) (e1 := some (.v b.enc)) (e3 := e3) (e4 := some (.ml (encB (b.stepsL ps)))) (e5 := some (.v (.int M))) (e6 := f6) (e7 := f7) (e8 := f8) (e9 := some (.v (.bool false))) (e10 := some (.v (.list [.list [.str "can not", .bool true], .list [.str "can not", .bool true], .int M]))) (e11 := some (.v (.list [.list [.str "can not", .bool true], .list [.str "can not", .bool true], .int M, .int M]))) (e12 := none) (e13 := e13) (e14 := e14)
    exact ⟨qs, A', C', _, _, _, _, _, _, _, _, _, _, z1, z2, z3, z4, by omega, g0.trans (g1.trans (g2.trans (g3.trans (g4.trans (g5.trans ((g6 _ _).trans g7))))))⟩
  | some g =>
    rw [hg] at hgo
    obtain ⟨L, hL⟩ : ∃ L, b.stepsL ps = L ++ [g] := List.getLast?_eq_some_iff.mp hgo.2
    have es : stkI 0 b ps = .none := by unfold stkI; rw [hg]
    have ep : stuckP b ps = .none := by unfold stuckP; rw [hg]
    rw [es, hL] at g1
    rw [ep] at r20 r20h
    unfold RlX at l19
    unfold RbX at l21
    rw [hg] at l19 l21
    simp only at l19 l21
    rw [hL] at l21 hst
    have lL : L.length ≤ 8 := by
      have := hgo.1
      rw [hL, List.length_append, List.length_singleton] at this
      omega
    have hgm := hst.2 g (by simp)
    have tupN : nice (.tuple (encB (L ++ [g]))) = true := by
      rw [nice, encs_nice, List.length_map, List.length_append, List.length_singleton]; simp; omega
    have tupD : (PyData.tuple (encB (L ++ [g]))).depth ≤ 17 := by
      have := depth_l (n := 16) (xs := encB (L ++ [g])) fun x hx => by
        obtain ⟨c, hc, rfl⟩ := List.mem_map.mp hx
        have := (hst.2 c hc).2.2
        rw [enc_depth]; omega
      simp only [PyData.depth] at this ⊢
      exact this
    have gD : g.enc.depth ≤ 17 := by rw [enc_depth]; omega
    have h37a := q19.1 g.enc (by cases g <;> rfl) enc_isD l19
    have h37b := q21.1 _ rfl rfl l21
    have r27 := s4_same K hk (d := .list [g.enc, .tuple (encB (L ++ [g])), .none, .none]) (nice_l (fun x hx => by
      simp only [List.mem_cons, List.not_mem_nil, or_false] at hx
      rcases hx with rfl | rfl | rfl | rfl
      · exact enc_nice g
      · exact tupN
      · rfl
      · rfl) (by simp)) (Nat.le_trans (depth_l (n := 17) fun x hx => by
      simp only [List.mem_cons, List.not_mem_nil, or_false] at hx
      rcases hx with rfl | rfl | rfl | rfl
      · exact gD
      · exact tupD
      · simp [PyData.depth]
      · simp [PyData.depth]) (by omega))
    have g2 := n4_2b2 (cf := runF T k) (S := .none) (K9 := true) (e0 := some (.ml (tin A B C))) (e1 := some (.v b.enc)) (e2 := some (.v (encR ps))) (e4 := some (.ml (encB (L ++ [g])))) (e6 := f6) (e7 := f7) (e8 := f8) (e12 := none) (e15 := none) (e3 := e3) (e9 := e9) (e10 := e10) (e11 := e11) (e13 := e13) (e14 := e14) rfl
    have g3 := n4_2b3 (cf := runF T k) (L := L) (g := g) (e0 := some (.ml (tin A B C))) (e1 := some (.v b.enc)) (e2 := some (.v (encR ps))) (e6 := f6) (e7 := f7) (e8 := f8) (e12 := none) (e15 := none) (e3 := e3) (e10 := e10) (e11 := e11) (e13 := e13) (e14 := e14)
    have g4 := n4_2b4 (cf := runF T k) (L := L) (g := g) (S := .none) (e0 := some (.ml (tin A B C))) (e4 := some (.ml (encB (L ++ [g])))) (e5 := some (.v .none)) (e6 := f6) (e7 := f7) (e8 := f8) (e9 := some (.v (.bool true))) (e10 := some (.v (.list [g.enc, .tuple (encB (L ++ [g])), .none]))) (e12 := none) (e15 := none) (e3 := e3) (e11 := e11) (e13 := e13) (e14 := e14) r26b r26p h37a h37b r20 r20h (fun env => rfl)
    have g5 := n4_2b5 (cf := runF T k) (X0 := g.enc) (Y0 := .tuple (encB (L ++ [g]))) (e0 := some (.ml (tin A B C))) (e1 := some (.v b.enc)) (e2 := some (.v (encR ps))) (e4 := some (.ml (encB (L ++ [g])))) (e6 := f6) (e7 := f7) (e8 := f8) (e9 := some (.v (.bool true))) (e12 := none) (e15 := none) (e3 := e3) (e13 := e13) (e14 := e14) r27
    have r19 := ledx_spec K.rf K.h19 K.h21 (Soft.enc b) s1 hn (by omega) k (by omega)
    have r21 := rowx_spec K.rf K.h21 (Soft.enc b) s1 hn (by omega) k (by omega)
    unfold RlX at r19
    unfold RbX at r21
    rw [hg] at r19 r21
    simp only at r19 r21
    rw [hL] at r21
    have r11 : ∀ c ∈ L ++ [g], runF T k 11 [.v c.enc] = .ret (.v (.int (c.leaves : Int))) [] := fun c hc => by
      have := (hst.2 c hc).2.2
      exact leaves_spec K.bf K.h11 K.h10 (Soft.enc c) k (by omega)
    have r29 : ∀ c ∈ L ++ [g], runF T k 29 [.v c.enc] = .ret (.v (.int (c.leaves : Int))) [] := fun c hc => by
      have h1 := (hst.2 c hc).2.1
      have h2 : 2 ^ ps.length ≤ 2 ^ 8 := Nat.pow_le_pow_right (by omega) lp
      have h3 : 2 ^ ps.length * b.leaves ≤ 2 ^ 8 * 7 := Nat.mul_le_mul h2 hb
      have := leafs_spec K.h29 (j + 1) c (by omega)
      rw [hj]
      exact this
    have hso := sorted_inc hst.1
    have emap : ((L ++ [g]).map fun c => (c.leaves : Int)).map PyData.int = (L ++ [g]).map fun c => PyData.int (c.leaves : Int) := by rw [List.map_map]; rfl
    rw [emap] at hso
    have lvN : nice (.list ((L ++ [g]).map fun c => PyData.int (c.leaves : Int))) = true := nice_l (fun x hx => by
      obtain ⟨c, _, rfl⟩ := List.mem_map.mp hx
      rfl) (by rw [List.length_map, List.length_append, List.length_singleton]; omega)
    have lvD : (PyData.list ((L ++ [g]).map fun c => PyData.int (c.leaves : Int))).depth ≤ 1 := depth_l (n := 0) fun x hx => by
      obtain ⟨c, _, rfl⟩ := List.mem_map.mp hx
      simp [PyData.depth]
    have r27b := s4_same K hk (d := .list [g.enc, .tuple (encB (L ++ [g])), .list ((L ++ [g]).map fun c => PyData.int (c.leaves : Int))]) (nice_l (fun x hx => by
      simp only [List.mem_cons, List.not_mem_nil, or_false] at hx
      rcases hx with rfl | rfl | rfl
      · exact enc_nice g
      · exact tupN
      · exact lvN) (by simp)) (Nat.le_trans (depth_l (n := 17) fun x hx => by
      simp only [List.mem_cons, List.not_mem_nil, or_false] at hx
      rcases hx with rfl | rfl | rfl
      · exact gD
      · exact tupD
      · omega) (by omega))
    have r27c := s4_same K hk (d := .list [g.enc, g.enc]) (nice_l (fun x hx => by
      simp only [List.mem_cons, List.not_mem_nil, or_false] at hx
      rcases hx with rfl | rfl <;> exact enc_nice g) (by simp)) (Nat.le_trans (depth_l (n := 17) fun x hx => by
      simp only [List.mem_cons, List.not_mem_nil, or_false] at hx
      rcases hx with rfl | rfl <;> exact gD) (by omega))
    have hd := s4_drw K hk B
    obtain ⟨V, A1, C1, t1, hv, a1, c1, c1'⟩ := hd A C hA hC (by omega) (ps.length + 1) ((ps.length : Int) + 1) (by push_cast; rfl) (by omega) (by omega)
    have htd := List.take_append_drop V ps
    have hgtd := hg
    rw [← htd, go_app] at hgtd
    obtain ⟨c, hc1, hc2⟩ : ∃ c, b.go (ps.take V) = some c ∧ c.go (ps.drop V) = some g := by
      cases hx : b.go (ps.take V) with
      | none => rw [hx] at hgtd; cases hgtd
      | some c => rw [hx] at hgtd; exact ⟨c, rfl, hgtd⟩
    have lt : Lw 20 (ps.take V) := fun p hp => w p (List.mem_of_mem_take hp)
    have ld : Lw 20 (ps.drop V) := fun p hp => w p (List.mem_of_mem_drop hp)
    have llt : (ps.take V).length ≤ 8 := by rw [List.length_take]; omega
    have lld : (ps.drop V).length ≤ 8 := by rw [List.length_drop]; omega
    have hch := go_height hc1
    have r19a := ledx_spec K.rf K.h19 K.h21 (Soft.enc b) (SoftR.enc (ps := ps.take V) (fun p hp => by have := lt p hp; omega) (by omega)) (lw_nice (lt.mono (by omega)) (by omega)) (by omega) k (by omega)
    have r19b := ledx_spec K.rf K.h19 K.h21 (Soft.enc c) (SoftR.enc (ps := ps.drop V) (fun p hp => by have := ld p hp; omega) (by omega)) (lw_nice (ld.mono (by omega)) (by omega)) (by omega) k (by omega)
    unfold RlX at r19a r19b
    rw [hc1] at r19a
    rw [hc2] at r19b
    simp only at r19a r19b
    have a0 := n4_2b6a0 (cf := runF T k) (b := b) (ps := ps) (L := L) (g := g) (e0 := some (.ml (tin A B C))) (e5 := some (.v .none)) (e6 := f6) (e7 := f7) (e8 := f8) (e9 := some (.v (.bool true))) (e10 := some (.v (.list [g.enc, .tuple (encB (L ++ [g])), .none]))) (e11 := some (.v (.list [g.enc, .tuple (encB (L ++ [g])), .none, .none]))) (e15 := none) (e3 := e3) (e13 := e13) (e14 := e14) r11 (by omega) r19 r21
    have a1' := n4_2b6a1 (cf := runF T k) (L := L) (g := g) (e0 := some (.ml (tin A B C))) (e1 := some (.v b.enc)) (e2 := some (.v (encR ps))) (e5 := some (.v .none)) (e6 := f6) (e7 := f7) (e8 := f8) (e9 := some (.v (.bool true))) (e10 := some (.v (.list [g.enc, .tuple (encB (L ++ [g])), .none]))) (e15 := none) (e3 := e3) (e13 := e13) (e14 := e14) r29 (by omega) hso r27b
    have a2 := n4_2b6a2 (cf := runF T k) (b := b) (e0 := some (.ml (tin A B C))) (e2 := some (.v (encR ps))) (e4 := some (.v (.list (encB (L ++ [g]))))) (e5 := some (.v .none)) (e6 := f6) (e7 := f7) (e8 := f8) (e9 := some (.v (.bool true))) (e10 := some (.v (.list [g.enc, .tuple (encB (L ++ [g])), .none]))) (e11 := some (.v (.list [g.enc, .tuple (encB (L ++ [g])), .list ((L ++ [g]).map fun c => PyData.int (c.leaves : Int))]))) (e12 := none) (e15 := none) (e3 := e3) (e13 := e13) (e14 := e14)
    obtain ⟨x7, hm⟩ := mv4 (cf := runF T k) (H := 15) (e0 := some (.ml (tin A B C))) (e1 := some (.v b.enc)) (e2 := some (.v (encR ps))) (e3 := e3) (e4 := some (.v (.list (encB (L ++ [g]))))) (e5 := some (.v .none)) (e6 := f6) (e8 := f8) (e9 := some (.v (.bool true))) (e10 := some (.v (.list [g.enc, .tuple (encB (L ++ [g])), .none]))) (e11 := some (.v (.list [g.enc, .tuple (encB (L ++ [g])), .list ((L ++ [g]).map fun c => PyData.int (c.leaves : Int))]))) (e12 := none) (e14 := e14) (e15 := none) (fun b' c' p h1 h2 h3 => movedx_spec K.rf K.h18 (Soft.enc b') (SoftP.enc (p := p) (by omega)) (by omega) h3 k (by omega)) ps b g f7 (w.mono (by omega)) (by omega) hg
    have a3 : evSs (runF T k) [0] q_law_right_4.t2b6a3 [some (.ml (tin A B C)), some (.v b.enc), some (.v (encR ps)), e3, some (.v (.list (encB (L ++ [g])))), some (.v .none), f6, f7, f8, some (.v (.bool true)), some (.v (.list [g.enc, .tuple (encB (L ++ [g])), .none])), some (.v (.list [g.enc, .tuple (encB (L ++ [g])), .list ((L ++ [g]).map fun c => PyData.int (c.leaves : Int))])), none, some (.v b.enc), e14, none] = evSs (runF T k) [0] q_law_right_4.t2b6a4 [some (.ml (tin A B C)), some (.v b.enc), some (.v (encR ps)), e3, some (.v (.list (encB (L ++ [g])))), some (.v .none), f6, x7, f8, some (.v (.bool true)), some (.v (.list [g.enc, .tuple (encB (L ++ [g])), .none])), some (.v (.list [g.enc, .tuple (encB (L ++ [g])), .list ((L ++ [g]).map fun c => PyData.int (c.leaves : Int))])), none, some (.v g.enc), e14, none] := by
      rw [q_law_right_4.t2b6a3]
      exact st_for rfl (by simp [itemsOf]) hm
    have a4 := n4_2b6a4 (cf := runF T k) (ps := ps) (e1 := some (.v b.enc)) (e4 := some (.v (.list (encB (L ++ [g]))))) (e5 := some (.v .none)) (e6 := f6) (e7 := x7) (e8 := f8) (e9 := some (.v (.bool true))) (e10 := some (.v (.list [g.enc, .tuple (encB (L ++ [g])), .none]))) (e11 := some (.v (.list [g.enc, .tuple (encB (L ++ [g])), .list ((L ++ [g]).map fun c => PyData.int (c.leaves : Int))]))) (e12 := none) (e13 := some (.v g.enc)) (e15 := none) (e3 := e3) (e14 := e14) t1
    have a5 := n4_2b6a5 (cf := runF T k) (b := b) (c := c) (g := g) (ps := ps) (L := L) (k := V) (e0 := some (.ml (tin A1 B C1))) (e5 := some (.v .none)) (e7 := x7) (e8 := f8) (e9 := some (.v (.bool true))) (e10 := some (.v (.list [g.enc, .tuple (encB (L ++ [g])), .none]))) (e11 := some (.v (.list [g.enc, .tuple (encB (L ++ [g])), .list ((L ++ [g]).map fun c => PyData.int (c.leaves : Int))]))) (e12 := none) (e15 := none) (e3 := e3) (e14 := e14) r19a r19b r27c
    have hA0 := a0.trans (a1'.trans (a2.trans (a3.trans (a4.trans a5))))
    have g6 := st_then (cf := runF T k) (lk := [0]) (r := q_law_right_4.t2b7) (c := .x 9) (b := .nil) (env := [some (.ml (tin A B C)), some (.v b.enc), some (.v (encR ps)), e3, some (.ml (encB (L ++ [g]))), some (.v .none), f6, f7, f8, some (.v (.bool true)), some (.v (.list [g.enc, .tuple (encB (L ++ [g])), .none])), some (.v (.list [g.enc, .tuple (encB (L ++ [g])), .none, .none])), none, e13, e14, none]) (by simp) hA0
    obtain ⟨qs, A', C', x6, x14, z1, z2, z3, z4, z5, g7⟩ := k04_end K hk lp w (A := A1) (B := B) (C := C1) a1 (by omega) (by omega) (e1 := some (.v b.enc)) (e3 := e3) (e4 := some (.v (.list (encB (L ++ [g]))))) (e5 := some (.v .none)) (e6 := some (.v (.int (V : Int)))) (e7 := x7) (e8 := f8) (e9 := some (.v (.bool true))) (e10 := some (.v (.list [g.enc, .tuple (encB (L ++ [g])), .none]))) (e11 := some (.v (.list [g.enc, .tuple (encB (L ++ [g])), .list ((L ++ [g]).map fun c => PyData.int (c.leaves : Int))]))) (e12 := none) (e13 := some (.v g.enc)) (e14 := e14)
    exact ⟨qs, A', C', _, _, _, _, _, _, _, _, _, _, z1, z2, z3, by omega, by omega, g0.trans (g1.trans (g2.trans (g3.trans (g4.trans (g5.trans (g6.trans g7))))))⟩
/-- the laps -/
theorem k04_laps (hb : b.leaves ≤ 7) {B : Int} : ∀ (ds : List PV) (ps : List Pl) (A C : Int) (e3 e4 e5 e6 e7 e8 e9 e10 e11 e13 e14 : Option Ob), ps.length + ds.length ≤ 9 → Lw 20 ps → 0 ≤ A → 0 ≤ C → C + 30 * ds.length ≤ 400 →
    ∃ (qs : List Pl) (A' C' : Int) (f3 f4 f5 f6 f7 f8 f9 f10 f11 f13 f14 : Option Ob),
      forL (forT (runF T k) [0] (.inr 3) q_law_right_4.t2b0) ds [some (.ml (tin A B C)), some (.v b.enc), some (.v (encR ps)), e3, e4, e5, e6, e7, e8, e9, e10, e11, none, e13, e14, none] = .ok .nx [some (.ml (tin A' B C')), some (.v b.enc), some (.v (encR qs)), f3, f4, f5, f6, f7, f8, f9, f10, f11, none, f13, f14, none]
  | [], ps, A, C, e3, e4, e5, e6, e7, e8, e9, e10, e11, e13, e14, _, _, _, _, _ => ⟨ps, A, C, e3, e4, e5, e6, e7, e8, e9, e10, e11, e13, e14, by rw [forL]⟩
  | d :: ds, ps, A, C, e3, e4, e5, e6, e7, e8, e9, e10, e11, e13, e14, hl, w, hA, hC, hC2 => by
    rw [List.length_cons] at hl hC2
    obtain ⟨qs, A1, C1, f4, f5, f6, f7, f8, f9, f10, f11, f13, f14, z1, z2, z3, z4, z5, g⟩ := k04_lap K hk hb (by omega) w (A := A) (B := B) (C := C) hA hC (by omega) (e3 := some (.v d)) (e4 := e4) (e5 := e5) (e6 := e6) (e7 := e7) (e8 := e8) (e9 := e9) (e10 := e10) (e11 := e11) (e13 := e13) (e14 := e14)
    obtain ⟨rs, A2, C2, x3, x4, x5, x6, x7, x8, x9, x10, x11, x13, x14, ih⟩ := k04_laps hb ds qs A1 C1 (some (.v d)) f4 f5 f6 f7 f8 f9 f10 f11 f13 f14 (by omega) z2 z3 (by omega) (by omega)
    refine ⟨rs, A2, C2, x3, x4, x5, x6, x7, x8, x9, x10, x11, x13, x14, ?_⟩
    rw [forL, forT]
    simp only [setTg, List.set]
    rw [g, Rs.bind_ok]
    exact ih
end
section
variable {T : Nat → Option FD} (K : K04T T)
include K
theorem k04_fix (k : Nat) (hk : 60 ≤ k) {e0 e1 e2 e3 e4 e5 e6 e7 e8 e9 e10 e11 e12 e13 e14 e15 : Option Ob} : evSs (runF T k) [0] q_law_right_4.t3 [e0, e1, e2, e3, e4, e5, e6, e7, e8, e9, e10, e11, e12, e13, e14, e15] = .ok (.rt (.v (.bool true))) [e0, e1, e2, e3, e4, e5, e6, e7, e8, e9, e10, e11, e12, e13, e14, e15] := by
  have w : Lw 20 ([] : List Pl) := fun p hp => by cases hp
  have s0 : SoftR (.tuple []) [] := SoftR.enc (ps := []) (fun p hp => by cases hp) (by simp)
  have s1 : SoftR (.tuple [.tuple []]) [[]] := SoftR.enc (ps := [[]]) (fun p hp => by simp at hp; rw [hp]; simp) (by simp)
  have s2 : SoftR (.tuple [.tuple [.int 0, .int 0]]) [[false, false]] := SoftR.enc (ps := [[false, false]]) (fun p hp => by simp at hp; rw [hp]; simp) (by simp)
  have sl : Soft (.tuple []) .lf := Soft.enc .lf
  have sn : Soft (.tuple [.tuple [], .tuple []]) (.nd .lf .lf) := Soft.enc (.nd .lf .lf)
  have h1 := ledx_spec K.rf K.h19 K.h21 sl s0 rfl (by simp) k (by simp [Bush.height]; omega)
  have h2 := rowx_spec K.rf K.h21 sl s0 rfl (by simp) k (by simp [Bush.height]; omega)
  have h3 := stuck_spec K.rf K.h20 sl s0 rfl (by simp) k (by simp [Bush.height]; omega)
  have h4 := stuck_spec K.rf K.h20 sl s1 rfl (by simp) k (by simp [Bush.height]; omega)
  have h5 := stuck_spec K.rf K.h20 sn s2 rfl (by simp) k (by simp [Bush.height]; omega)
  have h6 := s4_same K hk (d := .list [.tuple [], .tuple [.tuple []], .none, .int 0, .int 0]) rfl (by simp [PyData.depth, PyData.depthAll])
  exact n4_3 h1 h2 h3 h4 h5 h6
theorem k04_right (k : Nat) (hk : 60 ≤ k) {A B : Int} (hA : 0 ≤ A) : ∃ A' B' C', runF T (k + 2) 38 [.ml (tin A B 0)] = .ret (.v (.bool true)) [.ml (tin A' B' C')] := by
  obtain ⟨V, A1, C1, h1, v1, a1, c1, c1'⟩ := take_nat' K.h23 k (B := B) hA (C := 0) (by omega) (by omega) 7 (z := 7) rfl (by omega) (by omega)
  obtain ⟨j, hj⟩ : ∃ j, k = j + 1 := ⟨k - 1, by omega⟩
  obtain ⟨b, A2, C2, h2, lb, a2, c2, c2'⟩ : ∃ (b : Bush) (A' C' : Int), runF T (k + 1) 30 [.ml (tin A1 B C1), .v (.int (1 + (V : Int)))] = .ret (.v b.enc) [.ml (tin A' B C')] ∧ b.leaves = 1 + V ∧ 0 ≤ A' ∧ C1 ≤ C' ∧ C' ≤ C1 + (1 + V : Nat) := by
    have := law_net_spec K.h30 K.h23 j (A := A1) (B := B) (C := C1) (1 + V) (by omega) (by omega) a1 (by omega) (by omega)
    rw [show ((1 + V : Nat) : Int) = 1 + (V : Int) by push_cast; rfl] at this
    rw [hj, show ((1 + V : Nat) : Int) = 1 + (V : Int) by push_cast; rfl]
    exact this
  have hh := height_lt b
  obtain ⟨W1, A3, C3, h3, v3, a3, c3, c3'⟩ := take_nat' K.h23 k (B := B) a2 (C := C2) (by omega) (by omega) 7 (z := 7) rfl (by omega) (by omega)
  obtain ⟨x1, ps, A4, C4, d1, l1, a4, c4, c4', h4⟩ := drawn_row_spec K.lf K.h35 K.h29 K.h25 K.h23 K.h36 k (by omega) (b := b) (by omega) (by omega) (A := A3) (B := B) (C := C3) a3 (by omega) W1 (N := (W1 : Int)) rfl (by omega) (by omega)
  have w : Lw 20 ps := fun p hp => by have := drn_lw d1 p hp; omega
  have g0 := n4_0 (cf := runF T (k + 1)) (e1 := none) (e2 := none) (e3 := none) (e4 := none) (e5 := none) (e6 := none) (e7 := none) (e8 := none) (e9 := none) (e10 := none) (e11 := none) (e12 := none) (e13 := none) (e14 := none) (e15 := none) h1 h2
  have g1 := n4_1 (cf := runF T (k + 1)) (e2 := none) (e3 := none) (e4 := none) (e5 := none) (e6 := none) (e7 := none) (e8 := none) (e9 := none) (e10 := none) (e11 := none) (e12 := none) (e13 := none) (e14 := none) (e15 := none) h3 h4
  obtain ⟨qs, A', C', f3, f4, f5, f6, f7, f8, f9, f10, f11, f13, f14, hl⟩ := k04_laps K (k := k + 1) (by omega) (b := b) (by omega) (B := B) [.int 0, .int 1, .int 2] ps A4 C4 none none none none none none none none none none none (by simp; omega) w a4 (by omega) (by simp; omega)
  have hr : rangeV [.int 3] = some [.int 0, .int 1, .int 2] := rfl
  have g2 := st_for (cf := runF T (k + 1)) (lk := [0]) (tg := .inr 3) (it := .range (.cons false (.c (.int 3)) .nil)) (b := q_law_right_4.t2b0) (r := q_law_right_4.t3) (env := _) rfl (by simp [hr]; rfl) hl
  have hs := g0.trans (g1.trans (g2.trans (k04_fix K (k + 1) (by omega))))
  rw [← q_law_right_4_eq] at hs
  exact ⟨A', B, C', run_io0' (k := k + 1) K.h38 rfl rfl hs rfl⟩
theorem k04_law (ns : List Int) : runF T 63 39 [.v (ro (ns.map .int))] = .ret (.v (.bool true)) [] :=
  law2_spec K.h39 K.h24 K.h22 61 (fun A B hA => k04_right K 60 (by omega) hA) ns
end
end Pv
namespace Row
open PySem L2 Pv
def top (i : Nat) : Stmt := PySem.Challenge.pw_leftspread_k04_whole_rows_of_moves.main.body.getD i (.Pass ⟨0, 0, 0, 0⟩)
def b0 : ISs := q_is_long
def N0 : List Str := ["thing", "length"]
/-- is_long -/
def e0 : Ent := ⟨"is_long", "is_long", defArgs (top 4), defBody (top 4), defScope (top 4), N0, ⟨2, 2, [], b0⟩⟩
def b1 : ISs := q_tupled 1
def N1 : List Str := ["value", "own"]
/-- tupled -/
def e1 : Ent := ⟨"tupled", "tupled", defArgs (top 5), defBody (top 5), defScope (top 5), N1, ⟨1, 2, [], b1⟩⟩
def b2 : ISs := q_is_bush_in 0 2
def N2 : List Str := ["thing"]
/-- is_bush_in -/
def e2 : Ent := ⟨"is_bush_in", "is_bush_in", defArgs (top 7), defBody (top 7), defScope (top 7), N2, ⟨1, 1, [], b2⟩⟩
def b3 : ISs := q_sure_bush 1 2
def N3 : List Str := ["thing", "own"]
/-- sure_bush -/
def e3 : Ent := ⟨"sure_bush", "sure_bush", defArgs (top 8), defBody (top 8), defScope (top 8), N3, ⟨1, 2, [], b3⟩⟩
def b4 : ISs := q_is_place_told
def N4 : List Str := ["thing", "own"]
/-- is_place_told -/
def e4 : Ent := ⟨"is_place_told", "is_place_told", defArgs (top 9), defBody (top 9), defScope (top 9), N4, ⟨1, 2, [], b4⟩⟩
def b5 : ISs := q_is_zeros_and_ones 4
def N5 : List Str := ["thing", "own"]
/-- is_zeros_and_ones -/
def e5 : Ent := ⟨"is_zeros_and_ones", "is_zeros_and_ones", defArgs (top 10), defBody (top 10), defScope (top 10), N5, ⟨1, 2, [], b5⟩⟩
def b6 : ISs := q_sure_place_told 1 5
def N6 : List Str := ["thing", "own"]
/-- sure_place_told -/
def e6 : Ent := ⟨"sure_place_told", "sure_place_told", defArgs (top 11), defBody (top 11), defScope (top 11), N6, ⟨1, 2, [], b6⟩⟩
def b7 : ISs := q_is_place_in
def N7 : List Str := ["bush", "place", "now", "own"]
/-- is_place_in -/
def e7 : Ent := ⟨"is_place_in", "is_place_in", defArgs (top 12), defBody (top 12), defScope (top 12), N7, ⟨2, 4, [], b7⟩⟩
def b8 : ISs := q_sure_place 6 7
def N8 : List Str := ["bush", "thing", "own"]
/-- sure_place -/
def e8 : Ent := ⟨"sure_place", "sure_place", defArgs (top 13), defBody (top 13), defScope (top 13), N8, ⟨2, 3, [], b8⟩⟩
def b9 : ISs := q_put_in 9
def N9 : List Str := ["bush", "place", "other"]
/-- put_in -/
def e9 : Ent := ⟨"put_in", "put_in", defArgs (top 14), defBody (top 14), defScope (top 14), N9, ⟨3, 3, [], b9⟩⟩
def b10 : ISs := q_leaves_in 10
def N10 : List Str := ["bush"]
/-- leaves_in -/
def e10 : Ent := ⟨"leaves_in", "leaves_in", defArgs (top 15), defBody (top 15), defScope (top 15), N10, ⟨1, 1, [], b10⟩⟩
def b11 : ISs := q_leaves 10 3
def N11 : List Str := ["bush"]
/-- leaves -/
def e11 : Ent := ⟨"leaves", "leaves", defArgs (top 16), defBody (top 16), defScope (top 16), N11, ⟨1, 1, [], b11⟩⟩
def b12 : ISs := q_sure_row 1 13
def N12 : List Str := ["thing", "own"]
/-- sure_row -/
def e12 : Ent := ⟨"sure_row", "sure_row", defArgs (top 18), defBody (top 18), defScope (top 18), N12, ⟨1, 2, [], b12⟩⟩
def b13 : ISs := q_is_row_in 5
def N13 : List Str := ["thing", "own"]
/-- is_row_in -/
def e13 : Ent := ⟨"is_row_in", "is_row_in", defArgs (top 19), defBody (top 19), defScope (top 19), N13, ⟨1, 2, [], b13⟩⟩
def b14 : ISs := q_spreads
def N14 : List Str := ["bush"]
/-- spreads -/
def e14 : Ent := ⟨"spreads", "spreads", defArgs (top 20), defBody (top 20), defScope (top 20), N14, ⟨1, 1, [], b14⟩⟩
def b15 : ISs := q_spread_in
def N15 : List Str := ["bush"]
/-- spread_in -/
def e15 : Ent := ⟨"spread_in", "spread_in", defArgs (top 21), defBody (top 21), defScope (top 21), N15, ⟨1, 1, [], b15⟩⟩
def b16 : ISs := q_moved_in 14 9 15
def N16 : List Str := ["bush", "place", "now", "own"]
/-- moved_in -/
def e16 : Ent := ⟨"moved_in", "moved_in", defArgs (top 22), defBody (top 22), defScope (top 22), N16, ⟨2, 4, [], b16⟩⟩
def b17 : ISs := q_steps_in 16
def N17 : List Str := ["bush", "row", "found", "place", "now"]
/-- steps_in -/
def e17 : Ent := ⟨"steps_in", "steps_in", defArgs (top 23), defBody (top 23), defScope (top 23), N17, ⟨2, 5, [], b17⟩⟩
def b18 : ISs := q_moved_x 3 16 8 0
def N18 : List Str := ["bush", "place", "own", "found"]
/-- moved -/
def e18 : Ent := ⟨"moved", "moved", defArgs (top 24), defBody (top 24), defScope (top 24), N18, ⟨2, 4, [], b18⟩⟩
def b19 : ISs := q_row_led 21
def N19 : List Str := ["bush", "row"]
/-- row_led -/
def e19 : Ent := ⟨"row_led", "row_led", defArgs (top 25), defBody (top 25), defScope (top 25), N19, ⟨2, 2, [], b19⟩⟩
def b20 : ISs := q_first_stuck 3 12 17
def N20 : List Str := ["bush", "row", "own", "told", "found"]
/-- first_stuck -/
def e20 : Ent := ⟨"first_stuck", "first_stuck", defArgs (top 26), defBody (top 26), defScope (top 26), N20, ⟨2, 5, [], b20⟩⟩
def b21 : ISs := q_row_bushes_x 3 12 17 0
def N21 : List Str := ["bush", "row", "own", "told", "found"]
/-- row_bushes -/
def e21 : Ent := ⟨"row_bushes", "row_bushes", defArgs (top 27), defBody (top 27), defScope (top 27), N21, ⟨2, 5, [], b21⟩⟩
def b22 : ISs := q_law_box 9285004
def N22 : List Str := ["script", "k", "bit_so"]
/-- _law_box -/
def e22 : Ent := ⟨"_law_box", "_law_box", defArgs (top 29), defBody (top 29), defScope (top 29), N22, ⟨2, 3, [], b22⟩⟩
def b23 : ISs := q_law_take
def N23 : List Str := ["tin", "below_so", "drawn_so", "once_so", "wide_so", "twice_so"]
/-- _law_take -/
def e23 : Ent := ⟨"_law_take", "_law_take", defArgs (top 30), defBody (top 30), defScope (top 30), N23, ⟨2, 6, [0], b23⟩⟩
def b24 : ISs := q_law_cells
def N24 : List Str := ["script", "most_so", "cells_so", "k", "bit_so", "at_so"]
/-- _law_cells -/
def e24 : Ent := ⟨"_law_cells", "_law_cells", defArgs (top 31), defBody (top 31), defScope (top 31), N24, ⟨2, 6, [], b24⟩⟩
def b25 : ISs := q_law_of 23
def N25 : List Str := ["tin", "goods_so"]
/-- _law_of -/
def e25 : Ent := ⟨"_law_of", "_law_of", defArgs (top 32), defBody (top 32), defScope (top 32), N25, ⟨2, 2, [0], b25⟩⟩
def b26 : ISs := q_law_lists 26
def N26 : List Str := ["matter", "bit"]
/-- _law_lists -/
def e26 : Ent := ⟨"_law_lists", "_law_lists", defArgs (top 33), defBody (top 33), defScope (top 33), N26, ⟨1, 2, [], b26⟩⟩
def b27 : ISs := q_law_same 27
def N27 : List Str := ["got", "due", "mine", "its"]
/-- _law_same -/
def e27 : Ent := ⟨"_law_same", "_law_same", defArgs (top 34), defBody (top 34), defScope (top 34), N27, ⟨2, 4, [], b27⟩⟩
def b28 : ISs := q_law_unmarked
def N28 : List Str := ["told_so"]
/-- _law_unmarked -/
def e28 : Ent := ⟨"_law_unmarked", "_law_unmarked", defArgs (top 35), defBody (top 35), defScope (top 35), N28, ⟨1, 1, [], b28⟩⟩
def b29 : ISs := q_law_leafs
def N29 : List Str := ["net", "left_so", "found", "own"]
/-- _law_leafs -/
def e29 : Ent := ⟨"_law_leafs", "_law_leafs", defArgs (top 36), defBody (top 36), defScope (top 36), N29, ⟨1, 4, [], b29⟩⟩
def b30 : ISs := q_law_net 23
def N30 : List Str := ["tin", "many_so", "pool_so", "lap", "k"]
/-- _law_net -/
def e30 : Ent := ⟨"_law_net", "_law_net", defArgs (top 37), defBody (top 37), defScope (top 37), N30, ⟨2, 5, [0], b30⟩⟩
def b31 : ISs := q_law_spots 31
def N31 : List Str := ["net", "found", "own"]
/-- _law_spots -/
def e31 : Ent := ⟨"_law_spots", "_law_spots", defArgs (top 38), defBody (top 38), defScope (top 38), N31, ⟨1, 3, [], b31⟩⟩
def b32 : ISs := q_law_part
def N32 : List Str := ["net", "spot", "bit"]
/-- _law_part -/
def e32 : Ent := ⟨"_law_part", "_law_part", defArgs (top 39), defBody (top 39), defScope (top 39), N32, ⟨2, 3, [], b32⟩⟩
def b33 : ISs := q_law_put 33
def N33 : List Str := ["net", "spot", "far"]
/-- _law_put -/
def e33 : Ent := ⟨"_law_put", "_law_put", defArgs (top 40), defBody (top 40), defScope (top 40), N33, ⟨3, 3, [], b33⟩⟩
def b34 : ISs := q_law_move 31 32 33
def N34 : List Str := ["net", "spot", "part_so", "a", "b", "c"]
/-- _law_move -/
def e34 : Ent := ⟨"_law_move", "_law_move", defArgs (top 41), defBody (top 41), defScope (top 41), N34, ⟨2, 6, [], b34⟩⟩
def b35 : ISs := q_law_steps 31 34
def N35 : List Str := ["net", "found", "spot", "goal_so"]
/-- _law_steps -/
def e35 : Ent := ⟨"_law_steps", "_law_steps", defArgs (top 42), defBody (top 42), defScope (top 42), N35, ⟨1, 4, [], b35⟩⟩
def b36 : ISs := q_law_drawn_row 35 29 25
def N36 : List Str := ["tin", "net", "many_so", "found", "lap", "steps_so", "own", "spot"]
/-- _law_drawn_row -/
def e36 : Ent := ⟨"_law_drawn_row", "_law_drawn_row", defArgs (top 43), defBody (top 43), defScope (top 43), N36, ⟨3, 8, [0], b36⟩⟩
def b37 : ISs := q_law_heard_x 1 0 28 19 21
def N37 : List Str := ["door_so", "net", "spots_so", "slip_so"]
/-- _law_heard -/
def e37 : Ent := ⟨"_law_heard", "_law_heard", defArgs (top 44), defBody (top 44), defScope (top 44), N37, ⟨3, 4, [], b37⟩⟩
def b38 : ISs := q_law_right_4 30 23 36 34 37 26 20 27 19 21 11 29 18 25
def N38 : List Str := ["tin", "net", "spots_so", "lap", "steps_so", "stuck_so", "k", "spot", "goal_so", "fine", "due", "got", "own", "here_so", "odd_so", "step"]
/-- _law_right -/
def e38 : Ent := ⟨"_law_right", "_law_right", defArgs (top 45), defBody (top 45), defScope (top 45), N38, ⟨1, 16, [0], b38⟩⟩
def b39 : ISs := q_law_2 24 38 22
def N39 : List Str := ["script", "cells_so", "k"]
/-- law -/
def e39 : Ent := ⟨"law", "law", defArgs (top 46), defBody (top 46), defScope (top 46), N39, ⟨1, 3, [], b39⟩⟩
def ents0 : List Ent := [e0, e1, e2, e3, e4, e5, e6, e7, e8, e9, e10, e11, e12, e13, e14, e15, e16, e17, e18, e19, e20, e21, e22, e23, e24, e25, e26, e27, e28, e29]
def ents1 : List Ent := [e30, e31, e32, e33, e34, e35, e36, e37, e38, e39]
def ents : List Ent := ents0 ++ ents1
def cI0 : List (Str × Int) := []
def cI : List (Str × Int) := cI0
def cS0 : List (Str × Str) := []
def cS : List (Str × Str) := cS0
def bts0 : List Str := ["ValueError", "abs", "all", "bool", "enumerate", "int", "isinstance", "len", "list", "range", "sorted", "str", "tuple", "zip"]
def bts : List Str := bts0
def loose0 : List Str := ["CanNot", "Unfit", "is_long", "tupled", "is_bush_in", "sure_bush", "is_place_told", "is_zeros_and_ones", "sure_place_told", "is_place_in", "sure_place", "put_in", "leaves_in", "leaves", "sure_row", "is_row_in", "spreads", "spread_in", "moved_in", "steps_in", "moved", "row_led", "first_stuck", "row_bushes", "_law_box", "_law_take", "_law_cells", "_law_of", "_law_lists", "_law_same"]
def loose1 : List Str := ["_law_unmarked", "_law_leafs", "_law_net", "_law_spots", "_law_part", "_law_put", "_law_move", "_law_steps", "_law_drawn_row", "_law_heard", "_law_right"]
def loose : List Str := loose0 ++ loose1
def T : Tab := ⟨ents, cI, cS, bts, ["CanNot"]⟩
end Row

namespace Row
open PySem PySem.Spec PyProof.Rows L2 Pv
abbrev R : PySem.W.OpenRow := PySem.W.OpenLaw.row PySem.Challenge.rw_leftspread_k04_whole_rows_of_moves
abbrev hk : PySem.W.Hook := Pv.hookP 4 T.fa T.fns T.ex
def ob (s : PySem.W.SharedT) : Pv.AlP := Pv.obsPG 4 T.fa T.fns T.ex (HandSHeadRun.getT s)
theorem ob_eq (s : PySem.W.SharedT) : ob s = hk.obs s.abs := Pv.obsPG_eq (HandSHeadRun.getT_eq s)
theorem tab_good : T.ok = true := by kernel_rfl
theorem run (w : World) : HandSHeadRun.RunEq R (PySem.W.view R.prog [46]) hk ob 4000 loose w := by
  intro os
  kernel_rfl
theorem k04t : K04T T.fd := by constructor <;> rfl
theorem law_runs (ns : List Int) (h : ns.length ≤ 63) : runF T.fd 63 39 [.v (ro (ns.map .int))] = .ret (.v (.bool true)) [] := k04_law k04t ns

end Row
open PySem PySem.W PySem.Calls PyProof.Rows
theorem PySem.Challenge.cw_leftspread_k04_whole_rows_of_moves_holds : PySem.Challenge.rw_leftspread_k04_whole_rows_of_moves.Holds := by
  w_on; o_law
  refine HandSHeadRun.head_any (r := OpenLaw.row PySem.Challenge.rw_leftspread_k04_whole_rows_of_moves) (q := view (OpenLaw.row PySem.Challenge.rw_leftspread_k04_whole_rows_of_moves).prog [46]) (H := Row.hk) (ob := Row.ob) (M := 4000) (loose := Row.loose) (d := HandSHeadRun.topDef (OpenLaw.row PySem.Challenge.rw_leftspread_k04_whole_rows_of_moves).prog 46) (kwd := []) Row.ob_eq
    (by kernel_rfl) (fun s => by kernel_rfl) Row.run (by kernel_rfl) (by kernel_rfl) (by kernel_rfl) (by rfl) (by first | assumption | decide +kernel) (by decide +kernel) ⟨rfl, rfl, rfl, rfl, rfl, by decide +kernel⟩ ?hw ?hc
  case hw => w_witness2
  case hc =>
    refine L2.walk_ofE (l := PySem.Challenge.rw_leftspread_k04_whole_rows_of_moves) (n := 63) (k := 63) (x := "script") (CX := Pv.CXany (PySem.Challenge.rw_leftspread_k04_whole_rows_of_moves).prog) rfl (by decide) (by kernel_rfl) ⟨rfl, by decide, by decide⟩ ?F (Pv.CXany_no _)
    intro w mg fa h Y G hmg0
    have hmg : mg ("law" : PySem.Str) = some (.ref fa) := by
      have e : (HandSHeadRun.topDef (OpenLaw.row PySem.Challenge.rw_leftspread_k04_whole_rows_of_moves).prog 46).name = ("law" : PySem.Str) := by kernel_rfl
      rw [← e]
      exact hmg0
    exact Pv.law_F (E := Row.e39) Row.tab_good rfl (by kernel_rfl) Row.law_runs w mg fa h Y G hmg
