import PyProof.Rows.All
import Wide.All
import OpenK.AllK
import Wide.FinOn
import HandS.ForMost
import HandS.ForExc
import KE.LtData
import KE.SortData
import KE.KeyNested
import KE.KDictDisplayH
import PyProof.Rows.IntBool
import HandS.Wide
import HandS.TupAny
import HandS.TupMul
import HandS.Deep
import HandS.Style
import HandS.TupLe
import HandS.Text
import HandS.Conv
import HandS.Strs
import KE.DatumIndex
import KE.DataCmp
import HandS.IsInst
import KE.DataMinMax
import PyProof.SumWalkG
import PyProof.ListStr
import HandS.Iter
import HandS.Dict
import KE.KDictSum
import HandS.SortKw
import PyProof.TupleOfSeq
import HandS.ExcOwn
import HandS.Comp
import HandS.RevRange
import HandS.Zip
import HandS.Rev
import HandS.Defaults
import HandS.HeadHook1
import HandS.ExcInit
import HandS.ExcIs
import HandS.ExcField
import HandS.TryOnly
import HandS.More
import KE.KIndexOf
import HandS.SetFor
import HandS.Ends
import HandS.HeadEnd
import HandS.HeadHook2
import HandS.Head2
import PyProof.StrLawsRepr
import PySem.Challenge.RW_shorterline_k55_rules_by_turns_refused
section
set_option Elab.async false
set_option linter.all false
/-! DE0: values of the embedding, its terms, its runs. -/
namespace DE
open PySem

/-- a value: data that never change, a look at what another one owns, owned things, an exception, nothing (moved out) -/
inductive D where
  | dat (d : PyData)
  | bor (d : PyData)
  | tr (d : PyData)
  | lst (xs : List D)
  | dct (kvs : List (L2.Key × D))
  | dtt (kvs : List (PyData × PyData))
  | ins (C : Str) (fs : List (Str × D))
  | exc (C : Str) (fs : List (Str × PyData))
  | dead
deriving Inhabited

namespace D
mutual
/-- what may be read of it now -/
def view : D → Option PyData
  | .dat d => some d
  | .bor d => some d
  | .tr d => some d
  | .lst xs => (viewL xs).map .list
  | .dct _ => none
  | .dtt _ => none
  | .ins _ _ => none
  | .exc _ _ => none
  | .dead => none
def viewL : List D → Option (List PyData)
  | [] => some []
  | x :: r => match view x, viewL r with
    | some a, some b => some (a :: b)
    | _, _ => none
end
mutual
/-- .. and kept for ever, nothing of it owned from now on -/
def fz : D → Option PyData
  | .dat d => some d
  | .bor _ => none
  | .tr _ => none
  | .lst xs => (fzL xs).map .list
  | .dct _ => none
  | .dtt _ => none
  | .ins _ _ => none
  | .exc _ _ => none
  | .dead => none
def fzL : List D → Option (List PyData)
  | [] => some []
  | x :: r => match fz x, fzL r with
    | some a, some b => some (a :: b)
    | _, _ => none
end
mutual
/-- no passing look within -/
def ntr : D → Bool
  | .tr _ => false
  | .lst xs => ntrL xs
  | .dct kvs => ntrK kvs
  | .ins _ fs => ntrF fs
  | _ => true
def ntrL : List D → Bool
  | [] => true
  | x :: r => ntr x && ntrL r
def ntrK : List (L2.Key × D) → Bool
  | [] => true
  | (_, x) :: r => ntr x && ntrK r
def ntrF : List (Str × D) → Bool
  | [] => true
  | (_, x) :: r => ntr x && ntrF r
end
mutual
/-- what may be stored, told: nothing borrowed, nothing moved out within -/
def own : D → Bool
  | .dat _ => true
  | .lst xs => ownL xs
  | .dct kvs => ownK kvs
  | .dtt _ => true
  | .ins _ fs => ownF fs
  | _ => false
def ownL : List D → Bool
  | [] => true
  | x :: r => own x && ownL r
def ownK : List (L2.Key × D) → Bool
  | [] => true
  | (_, x) :: r => own x && ownK r
def ownF : List (Str × D) → Bool
  | [] => true
  | (_, x) :: r => own x && ownF r
end
mutual
/-- no exception within -/
def nex : D → Bool
  | .exc _ _ => false
  | .lst xs => nexL xs
  | .dct kvs => nexK kvs
  | .ins _ fs => nexF fs
  | _ => true
def nexL : List D → Bool
  | [] => true
  | x :: r => nex x && nexL r
def nexK : List (L2.Key × D) → Bool
  | [] => true
  | (_, x) :: r => nex x && nexK r
def nexF : List (Str × D) → Bool
  | [] => true
  | (_, x) :: r => nex x && nexF r
end
/-- items that are data -/
def dats : List D → Option (List PyData)
  | [] => some []
  | .dat d :: r => (dats r).map (d :: ·)
  | _ :: _ => none
end D

abbrev Env := List D

/-- how a run of a part ends -/
inductive R (α : Type) where
  | ok (a : α) (ρ : Env)
  | ex (x : D) (ρ : Env)
  | no
deriving Inhabited

/-- how a def's run ends: what is told, and the parameters' values behind it -/
inductive FR where
  | ret (d : D) (outs : Env)
  | ex (x : D) (outs : Env)
  | no
deriving Inhabited
abbrev Fn := List D → FR

inductive Bi where
  | len | sum | max | min | abs | int | str | all | any | list | tuple | sorted | sortedRev | repr | lset
deriving DecidableEq, Inhabited
inductive Mt where
  | index | tindex | count | split | join | partition
deriving DecidableEq, Inhabited
inductive Pm where
  | append | extend | pop | popAt | insert | clear
deriving DecidableEq, Inhabited

inductive T where
  | nm (i : Nat)
  | tp (is : List Nat)
deriving Inhabited

mutual
inductive E where
  | var (i : Nat)
  | mv (i : Nat)
  | cst (d : PyData)
  | glo (x : Str) (d : PyData)
  | rd (p : P)
  | bp (p : P)
  | neg (a : E)
  | not (a : E)
  | bin (o : Operator) (a b : E)
  | cmp (o : CmpOp) (a b : E)
  | chn (o o' : CmpOp) (a b c : E)
  | and (a b : E)
  | or (a b : E)
  | ife (c a b : E)
  | tup (es : Es)
  | lst (es : Es)
  | ix (a i : E)
  | sl (a : E) (lo hi : O)
  | rev (a : E)
  | bi (b : Bi) (es : Es)
  | isi (a : E) (ts : List String) (one : Bool)
  | mt (m : Mt) (a : E) (es : Es)
  | pm (m : Pm) (p : P) (es : Es)
  | call (n : Nat) (f : Str) (pu : Bool) (as : As)
  | comp (elt : E) (t : T) (it : I) (c : O) (own : List Nat)
  | frz (a : E)
  | lrg (a : E)
  | trg (a : E)
  | isx (i : Nat) (ups : List Str)
  | xf (i : Nat) (f : Str)
  | dcK (ks : List L2.Key) (es : Es)
  | dtE
  | dt1 (k v : E)
  | dget (p : P) (k : E)
  | inD (neg : Bool) (k : E) (p : P)
  | get2 (p : P) (k d : E)
  | new (n : Nat) (C : Str) (as : As)
  | mcall (n : Nat) (C m : Str) (p : P) (as : As)
  | srtD (p : P)
  | rdx (p : P) (e : E)
  | tupP (p : P)
  | fldE (e : E) (f : Str)
  | compP (elt : E) (t : T) (it : I) (own : List Nat)
  | pm2 (p p' : P) (es : Es)
inductive Es where
  | nil
  | cons (e : E) (r : Es)
inductive O where
  | none
  | some (e : E)
inductive As where
  | nil
  | val (e : E) (r : As)
  | ref (p : P) (r : As)
  | look (p : P) (r : As)
inductive P where
  | root (i : Nat)
  | idx (p : P) (e : E)
  | fld (p : P) (f : Str)
inductive I where
  | val (e : E)
  | ref (p : P)
  | rng1 (a : E)
  | rng2 (a b : E)
  | rrng1 (a : E)
  | zip (a b : E)
  | enum (a : E)
  | revd (a : E)
  | keys (p : P)
  | bor (p : P)
end

inductive Tg where
  | nm (i : Nat)
  | sub (p : P) (e : E)

mutual
inductive S where
  | asg (t : T) (e : E)
  | set (p : P) (i : E) (e : E)
  | setf (p : P) (f : Str) (e : E)
  | dset (p : P) (k : E) (e : E)
  | set2 (p1 : P) (i1 : E) (p2 : P) (i2 : E) (e : E)
  | par (is : List Nat) (es : Es)
  | ex (e : E)
  | ret (e : E)
  | retN
  | ifs (c : E) (a b : Ss)
  | fors (t : T) (it : I) (body : Ss)
  | forB (t : T) (p : P) (body : Ss)
  | whl (c : E) (body : Ss)
  | freeze (i : Nat)
  | kill (i : Nat)
  | rse (C : Str) (fs : List Str) (es : Es)
  | tri (b : Ss) (x : Option Nat) (C : Str) (ups : List Str) (s : Ss)
inductive Ss where
  | nil
  | cons (s : S) (r : Ss)
  | opq
end
end DE
end

section
set_option Elab.async false
set_option linter.all false
/-! DE1: the runs. -/
namespace DE
open PySem

def fits (n : Nat) : Bool := decide (n ≤ 16777216)
def cutL {α : Type} (xs : List α) (lo hi : Option Int) : List α :=
  (xs.drop (HT.sIx xs.length 0 lo)).take (HT.sIx xs.length xs.length hi - HT.sIx xs.length 0 lo)
abbrev dl (xs : List PyData) : D := .lst (xs.map .dat)
def mulOk (i j : Int) : Bool := decide (i.natAbs.log2 + j.natAbs.log2 < 1000000)
def divOk (j : Int) : Bool := decide (j ≠ 0) && decide (j.natAbs.log2 < 9000)

/-- a number that fits a machine's word -/
def rngOk (i : Int) : Bool := decide (i.natAbs.log2 < 62)
/-- two-place operators on data -/
def binD : Operator → PyData → PyData → Option D
  | .Add, .int i, .int j => some (.dat (.int (i + j)))
  | .Add, .str x, .str y => if fits (x.length + y.length) then some (.dat (.str (x ++ y))) else none
  | .Add, .tuple xs, .tuple ys => if fits (xs.length + ys.length) then some (.dat (.tuple (xs ++ ys))) else none
  | .Add, .list xs, .list ys => if fits (xs.length + ys.length) then some (dl (xs ++ ys)) else none
  | .Sub, .int i, .int j => some (.dat (.int (i - j)))
  | .Mult, .int i, .int j => if mulOk i j then some (.dat (.int (i * j))) else none
  | .Mult, .list xs, .int k => if rngOk k && fits (xs.length * k.toNat) then some (dl (List.replicate k.toNat xs).flatten) else none
  | .Mult, .tuple xs, .int k => if decide (0 ≤ k) && decide (k ≤ 1000) && !xs.isEmpty && decide (xs.length ≤ 1000) then some (.dat (.tuple (List.replicate k.toNat xs).flatten)) else none
  | .FloorDiv, .int i, .int j => if divOk j then some (.dat (.int (i.fdiv j))) else none
  | .Mod, .int i, .int j => if decide (j ≠ 0) then some (.dat (.int (i.fmod j))) else none
  | .Pow, .int i, .int j => if decide (0 ≤ j) && decide (j ≤ 1000000) && decide (i.natAbs < 2 ^ 64) then some (.dat (.int (i ^ j.toNat))) else none
  | .Mult, .str x, .int k => if decide (1 ≤ k) && decide (k ≤ 10000) && decide (x.length ≤ 1000) && decide (0 < x.length) then some (.dat (.str ⟨(List.replicate k.toNat x.cps.toList).flatten.toArray⟩)) else none
  | .Add, .bool i, .int j => some (.dat (.int ((if i = true then (1 : Int) else 0) + j)))
  | .Add, .int i, .bool j => some (.dat (.int (i + if j = true then (1 : Int) else 0)))
  | .Sub, .bool i, .int j => some (.dat (.int ((if i = true then (1 : Int) else 0) - j)))
  | .Sub, .int i, .bool j => some (.dat (.int (i - if j = true then (1 : Int) else 0)))
  | _, _, _ => none

def inD (x : PyData) (ys : List PyData) : Option Bool :=
  if SeqAt.shaped x && SeqAt.shaped (.list ys) then some (ys.any fun z => PyData.eqv z x) else none
def inT (x : PyData) (ys : List PyData) : Option Bool :=
  if SeqAt.shaped x && SeqAt.shaped (.tuple ys) then some (ys.any fun z => PyData.eqv z x) else none
/-- a sign within a text -/
def inS (x y : Str) : Option Bool := match x.cps.toList with
  | [c] => some (decide (c ∈ y.cps.toList))
  | _ => none
def ltOk (x y : PyData) : Bool := PySem.W.alike x y && decide (x.depth ≤ 64)
/-- comparisons of data -/
def cmpD : CmpOp → PyData → PyData → Option Bool
  | .Eq, x, y => if SeqAt.shaped x && SeqAt.shaped y then some (PyData.eqv x y) else none
  | .NotEq, x, y => if SeqAt.shaped x && SeqAt.shaped y then some (!PyData.eqv x y) else none
  | .Lt, .int i, .int j => some (decide (i < j))
  | .LtE, .int i, .int j => some (decide (i ≤ j))
  | .Gt, .int i, .int j => some (decide (j < i))
  | .GtE, .int i, .int j => some (decide (j ≤ i))
  | .Lt, .tuple xs, .tuple ys => if ltOk (.tuple xs) (.tuple ys) then some (PySem.W.dataLt (.tuple xs) (.tuple ys)) else none
  | .In, .str x, .str y => inS x y
  | .NotIn, .str x, .str y => (inS x y).map (!·)
  | .In, x, .tuple ys => inT x ys
  | .NotIn, x, .tuple ys => (inT x ys).map (!·)
  | .In, x, .list ys => inD x ys
  | .NotIn, x, .list ys => (inD x ys).map (!·)
  | .Is, .bool a, .bool b => some (decide (a = b))
  | .IsNot, .bool a, .bool b => some (!decide (a = b))
  | _, _, _ => none
def isNone : D → Bool
  | .dat .none => true
  | .bor .none => true
  | .tr .none => true
  | _ => false
/-- .. of values -/
def cmpV (o : CmpOp) (x y : D) : Option Bool :=
  match o, y with
  | .Is, .dat .none => (match x with | .dead => none | _ => some (isNone x))
  | .IsNot, .dat .none => (match x with | .dead => none | _ => some (!isNone x))
  | _, _ => match x.view, y.view with
    | some a, some b => cmpD o a b
    | _, _ => none

def ixD : PyData → Int → Option PyData
  | .list xs, i => L2.atI xs i
  | .tuple xs, i => L2.atI xs i
  | .str z, i => if fits z.length then (L2.atI z.cps.toList i).map (fun c => .str ⟨#[c]⟩) else none
  | _, _ => none
def cutZ (z : Str) (lo hi : Option Int) : Str := ⟨(cutL z.cps.toList lo hi).toArray⟩
def slV (x : D) (lo hi : Option Int) : Option D :=
  match x.fz with
  | some (.str z) => if fits z.length then some (.dat (.str (cutZ z lo hi))) else none
  | some (.list xs) => some (dl (cutL xs lo hi))
  | some (.tuple xs) => some (.dat (.tuple (cutL xs lo hi)))
  | _ => none
def intsL : List PyData → Option (List Int)
  | [] => some []
  | .int i :: r => (intsL r).map (i :: ·)
  | _ :: _ => none
def boolsL : List PyData → Option (List Bool)
  | [] => some []
  | .bool i :: r => (boolsL r).map (i :: ·)
  | _ :: _ => none
def maxL : List Int → Option Int
  | [] => none
  | [a] => some a
  | a :: r => (maxL r).map fun b => if a < b then b else a
def minL : List Int → Option Int
  | [] => none
  | [a] => some a
  | a :: r => (minL r).map fun b => if b < a then b else a
def views : List D → Option (List PyData) := D.viewL

/-- built-in functions that read data -/
def lenD : List PyData → Option PyData
  | [.list xs] => some (.int xs.length)
  | [.tuple xs] => some (.int xs.length)
  | [.str z] => if fits z.length then some (.int z.length) else none
  | _ => none
def sumD : List PyData → Option PyData
  | [.list xs] => (intsL xs).map fun ns => .int ns.sum
  | [.tuple xs] => (intsL xs).map fun ns => .int ns.sum
  | _ => none
def maxD : List PyData → Option PyData
  | [.list xs] => (intsL xs).bind fun ns => (maxL ns).map .int
  | [.tuple xs] => (intsL xs).bind fun ns => (maxL ns).map .int
  | [.int i, .int j] => some (.int (if j > i then j else i))
  | _ => none
def minD : List PyData → Option PyData
  | [.list xs] => (intsL xs).bind fun ns => (minL ns).map .int
  | [.tuple xs] => (intsL xs).bind fun ns => (minL ns).map .int
  | [.int i, .int j] => some (.int (if j < i then j else i))
  | _ => none
def absD : List PyData → Option PyData
  | [.int i] => some (.int (if i < 0 then -i else i))
  | _ => none
def intD : List PyData → Option PyData
  | [.int i] => some (.int i)
  | [.bool k] => some (.int (if k then 1 else 0))
  | [.str z] => if decide (z.length ≤ 640) then (PySem.intText? z).map .int else none
  | _ => none
def strD : List PyData → Option PyData
  | [.int i] => if decide (i.natAbs.log2 < 1920) then some (.str (toString i)) else none
  | _ => none
def allD : List PyData → Option PyData
  | [.list xs] => (boolsL xs).map fun bs => .bool (bs.all id)
  | _ => none
def anyD : List PyData → Option PyData
  | [.list xs] => (boolsL xs).map fun bs => .bool (bs.any id)
  | _ => none
def reprD : List PyData → Option PyData
  | [d] => if PyData.showable d && !d.hasDict && decide (d.depth ≤ 64) && fits d.shown.length then some (.str d.shown) else none
  | _ => none
/-- each once -/
def nub : List Int → List Int
  | [] => []
  | x :: r => if x ∈ r then nub r else x :: nub r
/-- how many unlike ones there are -/
def lsetD : List PyData → Option PyData
  | [.list xs] => (intsL xs).bind fun ns => if decide (ns.length ≤ 4000) then some (.int ((nub ns).length : Int)) else none
  | [.tuple xs] => (intsL xs).bind fun ns => if decide (ns.length ≤ 4000) then some (.int ((nub ns).length : Int)) else none
  | _ => none
def biD (b : Bi) (ps : List PyData) : Option PyData :=
  match b with
  | .len => lenD ps
  | .sum => sumD ps
  | .max => maxD ps
  | .min => minD ps
  | .abs => absD ps
  | .int => intD ps
  | .str => strD ps
  | .all => allD ps
  | .any => anyD ps
  | .repr => reprD ps
  | .lset => lsetD ps
  | _ => none
/-- .. that make new things of them -/
def listD : List PyData → Option D
  | [.list xs] => some (dl xs)
  | [.tuple xs] => some (dl xs)
  | [.str x] => if fits x.length then some (dl (x.cps.toList.map fun c => .str ⟨#[c]⟩)) else none
  | _ => none
def tupleD : List PyData → Option D
  | [.list xs] => some (.dat (.tuple xs))
  | [.tuple xs] => some (.dat (.tuple xs))
  | _ => none
/-- sorted -/
def sortOk (xs : List PyData) : Bool := xs.all (fun x => xs.all fun y => PySem.W.alike x y) && (xs.all (fun d => match d with | .tuple (_ :: _) => true | _ => false) || xs.all (fun d => match d with | .tuple _ => false | .none => false | _ => true)) && fits xs.length && xs.all (fun d => decide (d.depth ≤ 32))
def sortL (rev : Bool) (xs : List PyData) : List PyData := xs.mergeSort (PySem.W.dataLe rev id)
def sortD (rev : Bool) : List PyData → Option D
  | [.list xs] => if sortOk xs then some (dl (sortL rev xs)) else none
  | [.tuple xs] => if sortOk xs then some (dl (sortL rev xs)) else none
  | _ => none
def biF (b : Bi) (ps : List PyData) : Option D :=
  match b with
  | .sorted => sortD false ps
  | .sortedRev => sortD true ps
  | .list => listD ps
  | .tuple => tupleD ps
  | _ => none
def Bi.makes : Bi → Bool
  | .list | .tuple | .sorted | .sortedRev => true
  | _ => false
def biV (b : Bi) (xs : List D) : Option D :=
  if b.makes then (D.fzL xs).bind (biF b) else (D.viewL xs).bind fun ps => (biD b ps).map .dat

def isiD (d : PyData) (t : String) : Bool :=
  match d, t with
  | .bool _, "bool" => true
  | .bool _, "int" => true
  | .int _, "int" => true
  | .str _, "str" => true
  | .list _, "list" => true
  | .tuple _, "tuple" => true
  | _, _ => false
def isiV (x : D) (ts : List String) : Option Bool := x.view.map fun d => ts.any (isiD d)

/-- methods of data -/
def strsL : List PyData → Option (List Str)
  | [] => some []
  | .str i :: r => (strsL r).map (i :: ·)
  | _ :: _ => none
def joinOk (a : Str) (ys : List Str) : Bool := decide ((ys.map (·.length)).sum + ys.length * a.length ≤ 16777216)
def mtD : Mt → PyData → List PyData → Option D
  | .tindex, .tuple xs, [.int k] => (intsL xs).bind fun ns => if decide (k ∈ ns) then some (.dat (.int (ns.idxOf k : Nat))) else none
  | .count, .list xs, [y] => if SeqAt.shaped (.list xs) && SeqAt.shaped y && fits xs.length then some (.dat (.int ((xs.filter fun z => PyData.eqv z y).length : Nat))) else none
  | .split, .str a, [.str b] => if decide (b.length ≠ 0) && decide (a.length + 2 ≤ 16777216) then some (dl ((Txt.split a b).map .str)) else none
  | .join, .str a, [.list xs] => (strsL xs).bind fun ys => if joinOk a ys then some (.dat (.str (Txt.join a ys))) else none
  | .partition, .str a, [.str b] => if decide (b.length ≠ 0) && fits a.length then some (.dat (.tuple ([.str (Txt.partition a b).1, .str (Txt.partition a b).2.1, .str (Txt.partition a b).2.2]))) else none
  | .index, .list xs, [y] =>
    if SeqAt.shaped (.list xs) && SeqAt.shaped y then (xs.findIdx? fun z => PyData.eqv z y).map fun (j : Nat) => D.dat (.int (j : Int)) else none
  | _, _, _ => none
def mtTy : Mt → Option PyData → Bool
  | .index, some (.list _) => true
  | .count, some (.list _) => true
  | .tindex, some (.tuple _) => true
  | .split, some (.str _) => true
  | .join, some (.str _) => true
  | .partition, some (.str _) => true
  | _, _ => false
/-- methods that change a list that is owned: the list behind, what is told -/
def pmD : Pm → List D → List D → Option (List D × D)
  | .append, xs, [y] => if decide (xs.length < 16777216) then (if y.own then some (xs ++ [y], .dat .none) else none) else none
  | .extend, xs, [.lst ys] => if fits (xs.length + ys.length) && D.ownL ys then some (xs ++ ys, .dat .none) else none
  | .pop, xs, [] => (xs[xs.length - 1]?).map fun y => (xs.dropLast, y)
  | .clear, _, [] => some ([], .dat .none)
  | .insert, xs, [.dat (.int i), y] => if decide (0 ≤ i) && decide (i ≤ xs.length) && decide (xs.length < 16777216) && y.own then some (xs.insertIdx i.toNat y, .dat .none) else none
  | .popAt, xs, [.dat (.int i)] =>
    if rngOk i then (L2.ixN xs.length i).bind fun k => (xs[k]?).map fun y => (xs.eraseIdx k, y) else none
  | _, _, _ => none

/-- places within what is owned -/
inductive Sel where
  | ix (i : Int)
  | key (k : L2.Key)
  | fld (f : Str)
mutual
def pdq : PyData → PyData → Bool
  | .none, .none => true
  | .bool a, .bool b => a == b
  | .int a, .int b => decide (a = b)
  | .str a, .str b => decide (a = b)
  | .list a, .list b => pdqL a b
  | .tuple a, .tuple b => pdqL a b
  | .dict a, .dict b => pdqK a b
  | _, _ => false
def pdqL : List PyData → List PyData → Bool
  | [], [] => true
  | a :: as, b :: bs => pdq a b && pdqL as bs
  | _, _ => false
def pdqK : List (PyData × PyData) → List (PyData × PyData) → Bool
  | [], [] => true
  | (a, c) :: as, (b, d) :: bs => pdq a b && pdq c d && pdqK as bs
  | _, _ => false
end
mutual
theorem pdq_self : ∀ a : PyData, pdq a a = true
  | .none => rfl
  | .bool a => by simp [pdq]
  | .int a => by simp [pdq]
  | .str a => by simp [pdq]
  | .list a => by rw [pdq]; exact pdqL_self a
  | .tuple a => by rw [pdq]; exact pdqL_self a
  | .dict a => by rw [pdq]; exact pdqK_self a
theorem pdqL_self : ∀ a : List PyData, pdqL a a = true
  | [] => rfl
  | a :: as => by rw [pdqL, pdq_self a, pdqL_self as]; rfl
theorem pdqK_self : ∀ a : List (PyData × PyData), pdqK a a = true
  | [] => rfl
  | (a, c) :: as => by rw [pdqK, pdq_self a, pdq_self c, pdqK_self as]; rfl
end
mutual
theorem pdq_eq : ∀ {a b : PyData}, pdq a b = true → a = b
  | .none, .none, _ => rfl
  | .bool a, .bool b, h => by
    have h : (a == b) = true := by simpa [pdq] using h
    rw [eq_of_beq h]
  | .int a, .int b, h => by simp only [pdq, decide_eq_true_eq] at h; rw [h]
  | .str a, .str b, h => by simp only [pdq, decide_eq_true_eq] at h; rw [h]
  | .list a, .list b, h => by rw [pdq] at h; rw [pdqL_eq h]
  | .tuple a, .tuple b, h => by rw [pdq] at h; rw [pdqL_eq h]
  | .dict a, .dict b, h => by rw [pdq] at h; rw [pdqK_eq h]
theorem pdqL_eq : ∀ {a b : List PyData}, pdqL a b = true → a = b
  | [], [], _ => rfl
  | a :: as, b :: bs, h => by
    rw [pdqL, Bool.and_eq_true] at h
    rw [pdq_eq h.1, pdqL_eq h.2]
  | [], _ :: _, h => by simp [pdqL] at h
  | _ :: _, [], h => by simp [pdqL] at h
theorem pdqK_eq : ∀ {a b : List (PyData × PyData)}, pdqK a b = true → a = b
  | [], [], _ => rfl
  | (a, c) :: as, (b, d) :: bs, h => by
    rw [pdqK, Bool.and_eq_true, Bool.and_eq_true] at h
    rw [pdq_eq h.1.1, pdq_eq h.1.2, pdqK_eq h.2]
  | [], _ :: _, h => by simp [pdqK] at h
  | _ :: _, [], h => by simp [pdqK] at h
end
instance : DecidableEq PyData := fun a b => if h : pdq a b = true then .isTrue (pdq_eq h) else .isFalse fun e => h (e ▸ pdq_self a)
section
variable {κ α : Type} [DecidableEq κ]
/-- tables: their look, their store (in its place, or at the end) -/
def aGet : List (κ × α) → κ → Option α
  | [], _ => none
  | (k', v) :: r, k => if k' = k then some v else aGet r k
def aPut : List (κ × α) → κ → α → List (κ × α)
  | [], k, v => [(k, v)]
  | (k', v') :: r, k, v => if k' = k then (k', v) :: r else (k', v') :: aPut r k v
end
def ixV (x : D) (i : PyData) : Option D :=
  match i with
  | .int i => (match x with
    | .dat d => (ixD d i).map .dat
    | .bor d => (ixD d i).map .bor
    | .tr d => (ixD d i).map .tr
    | .lst xs => L2.atI xs i
    | _ => none)
  | .str k => (match x with
    | .dct kvs => (match aGet kvs (.inr k) with
      | some (.dat d) => some (.dat d)
      | _ => none)
    | _ => none)
  | _ => none
def getS : D → List Sel → Option D
  | d, [] => some d
  | .lst xs, .ix i :: r => match L2.atI xs i with
    | some x => getS x r
    | none => none
  | .dct kvs, .key k :: r => match aGet kvs k with
    | some x => getS x r
    | none => none
  | .ins _ fs, .fld f :: r => match aGet fs f with
    | some x => getS x r
    | none => none
  | _, _ :: _ => none
def putS : D → List Sel → D → Option D
  | _, [], y => some y
  | .lst xs, .ix i :: r, y => match L2.ixN xs.length i, L2.atI xs i with
    | some j, some x => (putS x r y).map fun z => .lst (xs.set j z)
    | _, _ => none
  | .dct kvs, .key k :: r, y => match aGet kvs k with
    | some x => (putS x r y).map fun z => .dct (aPut kvs k z)
    | none => none
  | .ins C fs, .fld f :: r, y => match aGet fs f with
    | some x => (putS x r y).map fun z => .ins C (aPut fs f z)
    | none => none
  | _, _ :: _, _ => none
/-- a subscript: of a list, of a dict -/
def selE : PyData → Option Sel
  | .int i => some (.ix i)
  | _ => none
def keyE : PyData → Option L2.Key
  | .int i => some (.inl i)
  | .str x => some (.inr x)
  | _ => none
def selD : Option D → PyData → Option Sel
  | some (.lst _), .int i => some (.ix i)
  | some (.dct _), d => (keyE d).map .key
  | _, _ => none
mutual
/-- a tuple that may be a key: whole numbers, texts, tuples of such -/
def tkOk : PyData → Bool
  | .int _ => true
  | .str _ => true
  | .tuple ds => tkOkL ds
  | _ => false
def tkOkL : List PyData → Bool
  | [] => true
  | d :: ds => tkOk d && tkOkL ds
end
def tkey (d : PyData) : Bool := (match d with | .tuple _ => true | _ => false) && tkOk d && decide (d.depth ≤ 8)
/-- k in d -/
def dHas (x : Option D) (k : PyData) : Option Bool := match x with
  | some (.dct kvs) => (keyE k).map fun k => (aGet kvs k).isSome
  | some (.dtt kvs) => if tkey k then some (aGet kvs k).isSome else none
  | _ => none
/-- d.get(k, z) -/
def dGet2 (x : Option D) (k z : PyData) : Option PyData := match x with
  | some (.dct kvs) => (keyE k).bind fun k => match aGet kvs k with
    | some (.dat v) => some v
    | some _ => none
    | none => some z
  | some (.dtt kvs) => if tkey k then some ((aGet kvs k).getD z) else none
  | _ => none
def isDct : Option D → Bool
  | some (.dct _) => true
  | some (.dtt _) => true
  | _ => false
def isIns (C m : Str) : Option D → Bool
  | some (.ins C' fs) => decide (C' = C) && (aGet fs m).isNone
  | _ => false
def slot (ρ : Env) (i : Nat) : D := ρ.getD i .dead
def isLive : Option D → Bool
  | some .dead => false
  | some _ => true
  | none => false
def isLst : Option D → Bool
  | some (.lst _) => true
  | _ => false

mutual
/-- nothing of the env is changed -/
def E.pure : E → Bool
  | .var _ | .cst _ | .glo _ _ => true
  | .mv _ => false
  | .rd p | .bp p => p.pure
  | .neg a | .not a | .rev a | .frz a | .lrg a | .trg a => a.pure
  | .bin _ a b | .cmp _ a b | .and a b | .or a b | .ix a b => a.pure && b.pure
  | .chn _ _ a b c | .ife a b c => a.pure && b.pure && c.pure
  | .tup es | .lst es | .bi _ es => es.pure
  | .isi a _ _ => a.pure
  | .sl a lo hi => a.pure && lo.pure && hi.pure
  | .mt _ a es => a.pure && es.pure
  | .pm _ _ _ => false
  | .call _ _ pu as => pu && as.pure
  | .comp _ _ _ _ _ => false
  | .isx _ _ => true
  | .xf _ _ => true
  | .dcK _ es => es.pure
  | .dtE => true
  | .dt1 k v => k.pure && v.pure
  | .dget p k => p.pure && k.pure
  | .inD _ k p => k.pure && p.pure
  | .get2 p k d => p.pure && k.pure && d.pure
  | .new _ _ _ => false
  | .mcall _ _ _ _ _ => false
  | .srtD p => p.pure
  | .rdx p e => p.pure && e.pure
  | .tupP p => p.pure
  | .fldE e _ => e.pure
  | .compP _ _ _ _ => false
  | .pm2 _ _ _ => false
def Es.pure : Es → Bool
  | .nil => true
  | .cons e r => e.pure && r.pure
def O.pure : O → Bool
  | .none => true
  | .some e => e.pure
def As.pure : As → Bool
  | .nil => true
  | .val e r => e.pure && r.pure
  | .ref _ _ => false
  | .look p r => p.pure && r.pure
def P.pure : P → Bool
  | .root _ => true
  | .idx p e => p.pure && e.pure
  | .fld p _ => p.pure
end

/-- how a statement ends -/
inductive SR where
  | nx (ρ : Env)
  | rt (d : D) (ρ : Env)
  | ex (x : D) (ρ : Env)
  | no
deriving Inhabited

def R.bind {α β : Type} (r : R α) (f : α → Env → R β) : R β :=
  match r with
  | .ok a ρ => f a ρ
  | .ex x ρ => .ex x ρ
  | .no => .no
/-- no exception leaves a comprehension's block -/
def R.nox {α : Type} : R α → R α
  | .ok a ρ => .ok a ρ
  | _ => .no
def R.sbind {α : Type} (r : R α) (f : α → Env → SR) : SR :=
  match r with
  | .ok a ρ => f a ρ
  | .ex x ρ => .ex x ρ
  | .no => .no
def SR.bind (r : SR) (f : Env → SR) : SR :=
  match r with
  | .nx ρ => f ρ
  | r => r
/-- two parts, one behind the other: the first one's value is kept by the second -/
def R.two {α β γ : Type} (r : R α) (st : α → Bool) (s : Env → R β) (k : α → β → Env → R γ) : R γ :=
  r.bind fun x ρ1 => if st x then (s ρ1).bind fun y ρ2 => k x y ρ2 else .no
def R.of {α : Type} (o : Option α) (ρ : Env) : R α :=
  match o with
  | some a => .ok a ρ
  | none => .no

/-- a while loop by turns; none: not at its end -/
def whileN (c : Env → R D) (b : Env → SR) : Nat → Env → Option SR
  | 0, _ => none
  | n + 1, ρ => match c ρ with
    | .ok (.dat (.bool true)) ρ1 => (match b ρ1 with
      | .nx ρ2 => whileN c b n ρ2
      | r => some r)
    | .ok (.dat (.bool false)) ρ1 => some (.nx ρ1)
    | .ex x ρ1 => some (.ex x ρ1)
    | _ => some .no
open Classical in
noncomputable def whileU (c : Env → R D) (b : Env → SR) (ρ : Env) : SR :=
  if h : ∃ n r, whileN c b n ρ = some r then Classical.choose (Classical.choose_spec h) else .no

/-- a borrowed item: a plain one is not borrowed -/
def borD : PyData → D
  | .none => .dat .none
  | .bool b => .dat (.bool b)
  | .int i => .dat (.int i)
  | .str x => .dat (.str x)
  | d => .bor d
/-- stores to names -/
def storeT : T → D → Env → Option Env
  | .nm i, d, ρ => if i < ρ.length then (if d.ntr then some (ρ.set i d) else none) else none
  | .tp is, d, ρ => match d with
    | .dat (.tuple xs) => storeL is (xs.map .dat) ρ
    | .bor (.tuple xs) => storeL is (xs.map borD) ρ
    | .tr (.tuple xs) => storeL is (xs.map .dat) ρ
    | _ => none
where storeL : List Nat → List D → Env → Option Env
  | [], [], ρ => some ρ
  | i :: is, d :: ds, ρ => if i < ρ.length then storeL is ds (ρ.set i d) else none
  | _, _, _ => none

/-- a for loop over items -/
def forL (t : T) (b : Env → SR) : List D → Env → SR
  | [], ρ => .nx ρ
  | x :: r, ρ => match storeT t x ρ with
    | some ρ1 => (b ρ1).bind (forL t b r)
    | none => .no
def wipeE (ρ : Env) : List Nat → Env
  | [] => ρ
  | v :: vs => (wipeE ρ vs).set v .dead
def backE (ρ0 ρ : Env) : List Nat → Env
  | [] => ρ
  | v :: vs => (backE ρ0 ρ vs).set v (slot ρ0 v)
/-- a comprehension over items: the new list's -/
def compL (own : List Nat) (t : T) (c : Env → R D) (e : Env → R D) : List D → Env → R (List PyData)
  | [], ρ => .ok [] ρ
  | x :: r, ρ => match storeT t x (wipeE ρ own) with
    | none => .no
    | some ρ1 => (c ρ1).nox.bind fun k ρ2 => match k with
      | .dat (.bool true) => (e ρ2).nox.bind fun y ρ3 => match y.fz with
        | some d => (compL own t c e r ρ3).bind fun ds ρ4 => .ok (d :: ds) ρ4
        | none => .no
      | .dat (.bool false) => compL own t c e r ρ2
      | _ => .no

open Classical in
/-- a comprehension whose elements change nothing: new things, one for each item -/
noncomputable def mapP (own : List Nat) (t : T) (e : Env → R D) : List D → Env → Option (List D)
  | [], _ => some []
  | x :: r, ρ => match storeT t x (wipeE ρ own) with
    | none => none
    | some ρ1 => match e ρ1 with
      | .ok z ρ2 => if ρ2 = ρ1 ∧ z.own = true then (mapP own t e r ρ).map (z :: ·) else none
      | _ => none
def Sel.isKey : Sel → Bool
  | .key _ => true
  | _ => false

/-- data as items -/
def itemsD : PyData → Option (List PyData)
  | .list xs => some xs
  | .tuple xs => some xs
  | _ => none
/-- the signs of a text -/
def signsD (x : Str) : List PyData := x.cps.toList.map fun c => .str ⟨#[c]⟩
def itemsS : PyData → Option (List PyData)
  | .str x => some (signsD x)
  | d => itemsD d
def itemsV : D → Option (List D)
  | .dat d => (itemsS d).map (·.map .dat)
  | .bor d => (itemsD d).map (·.map borD)
  | .lst xs => (D.dats xs).map fun _ => xs
  | _ => none
/-- data of a source of items -/
def datsV (x : D) : Option (List PyData) := match x with
  | .dat d => itemsD d
  | .lst xs => D.dats xs
  | _ => none
def isTupV (x : D) : Bool := match x with
  | .dat (.tuple _) => true
  | _ => false
def zipL (xs ys : List PyData) : List D := (xs.zip ys).map fun p => .tr (.tuple [p.1, p.2])
def enumL (xs : List PyData) : List D := (List.range xs.length).zip xs |>.map fun p => .tr (.tuple [.int (p.1 : Int), p.2])
def rngL (lo : Int) (n : Nat) : List D := (List.range n).map fun (k : Nat) => .dat (.int (lo + (k : Int)))

def rrngL (n : Nat) : List D := (List.range n).map fun (k : Nat) => .dat (.int ((n : Int) - 1 - (k : Int)))
def unlock : Option (Nat × D) → Env → Option Env
  | none, ρ => some ρ
  | some (i, d), ρ => match slot ρ i with
    | .dead => some (ρ.set i d)
    | _ => none
/-- what stands in the env beside a call's arguments: the slot's value, the place -/
structure Back where
  i : Nat
  d : D
  sel : List Sel

def putBack : List (Option Back) → Env → Env → Option Env
  | [], [], ρ => some ρ
  | none :: r, _ :: os, ρ => putBack r os ρ
  | some b :: r, o :: os, ρ => if o.own then (match putS b.d b.sel o with
    | some d => if b.i < ρ.length then putBack r os (ρ.set b.i d) else none
    | none => none) else none
  | _, _, _ => none
/-- an argument that was looked at: a value, or a place -/
inductive Ar where
  | val (d : D)
  | ref (i : Nat) (sel : List Sel)
  | look (i : Nat) (sel : List Sel)
/-- the arguments are taken out of the env -/
def takeAs : List Ar → Env → Option (List D × List (Option Back) × Env)
  | [], ρ => some ([], [], ρ)
  | .val d :: r, ρ => match takeAs r ρ with
    | some (ds, bs, ρ') => some (d :: ds, none :: bs, ρ')
    | none => none
  | .look i sel :: r, ρ => match takeAs r ρ with
    | some (ds, bs, ρ') => (match getS (slot ρ' i) sel with
      | some x => (match x.view with
        | some d => some (borD d :: ds, none :: bs, ρ')
        | none => none)
      | none => none)
    | none => none
  | .ref i sel :: r, ρ => match getS (slot ρ i) sel with
    | some .dead => none
    | some x => (match takeAs r (ρ.set i .dead) with
      | some (ds, bs, ρ') => some (x :: ds, some ⟨i, slot ρ i, sel⟩ :: bs, ρ')
      | none => none)
    | none => none
def D.flat : D → Bool
  | .dat _ => true
  | .bor _ => true
  | _ => false
def callF (F : Fn) (pu : Bool) (as : List Ar) (ρ : Env) : R D :=
  match takeAs as ρ with
  | none => .no
  | some (ds, bs, ρ1) => if pu && !ds.all D.flat || !D.nexL ds then .no else match F ds with
    | .ret d outs => (match putBack bs outs ρ1 with
      | some ρ2 => .ok d ρ2
      | none => .no)
    | .ex x outs => (match putBack bs outs ρ1 with
      | some ρ2 => .ex x ρ2
      | none => .no)
    | .no => .no
/-- an instance is made: __init__ runs at a new one -/
def newF (C : Str) (F : Fn) (as : List Ar) (ρ : Env) : R D :=
  match takeAs as ρ with
  | none => .no
  | some (ds, bs, ρ1) => if !D.nexL ds then .no else match F (.ins C [] :: ds) with
    | .ret (.dat .none) (o :: outs) => if o.own then (match putBack bs outs ρ1 with
      | some ρ2 => .ok o ρ2
      | none => .no) else .no
    | _ => .no
def fnAt (G : List Fn) (n : Nat) : Fn := G.getD n fun _ => .no

mutual
noncomputable def evE (G : List Fn) : E → Env → R D
  | .var i, ρ => (match slot ρ i with
    | .dat d => .ok (.dat d) ρ
    | .bor d => .ok (.bor d) ρ
    | _ => .no)
  | .mv i, ρ => (match slot ρ i with
    | .dead => .no
    | d => .ok d (ρ.set i .dead))
  | .cst d, ρ => .ok (.dat d) ρ
  | .glo _ d, ρ => .ok (.dat d) ρ
  | .rd p, ρ => (evP G p ρ).bind fun q ρ1 => (match getS (slot ρ1 q.1) q.2 with
    | some (.dat d) => .ok (.dat d) ρ1
    | _ => .no)
  | .bp p, ρ => (evP G p ρ).bind fun q ρ1 => (match getS (slot ρ1 q.1) q.2 with
    | some x => R.of (x.view.map .tr) ρ1
    | none => .no)
  | .neg a, ρ => (evE G a ρ).bind fun x ρ1 => (match x with
    | .dat (.int i) => .ok (.dat (.int (-i))) ρ1
    | _ => .no)
  | .not a, ρ => (evE G a ρ).bind fun x ρ1 => (match x with
    | .dat (.bool k) => .ok (.dat (.bool (!k))) ρ1
    | _ => .no)
  | .bin o a b, ρ => R.two (evE G a ρ) (fun x => x.ntr || b.pure) (fun ρ1 => evE G b ρ1) fun x y ρ2 => (match x.fz, y.fz with
    | some x, some y => R.of (binD o x y) ρ2
    | _, _ => .no)
  | .cmp o a b, ρ => R.two (evE G a ρ) (fun x => x.ntr || b.pure) (fun ρ1 => evE G b ρ1) fun x y ρ2 => R.of ((cmpV o x y).map fun k => .dat (.bool k)) ρ2
  | .chn o o' a b c, ρ => (evE G a ρ).bind fun x ρ1 => (evE G b ρ1).bind fun y ρ2 => (match x, y with
    | .dat x, .dat y => (match cmpD o x y with
      | some true => (evE G c ρ2).bind fun z ρ3 => (match z with
        | .dat z => R.of ((cmpD o' y z).map fun k => .dat (.bool k)) ρ3
        | _ => .no)
      | some false => .ok (.dat (.bool false)) ρ2
      | none => .no)
    | _, _ => .no)
  | .and a b, ρ => (evE G a ρ).bind fun x ρ1 => (match x with
    | .dat (.bool true) => evE G b ρ1
    | .dat (.bool false) => .ok (.dat (.bool false)) ρ1
    | _ => .no)
  | .or a b, ρ => (evE G a ρ).bind fun x ρ1 => (match x with
    | .dat (.bool true) => .ok (.dat (.bool true)) ρ1
    | .dat (.bool false) => evE G b ρ1
    | _ => .no)
  | .ife c a b, ρ => (evE G c ρ).bind fun x ρ1 => (match x with
    | .dat (.bool true) => evE G a ρ1
    | .dat (.bool false) => evE G b ρ1
    | _ => .no)
  | .tup es, ρ => (evEs G es ρ).bind fun xs ρ1 => (match D.fzL xs with
    | some ds => if fits ds.length then .ok (.dat (.tuple ds)) ρ1 else .no
    | none => .no)
  | .lst es, ρ => (evEs G es ρ).bind fun xs ρ1 => if fits xs.length then .ok (.lst xs) ρ1 else .no
  | .ix a i, ρ => R.two (evE G a ρ) (fun x => x.ntr || i.pure) (fun ρ1 => evE G i ρ1) fun x y ρ2 => (match y with
    | .dat y => R.of (ixV x y) ρ2
    | _ => .no)
  | .sl a lo hi, ρ => (evE G a ρ).bind fun x ρ1 => (evO G lo ρ1).bind fun l ρ2 => (evO G hi ρ2).bind fun h ρ3 => R.of (slV x l h) ρ3
  | .rev a, ρ => (evE G a ρ).bind fun x ρ1 => (match x with
    | .dat (.tuple xs) => .ok (.dat (.tuple xs.reverse)) ρ1
    | x => (match x.fz with
      | some (.list xs) => .ok (dl xs.reverse) ρ1
      | _ => .no))
  | .bi b es, ρ => (evEs G es ρ).bind fun xs ρ1 => R.of (biV b xs) ρ1
  | .isi a ts _, ρ => (evE G a ρ).bind fun x ρ1 => R.of ((isiV x ts).map fun k => .dat (.bool k)) ρ1
  | .mt m a es, ρ => (evE G a ρ).bind fun x ρ1 => if (x.ntr || es.pure) && mtTy m x.view then (evEs G es ρ1).bind fun ys ρ2 => (match x.view, D.viewL ys with
    | some x, some ys => R.of (mtD m x ys) ρ2
    | _, _ => .no) else .no
  | .pm m p es, ρ => (evP G p ρ).bind fun q ρ1 => if isLst (getS (slot ρ1 q.1) q.2) && (q.2.isEmpty || es.pure) then (evEs G es ρ1).bind fun ys ρ2 => (match getS (slot ρ2 q.1) q.2 with
    | some (.lst xs) => (match pmD m xs ys with
      | some (xs', y) => (match putS (slot ρ2 q.1) q.2 (.lst xs') with
        | some d => .ok y (ρ2.set q.1 d)
        | none => .no)
      | none => .no)
    | _ => .no) else .no
  | .call n _ pu as, ρ => (evAs G as ρ).bind fun xs ρ1 => callF (fnAt G n) (pu && as.pure) xs ρ1
  | .comp elt t it c own, ρ => (evI G it ρ).bind fun w ρ1 => (compL own t (fun r => evC G c r) (fun r => evE G elt r) w.1 ρ1).bind fun ds ρ2 =>
      if fits ds.length then (match unlock w.2 (backE ρ1 ρ2 own) with
        | some ρ3 => .ok (dl ds) ρ3
        | none => .no) else .no
  | .lrg a, ρ => (evE G a ρ).bind fun x ρ1 => (match x with
    | .dat (.int j) => if rngOk j && fits j.toNat then .ok (.lst (rngL 0 j.toNat)) ρ1 else .no
    | _ => .no)
  | .trg a, ρ => (evE G a ρ).bind fun x ρ1 => (match x with
    | .dat (.int j) => if rngOk j && fits j.toNat then .ok (.dat (.tuple ((List.range j.toNat).map fun (k : Nat) => .int (k : Int)))) ρ1 else .no
    | _ => .no)
  | .frz a, ρ => (evE G a ρ).bind fun x ρ1 => R.of (x.fz.map .dat) ρ1
  | .isx i ups, ρ => (match slot ρ i with
    | .exc C _ => .ok (.dat (.bool (ups.contains C))) ρ
    | _ => .no)
  | .xf i f, ρ => (match slot ρ i with
    | .exc _ fs => R.of ((fs.lookup f).map .dat) ρ
    | _ => .no)
  | .dcK ks es, ρ => (evEs G es ρ).bind fun xs ρ1 => if decide (xs.length = ks.length) && decide (ks.length ≤ 15) && decide ks.Nodup && D.ntrL xs then .ok (.dct (ks.zip xs)) ρ1 else .no
  | .dtE, ρ => .ok (.dtt []) ρ
  | .dt1 k v, ρ => (evE G k ρ).bind fun x ρ1 => (evE G v ρ1).bind fun y ρ2 => (match x, y with
    | .dat x, .dat y => if tkey x then .ok (.dtt [(x, y)]) ρ2 else .no
    | _, _ => .no)
  | .dget p k, ρ => (evP G p ρ).bind fun q ρ1 => if q.2.isEmpty || k.pure then (evE G k ρ1).bind fun x ρ2 => (match getS (slot ρ2 q.1) q.2, x with
    | some (.dtt kvs), .dat x => if tkey x then R.of ((aGet kvs x).map .dat) ρ2 else .no
    | _, _ => .no) else .no
  | .inD neg k p, ρ => (evE G k ρ).bind fun x ρ1 => (evP G p ρ1).bind fun q ρ2 => (match x with
    | .dat x => R.of ((dHas (getS (slot ρ2 q.1) q.2) x).map fun b => .dat (.bool (if neg then !b else b))) ρ2
    | _ => .no)
  | .get2 p k d, ρ => (evP G p ρ).bind fun q ρ1 => if isDct (getS (slot ρ1 q.1) q.2) && (q.2.isEmpty || (k.pure && d.pure)) then (evE G k ρ1).bind fun x ρ2 => (evE G d ρ2).bind fun y ρ3 => (match x, y with
    | .dat x, .dat y => R.of ((dGet2 (getS (slot ρ3 q.1) q.2) x y).map .dat) ρ3
    | _, _ => .no) else .no
  | .new n C as, ρ => (evAs G as ρ).bind fun xs ρ1 => newF C (fnAt G n) xs ρ1
  | .mcall n C m p as, ρ => (evP G p ρ).bind fun q ρ1 => if isIns C m (getS (slot ρ1 q.1) q.2) && (q.2.isEmpty || as.pure) then (evAs G as ρ1).bind fun xs ρ2 => callF (fnAt G n) false (.ref q.1 q.2 :: xs) ρ2 else .no
  | .srtD p, ρ => (evP G p ρ).bind fun q ρ1 => (match getS (slot ρ1 q.1) q.2 with
    | some (.dtt kvs) => R.of (sortD false [.list (kvs.map (·.1))]) ρ1
    | _ => .no)
  | .rdx p e, ρ => (evP G p ρ).bind fun q ρ1 => if q.2.isEmpty || e.pure then (evE G e ρ1).bind fun x ρ2 => (match x with
    | .dat x => (match selD (getS (slot ρ2 q.1) q.2) x with
      | some sl => (match getS (slot ρ2 q.1) (q.2 ++ [sl]) with
        | some (.dat d) => .ok (.dat d) ρ2
        | _ => .no)
      | none => .no)
    | _ => .no) else .no
  | .tupP p, ρ => (evP G p ρ).bind fun q ρ1 => (match getS (slot ρ1 q.1) q.2 with
    | some (.lst xs) => R.of ((D.dats xs).map fun ds => .dat (.tuple ds)) ρ1
    | _ => .no)
  | .compP elt t it own, ρ => (evS G it ρ).bind fun w ρ1 => (match mapP own t (fun r => evE G elt r) w.1 w.2 with
    | some zs => if elt.pure && fits zs.length then .ok (.lst zs) ρ1 else .no
    | none => .no)
  | .pm2 p p' es, ρ => (evP G p ρ).bind fun q ρ1 => if isLst (getS (slot ρ1 q.1) q.2) && q.2.all Sel.isKey && p'.pure && es.pure then (evP G p' ρ1).bind fun q' ρ2 => if isLst (getS (slot ρ2 q'.1) q'.2) then (evEs G es ρ2).bind fun ys ρ3 => (match getS (slot ρ3 q'.1) q'.2 with
    | some (.lst xs') => (match pmD .popAt xs' ys with
      | some (xs2, y) => (match putS (slot ρ3 q'.1) q'.2 (.lst xs2) with
        | some d => (match getS (slot (ρ3.set q'.1 d) q.1) q.2 with
          | some (.lst xs) => (match pmD .append xs [y] with
            | some (xs3, z) => (match putS (slot (ρ3.set q'.1 d) q.1) q.2 (.lst xs3) with
              | some d' => .ok z ((ρ3.set q'.1 d).set q.1 d')
              | none => .no)
            | none => .no)
          | _ => .no)
        | none => .no)
      | none => .no)
    | _ => .no) else .no else .no
  | .fldE e f, ρ => (evE G e ρ).bind fun x ρ1 => (match x with
    | .ins _ fs => (match aGet fs f with
      | some d => if d.ntr then .ok d ρ1 else .no
      | none => .no)
    | _ => .no)
noncomputable def evEs (G : List Fn) : Es → Env → R (List D)
  | .nil, ρ => .ok [] ρ
  | .cons e r, ρ => R.two (evE G e ρ) (fun x => x.ntr || r.pure) (fun ρ1 => evEs G r ρ1) fun x xs ρ2 => .ok (x :: xs) ρ2
noncomputable def evO (G : List Fn) : O → Env → R (Option Int)
  | .none, ρ => .ok none ρ
  | .some e, ρ => (evE G e ρ).bind fun x ρ1 => (match x with
    | .dat (.int i) => .ok (some i) ρ1
    | _ => .no)
noncomputable def evC (G : List Fn) : O → Env → R D
  | .none, ρ => .ok (.dat (.bool true)) ρ
  | .some e, ρ => evE G e ρ
noncomputable def evAs (G : List Fn) : As → Env → R (List Ar)
  | .nil, ρ => .ok [] ρ
  | .val e r, ρ => (evE G e ρ).bind fun x ρ1 => if x.ntr then (evAs G r ρ1).bind fun xs ρ2 => .ok (.val x :: xs) ρ2 else .no
  | .ref p r, ρ => (evP G p ρ).bind fun q ρ1 => if q.2.isEmpty || r.pure then (evAs G r ρ1).bind fun xs ρ2 => .ok (.ref q.1 q.2 :: xs) ρ2 else .no
  | .look p r, ρ => (evP G p ρ).bind fun q ρ1 => if q.2.isEmpty || r.pure then (evAs G r ρ1).bind fun xs ρ2 => .ok (.look q.1 q.2 :: xs) ρ2 else .no
noncomputable def evP (G : List Fn) : P → Env → R (Nat × List Sel)
  | .root i, ρ => (match slot ρ i with
    | .dead => .no
    | _ => .ok (i, []) ρ)
  | .idx p e, ρ => (evP G p ρ).bind fun q ρ1 => if e.pure then (evE G e ρ1).bind fun x ρ2 => (match x with
    | .dat d => (match selD (getS (slot ρ2 q.1) q.2) d with
      | some sl => if isLive (getS (slot ρ2 q.1) (q.2 ++ [sl])) then .ok (q.1, q.2 ++ [sl]) ρ2 else .no
      | none => .no)
    | _ => .no) else .no
  | .fld p f, ρ => (evP G p ρ).bind fun q ρ1 => if isLive (getS (slot ρ1 q.1) (q.2 ++ [.fld f])) then .ok (q.1, q.2 ++ [.fld f]) ρ1 else .no
/-- what a comprehension without changes walks: its items, and the env with what they lean on shut -/
noncomputable def evS (G : List Fn) : I → Env → R (List D × Env)
  | .bor p, ρ => (evP G p ρ).bind fun q ρ1 => (match getS (slot ρ1 q.1) q.2 with
    | some (.lst xs) => (match D.viewL xs with
      | some ds => .ok (ds.map borD, ρ1.set q.1 .dead) ρ1
      | none => .no)
    | _ => .no)
  | .val e, ρ => (evE G e ρ).bind fun x ρ1 => (match itemsV x with
    | some xs => .ok (xs, ρ1) ρ1
    | none => .no)
  | _, _ => .no
/-- what is walked: its items, and the slot that is shut meanwhile -/
noncomputable def evI (G : List Fn) : I → Env → R (List D × Option (Nat × D))
  | .val e, ρ => (evE G e ρ).bind fun x ρ1 => (match itemsV x with
    | some xs => .ok (xs, none) ρ1
    | none => .no)
  | .ref p, ρ => (evP G p ρ).bind fun q ρ1 => (match getS (slot ρ1 q.1) q.2 with
    | some (.lst xs) => (match D.dats xs with
      | some _ => .ok (xs, some (q.1, slot ρ1 q.1)) (ρ1.set q.1 .dead)
      | none => .no)
    | _ => .no)
  | .rng1 a, ρ => (evE G a ρ).bind fun x ρ1 => (match x with
    | .dat (.int j) => if rngOk j then .ok (rngL 0 j.toNat, none) ρ1 else .no
    | _ => .no)
  | .rng2 a b, ρ => (evE G a ρ).bind fun x ρ1 => (evE G b ρ1).bind fun y ρ2 => (match x, y with
    | .dat (.int i), .dat (.int j) => if rngOk i && rngOk j then .ok (rngL i (j - i).toNat, none) ρ2 else .no
    | _, _ => .no)
  | .rrng1 a, ρ => (evE G a ρ).bind fun x ρ1 => (match x with
    | .dat (.int j) => if rngOk j then .ok (rrngL j.toNat, none) ρ1 else .no
    | _ => .no)
  | .zip a b, ρ => (evE G a ρ).bind fun x ρ1 => if x.ntr then (evE G b ρ1).bind fun y ρ2 => (match datsV x, datsV y with
    | some xs, some ys => if isTupV x == isTupV y then .ok (zipL xs ys, none) ρ2 else .no
    | _, _ => .no) else .no
  | .enum a, ρ => (evE G a ρ).bind fun x ρ1 => (match datsV x with
    | some xs => if isTupV x then .no else .ok (enumL xs, none) ρ1
    | _ => .no)
  | .revd a, ρ => (evE G a ρ).bind fun x ρ1 => (match datsV x with
    | some xs => .ok (xs.reverse.map .dat, none) ρ1
    | _ => .no)
  | .keys p, ρ => (evP G p ρ).bind fun q ρ1 => (match getS (slot ρ1 q.1) q.2 with
    | some (.dtt kvs) => .ok (kvs.map fun kv => .dat kv.1, some (q.1, slot ρ1 q.1)) (ρ1.set q.1 .dead)
    | _ => .no)
  | .bor _, _ => .no
end

def SR.unlock (w : Option (Nat × D)) : SR → SR
  | .nx ρ => (match DE.unlock w ρ with | some ρ' => .nx ρ' | none => .no)
  | .rt d ρ => (match DE.unlock w ρ with | some ρ' => .rt d ρ' | none => .no)
  | .ex x ρ => (match DE.unlock w ρ with | some ρ' => .ex x ρ' | none => .no)
  | .no => .no

/-- nothing is borrowed -/
def D.isD : D → Bool
  | .dead => true
  | _ => false
def noBor (ρ : Env) : Bool := ρ.all fun d => d.own || d.isD
def SR.shutB (i : Nat) (d : D) : SR → SR
  | .nx ρ => if noBor ρ && (slot ρ i).isD then .nx (ρ.set i d) else .no
  | _ => .no
def T.slots : T → List Nat
  | .nm i => [i]
  | .tp is => is
mutual
/-- the slots that a statement may store to -/
def S.asgs : S → List Nat
  | .asg t _ => t.slots
  | .par is _ => is
  | .freeze i => []
  | .ifs _ a b => a.asgs ++ b.asgs
  | .fors t _ b => t.slots ++ b.asgs
  | .forB t _ b => t.slots ++ b.asgs
  | .whl _ b => b.asgs
  | .tri b x _ _ s => x.toList ++ b.asgs ++ s.asgs
  | _ => []
def Ss.asgs : Ss → List Nat
  | .nil => []
  | .cons s r => s.asgs ++ r.asgs
  | .opq => []
end
/-- the fields of an exception as it is made -/
def excF (fs : List Str) (ds : List PyData) : Option (List (Str × PyData)) :=
  if fs.isEmpty then (if ds.length = 1 then some [] else none) else if fs.length = ds.length then some (fs.zip ds).reverse else none
/-- behind an except suite -/
def SR.suite (x : Option Nat) : SR → SR
  | .nx ρ => (match x with | some i => if D.nexL (ρ.set i .dead) then .nx (ρ.set i .dead) else .no | none => .nx ρ)
  | .rt d ρ => (match x with | some i => if D.nexL (ρ.set i .dead) then .rt d (ρ.set i .dead) else .no | none => .rt d ρ)
  | .ex _ _ => .no
  | .no => .no
mutual
noncomputable def exS (G : List Fn) : S → Env → SR
  | .asg t e, ρ => (evE G e ρ).sbind fun x ρ1 => if x.own then (match storeT t x ρ1 with
    | some ρ2 => .nx ρ2
    | none => .no) else .no
  | .set p i e, ρ => (evE G e ρ).sbind fun x ρ1 => (evP G p ρ1).sbind fun q ρ2 => if (q.2.isEmpty || i.pure) && x.own then (evE G i ρ2).sbind fun y ρ3 =>
      (match getS (slot ρ3 q.1) q.2, y with
      | some (.lst xs), .dat (.int k) => (match L2.ixN xs.length k with
        | some j => (match putS (slot ρ3 q.1) q.2 (.lst (xs.set j x)) with
          | some d => .nx (ρ3.set q.1 d)
          | none => .no)
        | none => .no)
      | some (.dct kvs), .dat k => (match keyE k with
        | some k => if decide (kvs.length < 16777216) then (match putS (slot ρ3 q.1) q.2 (.dct (aPut kvs k x)) with
          | some d => .nx (ρ3.set q.1 d)
          | none => .no) else .no
        | none => .no)
      | _, _ => .no) else .no
  | .setf p f e, ρ => (evE G e ρ).sbind fun x ρ1 => if x.own then (evP G p ρ1).sbind fun q ρ2 =>
      (match getS (slot ρ2 q.1) q.2 with
      | some (.ins C fs) => if decide (fs.length < 1000) then (match putS (slot ρ2 q.1) q.2 (.ins C (aPut fs f x)) with
        | some d => .nx (ρ2.set q.1 d)
        | none => .no) else .no
      | _ => .no) else .no
  | .dset p k e, ρ => (evE G e ρ).sbind fun x ρ1 => (evP G p ρ1).sbind fun q ρ2 => if q.2.isEmpty || k.pure then (evE G k ρ2).sbind fun y ρ3 =>
      (match x, getS (slot ρ3 q.1) q.2, y with
      | .dat x, some (.dtt kvs), .dat k => if tkey k && decide (kvs.length < 16777216) then (match putS (slot ρ3 q.1) q.2 (.dtt (aPut kvs k x)) with
        | some d => .nx (ρ3.set q.1 d)
        | none => .no) else .no
      | _, _, _ => .no) else .no
  | .set2 _ _ _ _ _, _ => .no
  | .par is es, ρ => (evEs G es ρ).sbind fun xs ρ1 => if D.ownL xs then (match storeT.storeL is xs ρ1 with
    | some ρ2 => .nx ρ2
    | none => .no) else .no
  | .ex e, ρ => (evE G e ρ).sbind fun _ ρ1 => .nx ρ1
  | .ret e, ρ => (evE G e ρ).sbind fun x ρ1 => if x.own then .rt x ρ1 else .no
  | .retN, ρ => .rt (.dat .none) ρ
  | .ifs c a b, ρ => (evE G c ρ).sbind fun x ρ1 => (match x with
    | .dat (.bool true) => exSs G a ρ1
    | .dat (.bool false) => exSs G b ρ1
    | _ => .no)
  | .fors t it body, ρ => (evI G it ρ).sbind fun w ρ1 => if w.2.all (fun y => !(t.slots ++ body.asgs).contains y.1) then (forL t (exSs G body) w.1 ρ1).unlock w.2 else .no
  | .forB t p body, ρ => (evP G p ρ).sbind fun q ρ1 => (match getS (slot ρ1 q.1) q.2 with
      | some (.lst xs) => (match D.viewL xs with
        | some ds => if !(t.slots ++ body.asgs).contains q.1 then (forL t (exSs G body) (ds.map borD) (ρ1.set q.1 .dead)).shutB q.1 (slot ρ1 q.1) else .no
        | none => .no)
      | _ => .no)
  | .whl c body, ρ => whileU (evE G c) (exSs G body) ρ
  | .kill i, ρ => .nx (ρ.set i .dead)
  | .rse C fs es, ρ => (evEs G es ρ).sbind fun xs ρ1 => (match D.fzL xs with
    | some ds => (match excF fs ds with
      | some gs => .ex (.exc C gs) ρ1
      | none => .no)
    | none => .no)
  | .tri b x _ ups s, ρ => (match exSs G b ρ with
    | .ex (.exc C fs) ρ1 => if ups.contains C then (match x with
        | some i => if i < ρ1.length && D.nexL ρ1 then (exSs G s (ρ1.set i (.exc C fs))).suite x else .no
        | none => (exSs G s ρ1).suite none) else .ex (.exc C fs) ρ1
    | r => r)
  | .freeze i, ρ => (match (slot ρ i).fz with
    | some d => if i < ρ.length then .nx (ρ.set i (.dat d)) else .no
    | none => .no)
noncomputable def exSs (G : List Fn) : Ss → Env → SR
  | .nil, ρ => .nx ρ
  | .cons s r, ρ => (exS G s ρ).bind (exSs G r)
  | .opq, _ => .no
end

/-- a def: how many slots, which parameters are changed for the caller, its body -/
structure FnIR where
  n : Nat
  io : List Bool
  body : Ss
def outsOf : List Bool → Env → Env
  | [], _ => []
  | _ :: r, [] => .dead :: outsOf r []
  | b :: r, d :: ρ => (if b then d else .dead) :: outsOf r ρ
/-- what a def's run comes to -/
noncomputable def runF (G : List Fn) (f : FnIR) (ds : List D) : FR :=
  if ds.length = f.io.length ∧ f.io.length ≤ f.n then
    match exSs G f.body (ds ++ List.replicate (f.n - ds.length) .dead) with
    | .rt d ρ => .ret d (outsOf f.io ρ)
    | .nx ρ => .ret (.dat .none) (outsOf f.io ρ)
    | .ex x ρ => .ex x (outsOf f.io ρ)
    | .no => .no
  else .no
end DE
end

section
set_option Elab.async false
set_option linter.all false
/-! DE2: how a value stands in the abstract heap. -/
namespace DE
open PySem L2

/-- what an owned address may bear -/
def Ow : HO → Prop
  | .lst _ => True
  | .ins _ _ _ => True
  | .ext _ => True
  | .dK _ => True
  | _ => False

/-- a list that is never written: kept for ever, or locked, or one of the written part -/
def FzL (K : PySem.W.Frag) (H : Hp) (S : Addr → Prop) (a : Addr) (xs : List V) : Prop := (H a = some (.lst xs) ∧ S a) ∨ (∃ o, H a = some (.frz o (.lst xs))) ∨
  ∃ (its : Array Value) (n : Nat), K.lookup a = some { cls := .type "list", data := .seq its n } ∧ its.size ≤ sizeLine ∧ Vals xs its.toList
theorem FzL.seq {K : PySem.W.Frag} {H : Hp} {S : Addr → Prop} {a : Addr} {xs : List V} (h : FzL K H S a xs) : SqL K H a xs := by
  rcases h with h | h | ⟨its, n, h1, h2, h3⟩
  · exact .inl (.inl h.1)
  · exact .inl (.inr h)
  · exact .inr ⟨_, its, n, h1, rfl, rfl, rfl, h2, h3⟩

/-- a tuple whose object has no dict -/
def NqT (K : PySem.W.Frag) (H : Hp) (a : Addr) (xs : List V) : Prop :=
  (∃ o : Obj, H a = some (.frz o (.tup xs)) ∧ o.dict = none) ∨
    ∃ (o : Obj) (its : Array Value) (n : Nat), K.lookup a = some o ∧ o.cls = .type "tuple" ∧ o.data = .seq its n ∧ its.size ≤ sizeLine ∧ Vals xs its.toList ∧ o.dict = none
theorem NqT.sq {K : PySem.W.Frag} {H : Hp} {a : Addr} {xs : List V} (h : NqT K H a xs) : SqT K H a xs := by
  rcases h with ⟨o, h, _⟩ | ⟨o, its, n, h1, h2, h3, h4, h5, _⟩
  · exact .inl (.inr ⟨o, h⟩)
  · exact .inr ⟨o, its, n, h1, h2, h3, h4, h5⟩
mutual
/-- data that stand at a value; S: the addresses of lists that stay as they are -/
inductive Rp (K : PySem.W.Frag) (H : Hp) (S : Addr → Prop) : V → PyData → Prop
  | non : Rp K H S .non .none
  | bl (b : Bool) : Rp K H S (.bl b) (.bool b)
  | int (i : Int) : Rp K H S (.int i) (.int i)
  | str (x : Str) : Rp K H S (.str x) (.str x)
  | lst {a : Addr} {xs : List V} {ds : List PyData} : FzL K H S a xs → RpL K H S xs ds → Rp K H S (.ref a) (.list ds)
  | tup {a : Addr} {xs : List V} {ds : List PyData} : NqT K H a xs → RpL K H S xs ds → Rp K H S (.ref a) (.tuple ds)
inductive RpL (K : PySem.W.Frag) (H : Hp) (S : Addr → Prop) : List V → List PyData → Prop
  | nil : RpL K H S [] []
  | cons {v : V} {vs : List V} {d : PyData} {ds : List PyData} : Rp K H S v d → RpL K H S vs ds → RpL K H S (v :: vs) (d :: ds)
end

/-- the names of exceptions that may fly; those at hand (address, class, dict) -/
structure Xs where
  ex : List Str
  l : List (Addr × Addr × Option Addr)
  cl : List Str
structure Kx where
  K : PySem.W.Frag
  mg : Str → Option Value
  xs : Xs
  P : Program
  w : World
/-- the names of exceptions, of classes -/
abbrev XC := List Str × List Str
abbrev kf (P : Program) (w : World) (K : PySem.W.Frag) (mg : Str → Option Value) (ex : XC) : Kx := ⟨K, mg, ⟨ex.1, [], ex.2⟩, P, w⟩
abbrev kx (X : Cx) (xz : Xs) : Kx := ⟨X.K, X.mg, xz, X.prog, X.w⟩
/-- the dict of an exception -/
def XdR (K : PySem.W.Frag) (H : Hp) (S : Addr → Prop) : Option Addr → List (Str × PyData) → Prop
  | none, fs => fs = []
  | some d, fs => ∃ vs : List (Str × V), H d = some (.xd vs) ∧ vs.map (·.1) = fs.map (·.1) ∧ RpL K H S (vs.map (·.2)) (fs.map (·.2))

theorem ntrK_map : ∀ kvs : List (L2.Key × D), D.ntrK kvs = D.ntrL (kvs.map (·.2))
  | [] => rfl
  | (k, x) :: r => by rw [D.ntrK, List.map_cons, D.ntrL, ntrK_map r]
theorem ntrF_map : ∀ kvs : List (Str × D), D.ntrF kvs = D.ntrL (kvs.map (·.2))
  | [] => rfl
  | (k, x) :: r => by rw [D.ntrF, List.map_cons, D.ntrL, ntrF_map r]
theorem ownK_map : ∀ kvs : List (L2.Key × D), D.ownK kvs = D.ownL (kvs.map (·.2))
  | [] => rfl
  | (k, x) :: r => by rw [D.ownK, List.map_cons, D.ownL, ownK_map r]
theorem ownF_map : ∀ kvs : List (Str × D), D.ownF kvs = D.ownL (kvs.map (·.2))
  | [] => rfl
  | (k, x) :: r => by rw [D.ownF, List.map_cons, D.ownL, ownF_map r]
theorem nexK_map : ∀ kvs : List (L2.Key × D), D.nexK kvs = D.nexL (kvs.map (·.2))
  | [] => rfl
  | (k, x) :: r => by rw [D.nexK, List.map_cons, D.nexL, nexK_map r]
theorem nexF_map : ∀ kvs : List (Str × D), D.nexF kvs = D.nexL (kvs.map (·.2))
  | [] => rfl
  | (k, x) :: r => by rw [D.nexF, List.map_cons, D.nexL, nexF_map r]
/-- a dict of tuple keys, by its entries -/
def rawT (a : Addr) (es : Array DictEntry) (ep : Nat) : HO := .ext fun h => (∃ o, h.get? a = some o ∧ o.ExactDict ∧ o.data = .dict es ep) ∧ (a == sysModules) = false
/-- .. what they stand for -/
def EntR (K : PySem.W.Frag) (H : Hp) (S : Addr → Prop) (kv : PyData × PyData) (x : NestedKey × Addr × Value) : Prop :=
  NestedKey.data x.1 = kv.1 ∧ x.1.depth ≤ 8 ∧ Rp K H (fun _ => False) (.ref x.2.1) kv.1 ∧ ∃ v, RelV v x.2.2 ∧ Rp K H S v kv.2
def DtR (P : Program) (w : World) (K : PySem.W.Frag) (H : Hp) (S : Addr → Prop) (kvs : List (PyData × PyData)) (es : Array DictEntry) : Prop :=
  kvs.length ≤ sizeLine ∧ ∃ xs : List (NestedKey × Addr × Value), es.toList = xs.map (entryOfKey (nestedKind P w)) ∧ (xs.map (·.1)).Nodup ∧ Paired (EntR K H S) kvs xs

mutual
/-- a value of the embedding that stands at a value; f counts the addresses that it owns -/
inductive Rv (K : Kx) (H : Hp) (Fz Bz : Addr → Prop) : V → D → (Addr → Nat) → Prop
  | dat {v : V} {d : PyData} {f : Addr → Nat} : Rp K.K H Fz v d → (∀ b, f b = 0) → Rv K H Fz Bz v (.dat d) f
  | bor {v : V} {d : PyData} {f : Addr → Nat} : Rp K.K H (fun a => Fz a ∨ Bz a) v d → (∀ b, f b = 0) → Rv K H Fz Bz v (.bor d) f
  | tr {v : V} {d : PyData} {f : Addr → Nat} : Rp K.K H (fun _ => True) v d → (∀ b, f b = 0) → Rv K H Fz Bz v (.tr d) f
  | lst {a : Addr} {vs : List V} {xs : List D} {f g : Addr → Nat} : H a = some (.lst vs) → RvL K H Fz Bz vs xs g → (∀ b, f b = g b + if b = a then 1 else 0) → Rv K H Fz Bz (.ref a) (.lst xs) f
  | dct {a : Addr} {ps : List (L2.Key × V)} {kvs : List (L2.Key × D)} {f g : Addr → Nat} : H a = some (.dK ps) → ps.map (·.1) = kvs.map (·.1) ∧ (kvs.map (·.1)).Nodup → RvL K H Fz Bz (ps.map (·.2)) (kvs.map (·.2)) g → (∀ b, f b = g b + if b = a then 1 else 0) → Rv K H Fz Bz (.ref a) (.dct kvs) f
  | dtt {a : Addr} {es : Array DictEntry} {ep : Nat} {kvs : List (PyData × PyData)} {f : Addr → Nat} : H a = some (rawT a es ep) → DtR K.P K.w K.K H Fz kvs es → (∀ b, f b = if b = a then 1 else 0) → Rv K H Fz Bz (.ref a) (.dtt kvs) f
  | ins {a c dx : Addr} {C : Str} {vs : List (Str × V)} {fs : List (Str × D)} {f g : Addr → Nat} : H a = some (.ins c dx vs) → (C ∈ K.xs.cl ∧ K.mg C = some (.ref c)) → vs.map (·.1) = fs.map (·.1) → RvL K H Fz Bz (vs.map (·.2)) (fs.map (·.2)) g → (∀ b, f b = g b + if b = a then 1 else 0) → Rv K H Fz Bz (.ref a) (.ins C fs) f
  | exc {a c : Addr} {d : Option Addr} {C : Str} {fs : List (Str × PyData)} {f : Addr → Nat} : (a, c, d) ∈ K.xs.l → (C ∈ K.xs.ex ∧ K.mg C = some (.ref c)) → XdR K.K H Fz d fs → (∀ b, f b = 0) → Rv K H Fz Bz (.ref a) (.exc C fs) f
  | dead {v : V} {f : Addr → Nat} : (∀ b, f b = 0) → Rv K H Fz Bz v .dead f
inductive RvL (K : Kx) (H : Hp) (Fz Bz : Addr → Prop) : List V → List D → (Addr → Nat) → Prop
  | nil {f : Addr → Nat} : (∀ b, f b = 0) → RvL K H Fz Bz [] [] f
  | cons {v : V} {vs : List V} {d : D} {ds : List D} {f g h : Addr → Nat} : Rv K H Fz Bz v d f → RvL K H Fz Bz vs ds g → (∀ b, h b = f b + g b) → RvL K H Fz Bz (v :: vs) (d :: ds) h
end

/-- a slot -/
def Rs (K : Kx) (H : Hp) (Fz Bz : Addr → Prop) (o : Option V) (d : D) (f : Addr → Nat) : Prop :=
  (d = .dead ∧ ∀ b, f b = 0) ∨ ∃ v, o = some v ∧ d.ntr = true ∧ Rv K H Fz Bz v d f
/-- the slots -/
inductive Re (K : Kx) (H : Hp) (Fz Bz : Addr → Prop) : St → Env → (Addr → Nat) → Prop
  | nil {f : Addr → Nat} : (∀ b, f b = 0) → Re K H Fz Bz [] [] f
  | cons {o : Option V} {s : St} {d : D} {r : Env} {f g h : Addr → Nat} : Rs K H Fz Bz o d f → Re K H Fz Bz s r g → (∀ b, h b = f b + g b) → Re K H Fz Bz (o :: s) (d :: r) h

/-- what is owned is owned once, is there, is not kept for ever -/
structure Wf (H : Hp) (Fz Bz : Addr → Prop) (f : Addr → Nat) : Prop where
  lin : ∀ b, f b ≤ 1
  own : ∀ b, 1 ≤ f b → ∃ o, H b = some o ∧ Ow o
  fz : ∀ b, Fz b → f b = 0 ∧ ∃ o, H b = some o
  bz : ∀ b, Bz b → f b = 0 ∧ ∃ o, H b = some o

/-- from a heap to a later one: what is not owned here stays -/
structure Stp (pu : Bool) (H : Hp) (Fz : Addr → Prop) (f : Addr → Nat) (H' : Hp) (Fz' : Addr → Prop) (f' : Addr → Nat) : Prop where
  keep : ∀ b o, H b = some o → (f b = 0 ∨ pu = true) → H' b = some o
  there : ∀ b o, H b = some o → ∃ o', H' b = some o'
  own : ∀ b, 1 ≤ f' b → 1 ≤ f b ∨ H b = none
  fz : ∀ b, Fz' b → Fz b ∨ 1 ≤ f b ∨ H b = none
  mono : ∀ b, Fz b → Fz' b

section
variable {K : PySem.W.Frag} {H H' H1 H2 : Hp} {S S' Fz Fz' Bz Bz' : Addr → Prop}

theorem FzL.keep {a : Addr} {xs : List V} (h : FzL K H S a xs) (k : ∀ b o, H b = some o → (S b ∨ ¬ Ow o) → H' b = some o) (m : ∀ b, S b → S' b) : FzL K H' S' a xs := by
  rcases h with ⟨h, s⟩ | ⟨o, h⟩ | h
  · exact .inl ⟨k _ _ h (.inl s), m _ s⟩
  · exact .inr (.inl ⟨o, k _ _ h (.inr (fun z => z))⟩)
  · exact .inr (.inr h)
theorem SqT.keep {a : Addr} {xs : List V} (h : SqT K H a xs) (k : ∀ b o, H b = some o → ¬ Ow o → H' b = some o) : SqT K H' a xs := by
  rcases h with (h | ⟨o, h⟩) | h
  · exact .inl (.inl (k _ _ h (fun z => z)))
  · exact .inl (.inr ⟨o, k _ _ h (fun z => z)⟩)
  · exact .inr h
theorem NqT.keep {a : Addr} {xs : List V} (h : NqT K H a xs) (k : ∀ b o, H b = some o → ¬ Ow o → H' b = some o) : NqT K H' a xs := by
  rcases h with ⟨o, h, d⟩ | h
  · exact .inl ⟨o, k _ _ h (fun z => z), d⟩
  · exact .inr h
mutual
theorem Rp.keep (k : ∀ b o, H b = some o → (S b ∨ ¬ Ow o) → H' b = some o) (m : ∀ b, S b → S' b) : ∀ {v : V} {d : PyData}, Rp K H S v d → Rp K H' S' v d
  | _, _, .non => .non
  | _, _, .bl b => .bl b
  | _, _, .int i => .int i
  | _, _, .str x => .str x
  | _, _, .lst h r => .lst (h.keep k m) (RpL.keep k m r)
  | _, _, .tup h r => .tup (NqT.keep h fun b o e n => k b o e (.inr n)) (RpL.keep k m r)
theorem RpL.keep (k : ∀ b o, H b = some o → (S b ∨ ¬ Ow o) → H' b = some o) (m : ∀ b, S b → S' b) : ∀ {vs : List V} {ds : List PyData}, RpL K H S vs ds → RpL K H' S' vs ds
  | _, _, .nil => .nil
  | _, _, .cons r t => .cons (Rp.keep k m r) (RpL.keep k m t)
end
mutual
theorem Rp.dp : ∀ {v : V} {d : PyData}, Rp K H S v d → Dp K H v d
  | _, _, .non => .non
  | _, _, .bl b => .bl b
  | _, _, .int i => .int i
  | _, _, .str x => .str x
  | _, _, .lst h r => .lst h.seq (RpL.dp r)
  | _, _, .tup h r => .tup h.sq (RpL.dp r)
theorem RpL.dp : ∀ {vs : List V} {ds : List PyData}, RpL K H S vs ds → DpAll K H vs ds
  | _, _, .nil => .nil
  | _, _, .cons r t => .cons (Rp.dp r) (RpL.dp t)
end
theorem Rp.mono (m : ∀ b, S b → S' b) {v : V} {d : PyData} (h : Rp K H S v d) : Rp K H S' v d := h.keep (fun _ _ e _ => e) m
theorem RpL.mono (m : ∀ b, S b → S' b) {v : List V} {d : List PyData} (h : RpL K H S v d) : RpL K H S' v d := h.keep (fun _ _ e _ => e) m
theorem RpL.length : ∀ {vs : List V} {ds : List PyData}, RpL K H S vs ds → vs.length = ds.length
  | _, _, .nil => rfl
  | _, _, .cons _ t => by simp [RpL.length t]
theorem RpL.append : ∀ {vs ws : List V} {ds es : List PyData}, RpL K H S vs ds → RpL K H S ws es → RpL K H S (vs ++ ws) (ds ++ es)
  | _, _, _, _, .nil, h => h
  | _, _, _, _, .cons r t, h => .cons r (RpL.append t h)
theorem RpL.drop : ∀ {vs : List V} {ds : List PyData} (n : Nat), RpL K H S vs ds → RpL K H S (vs.drop n) (ds.drop n)
  | _, _, 0, h => h
  | _, _, _ + 1, .nil => .nil
  | _, _, n + 1, .cons _ t => RpL.drop n t
theorem RpL.take : ∀ {vs : List V} {ds : List PyData} (n : Nat), RpL K H S vs ds → RpL K H S (vs.take n) (ds.take n)
  | _, _, 0, _ => .nil
  | _, _, _ + 1, .nil => .nil
  | _, _, n + 1, .cons r t => .cons r (RpL.take n t)
theorem RpL.reverse : ∀ {vs : List V} {ds : List PyData}, RpL K H S vs ds → RpL K H S vs.reverse ds.reverse
  | _, _, .nil => .nil
  | _, _, .cons r t => by
    rw [List.reverse_cons, List.reverse_cons]
    exact (RpL.reverse t).append (.cons r .nil)
theorem RpL.get : ∀ {vs : List V} {ds : List PyData} {i : Nat} {d : PyData}, RpL K H S vs ds → ds[i]? = some d → ∃ v, vs[i]? = some v ∧ Rp K H S v d
  | _, _, _, _, .nil, e => by simp at e
  | _, _, 0, _, .cons r _, e => by simp at e; subst e; exact ⟨_, rfl, r⟩
  | _, _, i + 1, d, .cons _ t, e => by
    obtain ⟨u, h1, h2⟩ := RpL.get (i := i) (d := d) t (by simpa using e)
    exact ⟨u, by simpa using h1, h2⟩
theorem RpL.getV : ∀ {vs : List V} {ds : List PyData} {i : Nat} {v : V}, RpL K H S vs ds → vs[i]? = some v → ∃ d, ds[i]? = some d ∧ Rp K H S v d
  | _, _, _, _, .nil, e => by simp at e
  | _, _, 0, _, .cons r _, e => by simp at e; subst e; exact ⟨_, rfl, r⟩
  | _, _, i + 1, d, .cons _ t, e => by
    obtain ⟨u, h1, h2⟩ := RpL.getV (i := i) (v := d) t (by simpa using e)
    exact ⟨u, by simpa using h1, h2⟩
theorem RpL.atI {vs : List V} {ds : List PyData} {i : Int} {d : PyData} (h : RpL K H S vs ds) (e : L2.atI ds i = some d) : ∃ v, L2.atI vs i = some v ∧ Rp K H S v d := by
  unfold L2.atI at e ⊢
  rw [← h.length] at e
  cases q : ixN vs.length i with
  | none => rw [q] at e; cases e
  | some j =>
    rw [q] at e
    exact h.get (i := j) e
theorem RpL.replicate {vs : List V} {ds : List PyData} (h : RpL K H S vs ds) : ∀ n : Nat, RpL K H S (List.replicate n vs).flatten (List.replicate n ds).flatten
  | 0 => .nil
  | n + 1 => by
    rw [List.replicate_succ, List.replicate_succ, List.flatten_cons, List.flatten_cons]
    exact h.append (RpL.replicate h n)
theorem RpL.cut {vs : List V} {ds : List PyData} (h : RpL K H S vs ds) (lo hi : Option Int) : RpL K H S (L2.cutV vs lo hi) (cutL ds lo hi) := by
  unfold L2.cutV cutL
  rw [h.length]
  exact (h.drop _).take _

theorem XdR.keep {o : Option Addr} {fs : List (Str × PyData)} (k : ∀ b o, H b = some o → (S b ∨ ¬ Ow o) → H' b = some o) (m : ∀ b, S b → S' b) (h : XdR K H S o fs) : XdR K H' S' o fs := by
  cases o with
  | none => exact h
  | some d =>
    obtain ⟨vs, e, n, r⟩ := h
    exact ⟨vs, k _ _ e (.inr fun z => z), n, r.keep k m⟩
theorem XdR.get {d : Addr} {fs : List (Str × PyData)} {f : Str} {p : PyData} (h : XdR K H S (some d) fs) (e : fs.lookup f = some p) : ∃ vs v, H d = some (.xd vs) ∧ vs.lookup f = some v ∧ Rp K H S v p := by
  obtain ⟨vs, hd, n, r⟩ := h
  refine ⟨vs, ?_⟩
  have go : ∀ (vs : List (Str × V)) (fs : List (Str × PyData)), vs.map (·.1) = fs.map (·.1) → RpL K H S (vs.map (·.2)) (fs.map (·.2)) → fs.lookup f = some p → ∃ v, vs.lookup f = some v ∧ Rp K H S v p := by
    intro vs
    induction vs with
    | nil => intro fs n _ e; cases fs with
      | nil => cases e
      | cons _ _ => cases n
    | cons x vs ih =>
      intro fs n r e
      cases fs with
      | nil => cases n
      | cons y fs =>
        obtain ⟨x1, x2⟩ := x
        obtain ⟨y1, y2⟩ := y
        simp only [List.map_cons, List.cons.injEq] at n
        obtain ⟨n1, n2⟩ := n
        subst n1
        rw [List.map_cons, List.map_cons] at r
        cases r with
        | cons r1 rt =>
          rw [List.lookup_cons] at e ⊢
          cases q : (f == x1) with
          | true => rw [q] at e; cases e; exact ⟨x2, rfl, r1⟩
          | false => rw [q] at e; exact ih fs n2 rt e
  obtain ⟨v, h1, h2⟩ := go vs fs n r e
  exact ⟨v, hd, h1, h2⟩
end
theorem DtR.keep {P : Program} {w : World} {K : PySem.W.Frag} {H H' : Hp} {S S' : Addr → Prop} {kvs : List (PyData × PyData)} {es : Array DictEntry} (k : ∀ b o, H b = some o → (S b ∨ ¬ Ow o) → H' b = some o) (m : ∀ b, S b → S' b) (h : DtR P w K H S kvs es) : DtR P w K H' S' kvs es := by
  obtain ⟨l, xs, e, n, r⟩ := h
  refine ⟨l, xs, e, n, L2.Paired.mapP r fun kv x ⟨h1, h2, h3, v, h4, h5⟩ => ⟨h1, h2, h3.keep (fun b o e z => k b o e (z.elim False.elim .inr)) fun _ z => z, v, h4, h5.keep k m⟩⟩
section
variable {K : Kx} {H H' H1 H2 : Hp} {S S' Fz Fz' Bz Bz' : Addr → Prop}
mutual
theorem Rv.keep (k : ∀ b o, H b = some o → (Fz b ∨ Bz b ∨ ¬ Ow o) → H' b = some o) (m : ∀ b, Fz b → Fz' b) : ∀ {v : V} {d : D} {f : Addr → Nat}, Rv K H Fz Bz v d f → d.ntr = true → (∀ b o, H b = some o → 1 ≤ f b → H' b = some o) → Rv K H' Fz' Bz v d f
  | _, _, _, .dat h z, _, _ => .dat (h.keep (fun b o e q => k b o e (q.elim .inl fun n => .inr (.inr n))) m) z
  | _, _, _, .bor h z, _, _ => .bor (h.keep (fun b o e q => k b o e (q.elim (fun q => q.elim .inl fun n => .inr (.inl n)) fun n => .inr (.inr n))) (fun b q => q.elim (fun q => .inl (m b q)) .inr)) z
  | _, _, _, .tr h z, n, _ => by simp [D.ntr] at n
  | _, _, _, .lst h r q, n, kf => .lst (kf _ _ h (by rw [q, if_pos rfl]; omega)) (RvL.keep k m r (by simpa [D.ntr] using n) fun b o e z => kf b o e (by rw [q]; omega)) q
  | _, _, _, .dct h e r q, n, kf => .dct (kf _ _ h (by rw [q, if_pos rfl]; omega)) e (RvL.keep k m r (by rw [← ntrK_map]; simpa [D.ntr] using n) fun b o e z => kf b o e (by rw [q]; omega)) q
  | _, _, _, .dtt h r q, n, kf => .dtt (kf _ _ h (by rw [q, if_pos rfl]; exact Nat.le_refl _)) (r.keep (fun b o e q => k b o e (q.elim .inl fun n => .inr (.inr n))) m) q
  | _, _, _, .ins h c e r q, n, kf => .ins (kf _ _ h (by rw [q, if_pos rfl]; omega)) c e (RvL.keep k m r (by rw [← ntrF_map]; simpa [D.ntr] using n) fun b o e z => kf b o e (by rw [q]; omega)) q
  | _, _, _, .exc x c r z, _, _ => .exc x c (r.keep (fun b o e q => k b o e (q.elim .inl fun n => .inr (.inr n))) m) z
  | _, _, _, .dead z, _, _ => .dead z
theorem RvL.keep (k : ∀ b o, H b = some o → (Fz b ∨ Bz b ∨ ¬ Ow o) → H' b = some o) (m : ∀ b, Fz b → Fz' b) : ∀ {vs : List V} {ds : List D} {f : Addr → Nat}, RvL K H Fz Bz vs ds f → D.ntrL ds = true → (∀ b o, H b = some o → 1 ≤ f b → H' b = some o) → RvL K H' Fz' Bz vs ds f
  | _, _, _, .nil z, _, _ => .nil z
  | _, _, _, .cons r t q, n, kf => by
    rw [D.ntrL, Bool.and_eq_true] at n
    exact .cons (Rv.keep k m r n.1 fun b o e z => kf b o e (by rw [q]; omega)) (RvL.keep k m t n.2 fun b o e z => kf b o e (by rw [q]; omega)) q
end
mutual
/-- where all stays -/
theorem Rv.same (k : ∀ b o, H b = some o → H' b = some o) (m : ∀ b, Fz b → Fz' b) : ∀ {v : V} {d : D} {f : Addr → Nat}, Rv K H Fz Bz v d f → Rv K H' Fz' Bz v d f
  | _, _, _, .dat h z => .dat (h.keep (fun b o e _ => k b o e) m) z
  | _, _, _, .bor h z => .bor (h.keep (fun b o e _ => k b o e) (fun b q => q.elim (fun q => .inl (m b q)) .inr)) z
  | _, _, _, .tr h z => .tr (h.keep (fun b o e _ => k b o e) fun _ q => q) z
  | _, _, _, .lst h r q => .lst (k _ _ h) (RvL.same k m r) q
  | _, _, _, .dct h e r q => .dct (k _ _ h) e (RvL.same k m r) q
  | _, _, _, .dtt h r q => .dtt (k _ _ h) (r.keep (fun b o e _ => k b o e) m) q
  | _, _, _, .ins h c e r q => .ins (k _ _ h) c e (RvL.same k m r) q
  | _, _, _, .exc x c r z => .exc x c (r.keep (fun b o e _ => k b o e) m) z
  | _, _, _, .dead z => .dead z
theorem RvL.same (k : ∀ b o, H b = some o → H' b = some o) (m : ∀ b, Fz b → Fz' b) : ∀ {vs : List V} {ds : List D} {f : Addr → Nat}, RvL K H Fz Bz vs ds f → RvL K H' Fz' Bz vs ds f
  | _, _, _, .nil z => .nil z
  | _, _, _, .cons r t q => .cons (Rv.same k m r) (RvL.same k m t) q
end
mutual
/-- own values don't lean on what is borrowed -/
theorem Rv.unbor : ∀ {v : V} {d : D} {f : Addr → Nat}, Rv K H Fz Bz v d f → d.own = true → Rv K H Fz Bz' v d f
  | _, _, _, .dat h z, _ => .dat h z
  | _, _, _, .bor h z, n => by simp [D.own] at n
  | _, _, _, .tr h z, n => by simp [D.own] at n
  | _, _, _, .lst h r q, n => .lst h (RvL.unbor r (by simpa [D.own] using n)) q
  | _, _, _, .dct h e r q, n => .dct h e (RvL.unbor r (by rw [← ownK_map]; simpa [D.own] using n)) q
  | _, _, _, .dtt h r q, n => .dtt h r q
  | _, _, _, .ins h c e r q, n => .ins h c e (RvL.unbor r (by rw [← ownF_map]; simpa [D.own] using n)) q
  | _, _, _, .exc x c r z, _ => .exc x c r z
  | _, _, _, .dead z, _ => .dead z
theorem RvL.unbor : ∀ {vs : List V} {ds : List D} {f : Addr → Nat}, RvL K H Fz Bz vs ds f → D.ownL ds = true → RvL K H Fz Bz' vs ds f
  | _, _, _, .nil z, _ => .nil z
  | _, _, _, .cons r t q, n => by
    rw [D.ownL, Bool.and_eq_true] at n
    exact .cons (Rv.unbor r n.1) (RvL.unbor t n.2) q
end
mutual
theorem ntr_of_own : ∀ {d : D}, d.own = true → d.ntr = true
  | .dat _, _ => rfl
  | .lst xs, h => by simp only [D.own] at h; simp only [D.ntr]; exact ntrL_of_own h
  | .dct kvs, h => by simp only [D.own] at h; simp only [D.ntr]; exact ntrK_of_own h
  | .dtt kvs, h => rfl
  | .ins _ fs, h => by simp only [D.own] at h; simp only [D.ntr]; exact ntrF_of_own h
  | .bor _, _ => rfl
  | .tr _, h => by simp [D.own] at h
  | .dead, _ => rfl
theorem ntrL_of_own : ∀ {d : List D}, D.ownL d = true → D.ntrL d = true
  | [], _ => rfl
  | x :: r, h => by
    rw [D.ownL, Bool.and_eq_true] at h
    rw [D.ntrL, ntr_of_own h.1, ntrL_of_own h.2]; rfl
theorem ntrK_of_own : ∀ {d : List (L2.Key × D)}, D.ownK d = true → D.ntrK d = true
  | [], _ => rfl
  | (_, x) :: r, h => by
    rw [D.ownK, Bool.and_eq_true] at h
    rw [D.ntrK, ntr_of_own h.1, ntrK_of_own h.2]; rfl
theorem ntrF_of_own : ∀ {d : List (Str × D)}, D.ownF d = true → D.ntrF d = true
  | [], _ => rfl
  | (_, x) :: r, h => by
    rw [D.ownF, Bool.and_eq_true] at h
    rw [D.ntrF, ntr_of_own h.1, ntrF_of_own h.2]; rfl
end

theorem RvL.length : ∀ {vs : List V} {ds : List D} {f : Addr → Nat}, RvL K H Fz Bz vs ds f → vs.length = ds.length
  | _, _, _, .nil _ => rfl
  | _, _, _, .cons _ t _ => by simp [RvL.length t]
theorem RvL.append : ∀ {vs ws : List V} {ds es : List D} {f g h : Addr → Nat}, RvL K H Fz Bz vs ds f → RvL K H Fz Bz ws es g → (∀ b, h b = f b + g b) → RvL K H Fz Bz (vs ++ ws) (ds ++ es) h
  | _, ws, _, es, f, g, h, .nil z, r, q => by
    have e : h = g := funext fun b => by rw [q, z]; omega
    rw [e]; exact r
  | _, _, _, _, f, g, h, .cons r t z, s, q => .cons r (RvL.append t s fun _ => rfl) fun b => by rw [q, z]; omega
/-- items of data -/
theorem RvL.dats : ∀ {vs : List V} {ds : List PyData}, RpL K.K H Fz vs ds → RvL K H Fz Bz vs (ds.map .dat) (fun _ => 0)
  | _, _, .nil => .nil fun _ => rfl
  | _, _, .cons r t => .cons (.dat r fun _ => rfl) (RvL.dats t) fun _ => rfl
theorem ownL_dats : ∀ ds : List PyData, D.ownL (ds.map .dat) = true
  | [] => rfl
  | d :: ds => by rw [List.map_cons, D.ownL, ownL_dats ds]; rfl
/-- an item is taken out of its place -/
theorem RvL.split : ∀ {vs : List V} {ds : List D} {f : Addr → Nat} {i : Nat} {d : D}, RvL K H Fz Bz vs ds f → ds[i]? = some d →
    ∃ v fi g, vs[i]? = some v ∧ Rv K H Fz Bz v d fi ∧ (∀ b, f b = fi b + g b) ∧ RvL K H Fz Bz vs (ds.set i .dead) g ∧ RvL K H Fz Bz (vs.eraseIdx i) (ds.eraseIdx i) g
  | _, _, _, _, _, .nil _, e => by simp at e
  | _, _, _, 0, _, .cons (v := v) (vs := vs) (f := fi) (g := g) r t q, e => by
    simp at e; subst e
    exact ⟨v, fi, g, rfl, r, q, .cons (f := fun _ => 0) (.dead fun _ => rfl) t (fun b => by simp), t⟩
  | _, _, _, i + 1, d, .cons (v := v) (f := f0) (g := g0) r t q, e => by
    obtain ⟨u, fi, g, h1, h2, h3, h4, h5⟩ := RvL.split (i := i) (d := d) t (by simpa using e)
    exact ⟨u, fi, fun b => f0 b + g b, by simpa using h1, h2, fun b => by show _ = fi b + (f0 b + g b); rw [q, h3]; omega, .cons r h4 fun _ => rfl, .cons r h5 fun _ => rfl⟩
/-- .. and put into it -/
theorem RvL.put : ∀ {vs : List V} {ds : List D} {g fi f : Addr → Nat} {i : Nat} {v : V} {d : D}, RvL K H Fz Bz vs (ds.set i .dead) g → i < ds.length → Rv K H Fz Bz v d fi → (∀ b, f b = fi b + g b) → RvL K H Fz Bz (vs.set i v) (ds.set i d) f
  | vs, [], _, _, _, _, _, _, _, h, _, _ => by simp at h
  | _, x :: xs, _, _, _, 0, _, _, .cons r t q, _, h, z => by
    simp only [List.set_cons_zero] at *
    cases r with
    | dead z0 => exact .cons h t fun b => by rw [z, q, z0]; omega
  | _, x :: xs, _, _, _, i + 1, _, _, .cons r t q, l, h, z => by
    simp only [List.set_cons_succ]
    exact .cons r (RvL.put t (by simpa using l) h fun _ => rfl) fun b => by rw [z, q]; omega
theorem RvL.set_same : ∀ {vs : List V} {i : Nat} {v : V}, vs[i]? = some v → vs.set i v = vs
  | [], _, _, h => by simp at h
  | x :: xs, 0, v, h => by simp at h; subst h; rfl
  | x :: xs, i + 1, v, h => by
    rw [List.set_cons_succ, RvL.set_same (by simpa using h)]
mutual
theorem Rv.ows : ∀ {v : V} {d : D} {f : Addr → Nat}, Rv K H Fz Bz v d f → ∀ b, 1 ≤ f b → ∃ o, H b = some o ∧ Ow o
  | _, _, _, .dat _ z, b, h => by rw [z] at h; omega
  | _, _, _, .bor _ z, b, h => by rw [z] at h; omega
  | _, _, _, .tr _ z, b, h => by rw [z] at h; omega
  | _, _, _, .lst (a := a) e r q, b, h => by
    by_cases hb : b = a
    · subst hb; exact ⟨_, e, trivial⟩
    · rw [q, if_neg hb] at h
      exact RvL.ows r b (by omega)
  | _, _, _, .dct (a := a) e _ r q, b, h => by
    by_cases hb : b = a
    · subst hb; exact ⟨_, e, trivial⟩
    · rw [q, if_neg hb] at h
      exact RvL.ows r b (by omega)
  | _, _, _, .dtt (a := a) e _ q, b, h => by
    by_cases hb : b = a
    · subst hb; exact ⟨_, e, trivial⟩
    · rw [q, if_neg hb] at h; omega
  | _, _, _, .ins (a := a) e _ _ r q, b, h => by
    by_cases hb : b = a
    · subst hb; exact ⟨_, e, trivial⟩
    · rw [q, if_neg hb] at h
      exact RvL.ows r b (by omega)
  | _, _, _, .exc _ _ _ z, b, h => by rw [z] at h; omega
  | _, _, _, .dead z, b, h => by rw [z] at h; omega
theorem RvL.ows : ∀ {vs : List V} {ds : List D} {f : Addr → Nat}, RvL K H Fz Bz vs ds f → ∀ b, 1 ≤ f b → ∃ o, H b = some o ∧ Ow o
  | _, _, _, .nil z, b, h => by rw [z] at h; omega
  | _, _, _, .cons (f := f) r t q, b, h => by
    rw [q] at h
    by_cases h1 : 1 ≤ f b
    · exact Rv.ows r b h1
    · exact RvL.ows t b (by omega)
end
mutual
/-- a look at what is owned -/
theorem Rv.look : ∀ {v : V} {d : D} {f : Addr → Nat} {p : PyData}, Rv K H Fz Bz v d f → d.view = some p → Rp K.K H (fun _ => True) v p
  | _, _, _, _, .dat h _, e => by simp only [D.view, Option.some.injEq] at e; subst e; exact h.mono fun _ _ => trivial
  | _, _, _, _, .bor h _, e => by simp only [D.view, Option.some.injEq] at e; subst e; exact h.mono fun _ _ => trivial
  | _, _, _, _, .tr h _, e => by simp only [D.view, Option.some.injEq] at e; subst e; exact h
  | _, _, _, _, .lst h r q, e => by
    simp only [D.view] at e
    obtain ⟨ps, e1, e2⟩ := Option.map_eq_some_iff.mp e
    subst e2
    exact .lst (.inl ⟨h, trivial⟩) (RvL.look r e1)
  | _, _, _, _, .dct _ _ _ _, e => by simp [D.view] at e
  | _, _, _, _, .dtt _ _ _, e => by simp [D.view] at e
  | _, _, _, _, .ins _ _ _ _ _, e => by simp [D.view] at e
  | _, _, _, _, .exc _ _ _ _, e => by simp [D.view] at e
  | _, _, _, _, .dead _, e => by simp [D.view] at e
theorem RvL.look : ∀ {vs : List V} {ds : List D} {f : Addr → Nat} {ps : List PyData}, RvL K H Fz Bz vs ds f → D.viewL ds = some ps → RpL K.K H (fun _ => True) vs ps
  | _, _, _, _, .nil _, e => by simp only [D.viewL, Option.some.injEq] at e; subst e; exact .nil
  | _, _, _, _, .cons (d := d) (ds := ds) r t q, e => by
    rw [D.viewL] at e
    cases h1 : d.view with
    | none => rw [h1] at e; simp at e
    | some a =>
      cases h2 : D.viewL ds with
      | none => rw [h1, h2] at e; simp at e
      | some b =>
        rw [h1, h2] at e
        simp only [Option.some.injEq] at e
        subst e
        exact .cons (Rv.look r h1) (RvL.look t h2)
end
mutual
/-- what is owned is kept for ever from now on -/
theorem Rv.freeze : ∀ {v : V} {d : D} {f : Addr → Nat} {p : PyData}, Rv K H Fz Bz v d f → d.fz = some p → Rp K.K H (fun b => Fz b ∨ 1 ≤ f b) v p
  | _, _, _, _, .dat h _, e => by simp only [D.fz, Option.some.injEq] at e; subst e; exact h.mono fun _ q => .inl q
  | _, _, _, _, .bor h _, e => by simp [D.fz] at e
  | _, _, _, _, .tr h _, e => by simp [D.fz] at e
  | _, _, _, _, .lst h r q, e => by
    simp only [D.fz] at e
    obtain ⟨ps, e1, e2⟩ := Option.map_eq_some_iff.mp e
    subst e2
    exact .lst (.inl ⟨h, .inr (by rw [q, if_pos rfl]; omega)⟩) ((RvL.freeze r e1).mono fun b z => z.elim .inl fun z => .inr (by rw [q]; omega))
  | _, _, _, _, .dct _ _ _ _, e => by simp [D.fz] at e
  | _, _, _, _, .dtt _ _ _, e => by simp [D.fz] at e
  | _, _, _, _, .ins _ _ _ _ _, e => by simp [D.fz] at e
  | _, _, _, _, .exc _ _ _ _, e => by simp [D.fz] at e
  | _, _, _, _, .dead _, e => by simp [D.fz] at e
theorem RvL.freeze : ∀ {vs : List V} {ds : List D} {f : Addr → Nat} {ps : List PyData}, RvL K H Fz Bz vs ds f → D.fzL ds = some ps → RpL K.K H (fun b => Fz b ∨ 1 ≤ f b) vs ps
  | _, _, _, _, .nil _, e => by simp only [D.fzL, Option.some.injEq] at e; subst e; exact .nil
  | _, _, _, _, .cons (d := d) (ds := ds) r t q, e => by
    rw [D.fzL] at e
    cases h1 : d.fz with
    | none => rw [h1] at e; simp at e
    | some a =>
      cases h2 : D.fzL ds with
      | none => rw [h1, h2] at e; simp at e
      | some b =>
        rw [h1, h2] at e
        simp only [Option.some.injEq] at e
        subst e
        exact .cons ((Rv.freeze r h1).mono fun b z => z.elim .inl fun z => .inr (by rw [q]; omega)) ((RvL.freeze t h2).mono fun b z => z.elim .inl fun z => .inr (by rw [q]; omega))
end
end
end DE
end

section
set_option Elab.async false
set_option linter.all false
/-! DE3: slots, places, steps. -/
namespace DE
open PySem L2
section
variable {K : Kx} {H H' H1 H2 : Hp} {S S' Fz Fz' Fz1 Fz2 Bz Bz' : Addr → Prop}

theorem Re.length : ∀ {s : St} {r : Env} {f : Addr → Nat}, Re K H Fz Bz s r f → s.length = r.length
  | _, _, _, .nil _ => rfl
  | _, _, _, .cons _ t _ => by simp [Re.length t]
theorem Rs.keep {o : Option V} {d : D} {f : Addr → Nat} (k : ∀ b o, H b = some o → (Fz b ∨ Bz b ∨ ¬ Ow o) → H' b = some o) (m : ∀ b, Fz b → Fz' b) (h : Rs K H Fz Bz o d f) (kf : ∀ b o, H b = some o → 1 ≤ f b → H' b = some o) : Rs K H' Fz' Bz o d f := by
  rcases h with h | ⟨v, e, n, r⟩
  · exact .inl h
  · exact .inr ⟨v, e, n, r.keep k m n kf⟩
theorem Re.keep (k : ∀ b o, H b = some o → (Fz b ∨ Bz b ∨ ¬ Ow o) → H' b = some o) (m : ∀ b, Fz b → Fz' b) : ∀ {s : St} {r : Env} {f : Addr → Nat}, Re K H Fz Bz s r f → (∀ b o, H b = some o → 1 ≤ f b → H' b = some o) → Re K H' Fz' Bz s r f
  | _, _, _, .nil z, _ => .nil z
  | _, _, _, .cons r t q, kf => .cons (Rs.keep k m r fun b o e z => kf b o e (by rw [q]; omega)) (Re.keep k m t fun b o e z => kf b o e (by rw [q]; omega)) q
theorem Re.ows : ∀ {s : St} {r : Env} {f : Addr → Nat}, Re K H Fz Bz s r f → ∀ b, 1 ≤ f b → ∃ o, H b = some o ∧ Ow o
  | _, _, _, .nil z, b, h => by rw [z] at h; omega
  | _, _, _, .cons (f := f) r t q, b, h => by
    rw [q] at h
    by_cases h1 : 1 ≤ f b
    · rcases r with ⟨_, z⟩ | ⟨v, e, n, r⟩
      · rw [z] at h1; omega
      · exact r.ows b h1
    · exact Re.ows t b (by omega)
theorem Rs.dead {o : Option V} : Rs K H Fz Bz o .dead (fun _ => 0) := .inl ⟨rfl, fun _ => rfl⟩
theorem slot_cons_succ (d : D) (r : Env) (i : Nat) : slot (d :: r) (i + 1) = slot r i := by simp [slot]
theorem slot_cons_zero (d : D) (r : Env) : slot (d :: r) 0 = d := by simp [slot]
/-- a slot's value is taken out -/
theorem Re.split : ∀ {s : St} {r : Env} {f : Addr → Nat} {i : Nat}, Re K H Fz Bz s r f → i < r.length →
    ∃ o fi g, s[i]? = some o ∧ Rs K H Fz Bz o (slot r i) fi ∧ (∀ b, f b = fi b + g b) ∧ Re K H Fz Bz s (r.set i .dead) g
  | _, _, _, _, .nil _, l => by simp at l
  | _, _, _, 0, .cons (o := o) (s := s) (d := d) (r := r) (f := fi) (g := g) h t q, _ =>
    ⟨o, fi, g, rfl, by rw [slot_cons_zero]; exact h, q, .cons (f := fun _ => 0) Rs.dead t (fun b => by simp)⟩
  | _, _, _, i + 1, .cons (o := o0) (d := d) (r := r) (f := f0) (g := g0) h t q, l => by
    obtain ⟨o, fi, g, h1, h2, h3, h4⟩ := Re.split (i := i) t (by simpa using l)
    exact ⟨o, fi, fun b => f0 b + g b, by simpa using h1, by rw [slot_cons_succ]; exact h2, fun b => by show _ = fi b + (f0 b + g b); rw [q, h3]; omega, .cons h h4 fun _ => rfl⟩
/-- .. and put in -/
theorem Re.put : ∀ {s : St} {r : Env} {g fi f : Addr → Nat} {i : Nat} {o : Option V} {d : D}, Re K H Fz Bz s (r.set i .dead) g → i < r.length → Rs K H Fz Bz o d fi → (∀ b, f b = fi b + g b) → Re K H Fz Bz (s.set i o) (r.set i d) f
  | _, [], _, _, _, _, _, _, _, l, _, _ => by simp at l
  | _, x :: xs, _, _, _, 0, o, d, .cons r t q, _, h, z => by
    simp only [List.set_cons_zero] at *
    rcases r with ⟨_, z0⟩ | ⟨v, _, _, r⟩
    · exact .cons h t fun b => by rw [z, q, z0]; omega
    · cases r with
      | dead z0 => exact .cons h t fun b => by rw [z, q, z0]; omega
  | _, x :: xs, _, _, _, i + 1, o, d, .cons r t q, l, h, z => by
    simp only [List.set_cons_succ]
    exact .cons r (Re.put t (by simpa using l) h fun _ => rfl) fun b => by rw [z, q]; omega
theorem set_get {α : Type} {l : List α} {i : Nat} {o : α} (h : l[i]? = some o) : l.set i o = l := by
  apply List.ext_getElem?
  intro j
  by_cases e : i = j
  · subst e
    have hl : i < l.length := (List.getElem?_eq_some_iff.mp h).1
    rw [List.getElem?_set_self hl, h]
  · rw [List.getElem?_set_ne e]
/-- .. where the variable still stands for the same object -/
theorem Re.put' {s : St} {r : Env} {g fi f : Addr → Nat} {i : Nat} {o : Option V} {d : D} (h : Re K H Fz Bz s (r.set i .dead) g) (l : i < r.length) (e : s[i]? = some o) (x : Rs K H Fz Bz o d fi) (z : ∀ b, f b = fi b + g b) : Re K H Fz Bz s (r.set i d) f := by
  have q := h.put l x z
  rw [set_get e] at q
  exact q

/-! ### places -/
section
variable {κ α β : Type} [DecidableEq κ]
theorem aGet_ix : ∀ {ps : List (κ × α)} {kvs : List (κ × β)} {k : κ} {x : β}, ps.map (·.1) = kvs.map (·.1) → aGet kvs k = some x →
    ∃ j, (kvs.map (·.2))[j]? = some x ∧ (∀ w, (ps.map (·.2))[j]? = some w → aGet ps k = some w) ∧ (∀ z, (aPut kvs k z).map (·.2) = (kvs.map (·.2)).set j z ∧ (aPut kvs k z).map (·.1) = kvs.map (·.1)) ∧ ∀ w, (aPut ps k w).map (·.2) = (ps.map (·.2)).set j w ∧ (aPut ps k w).map (·.1) = ps.map (·.1)
  | [], [], _, _, _, h => by simp [aGet] at h
  | [], _ :: _, _, _, e, _ => by simp at e
  | _ :: _, [], _, _, e, _ => by simp at e
  | (k1, a) :: ps, (k2, b) :: kvs, k, x, e, h => by
    simp only [List.map_cons, List.cons.injEq] at e
    obtain ⟨e1, e2⟩ := e
    have e1 : k1 = k2 := e1
    subst e1
    simp only [aGet] at h
    by_cases hk : k1 = k
    · rw [if_pos hk] at h
      cases h
      refine ⟨0, rfl, fun w hw => ?_, fun z => ?_, fun w => ?_⟩
      · simp only [List.map_cons, List.getElem?_cons_zero] at hw
        simp only [aGet, if_pos hk]; exact hw
      · simp [aPut, hk]
      · simp [aPut, hk]
    · rw [if_neg hk] at h
      obtain ⟨j, h1, h2, h3, h4⟩ := aGet_ix e2 h
      refine ⟨j + 1, by simpa using h1, fun w hw => ?_, fun z => ?_, fun w => ?_⟩
      · simp only [aGet, if_neg hk]
        exact h2 w (by simpa using hw)
      · have := h3 z
        simp only [aPut, if_neg hk, List.map_cons, List.set_cons_succ]
        exact ⟨congrArg _ this.1, congrArg _ this.2⟩
      · have := h4 w
        simp only [aPut, if_neg hk, List.map_cons, List.set_cons_succ]
        exact ⟨congrArg _ this.1, congrArg _ this.2⟩
theorem aGet_no : ∀ {ps : List (κ × α)} {kvs : List (κ × β)} {k : κ}, ps.map (·.1) = kvs.map (·.1) → aGet kvs k = none → aGet ps k = none ∧ (∀ z, aPut kvs k z = kvs ++ [(k, z)]) ∧ (∀ z, aPut ps k z = ps ++ [(k, z)]) ∧ k ∉ kvs.map (·.1)
  | [], [], _, _, h => by simp [aGet, aPut]
  | [], _ :: _, _, e, _ => by simp at e
  | _ :: _, [], _, e, _ => by simp at e
  | (k1, a) :: ps, (k2, b) :: kvs, k, e, h => by
    simp only [List.map_cons, List.cons.injEq] at e
    obtain ⟨e1, e2⟩ := e
    have e1 : k1 = k2 := e1
    subst e1
    simp only [aGet] at h
    by_cases hk : k1 = k
    · rw [if_pos hk] at h; cases h
    · rw [if_neg hk] at h
      obtain ⟨h1, h2, h3, h4⟩ := aGet_no e2 h
      refine ⟨by simp only [aGet, if_neg hk]; exact h1, fun z => by simp only [aPut, if_neg hk, h2, List.cons_append], fun z => by simp only [aPut, if_neg hk, h3, List.cons_append], ?_⟩
      rw [List.map_cons, List.mem_cons, not_or]
      exact ⟨fun e => hk e.symm, h4⟩
theorem aPut_len (kvs : List (κ × α)) (k : κ) (v : α) : (aPut kvs k v).length ≤ kvs.length + 1 := by
  induction kvs with
  | nil => simp [aPut]
  | cons p r ih =>
    obtain ⟨k', v'⟩ := p
    simp only [aPut]
    split <;> simp <;> omega
end
theorem valV_aGet {κ : Type} [DecidableEq κ] (k : κ) : ∀ kvs : List (κ × V), valV kvs k = aGet kvs k
  | [] => rfl
  | (k', v) :: r => by
    by_cases h : k' = k
    · rw [valV_pos (p := (k', v)) h]; simp [aGet, h]
    · rw [valV_neg (p := (k', v)) h, valV_aGet k r]; simp [aGet, h]
theorem putK_aPut {κ : Type} [DecidableEq κ] (k : κ) (v : V) : ∀ kvs : List (κ × V), (kvs.map (·.1)).Nodup → putK kvs k v = aPut kvs k v
  | [], _ => rfl
  | (k', v') :: r, n => by
    rw [List.map_cons, List.nodup_cons] at n
    have ih := putK_aPut k v r n.2
    simp only [aPut]
    by_cases h : k' = k
    · rw [if_pos h]
      unfold putK
      rw [if_pos (by simp [h]), List.map_cons, if_pos h]
      congr 1
      refine (List.map_congr_left fun x hx => ?_).trans (List.map_id r)
      rw [if_neg fun e => n.1 (List.mem_map.mpr ⟨x, hx, e.trans h.symm⟩)]; rfl
    · rw [if_neg h, ← ih]
      unfold putK
      by_cases a : (r.any fun kv => decide (kv.1 = k)) = true
      · rw [if_pos a, if_pos (by simp [h]; simpa using a), List.map_cons, if_neg h]
      · rw [if_neg a, if_neg (by simp [h]; simpa using a), List.cons_append]
theorem putF_aPut (f : Str) (v : V) : ∀ fs : List (Str × V), putF f v fs = aPut fs f v
  | [] => rfl
  | (k, x) :: r => by
    rw [show putF f v ((k, x) :: r) = (if k = f then (k, v) :: r else (k, x) :: putF f v r) from rfl, putF_aPut f v r]; rfl
theorem lookup_aGet {α : Type} (f : Str) : ∀ fs : List (Str × α), fs.lookup f = aGet fs f
  | [] => rfl
  | (k, x) :: r => by
    rw [List.lookup_cons]
    simp only [aGet]
    by_cases h : k = f
    · subst h; simp
    · have : (f == k) = false := beq_eq_false_iff_ne.mpr fun e => h e.symm
      rw [this, if_neg h, lookup_aGet f r]
/-- one step: an item of a list, of a dict, a field -/
inductive StepV (H : Hp) : V → Sel → V → Prop
  | ix {a : Addr} {vs : List V} {i : Int} {w : V} : H a = some (.lst vs) → L2.atI vs i = some w → StepV H (.ref a) (.ix i) w
  | key {a : Addr} {ps : List (L2.Key × V)} {k : L2.Key} {w : V} : H a = some (.dK ps) → aGet ps k = some w → StepV H (.ref a) (.key k) w
  | fld {a c dx : Addr} {fs : List (Str × V)} {f : Str} {w : V} : H a = some (.ins c dx fs) → aGet fs f = some w → StepV H (.ref a) (.fld f) w
theorem StepV.fun {v u w : V} {s : Sel} (h : StepV H v s u) (h' : StepV H v s w) : u = w := by
  cases h with
  | ix h1 h2 => cases h' with | ix k1 k2 =>
    rw [h1] at k1; cases k1
    rw [h2] at k2; exact Option.some.inj k2
  | key h1 h2 => cases h' with | key k1 k2 =>
    rw [h1] at k1; cases k1
    rw [h2] at k2; exact Option.some.inj k2
  | fld h1 h2 => cases h' with | fld k1 k2 =>
    rw [h1] at k1; cases k1
    rw [h2] at k2; exact Option.some.inj k2
theorem StepV.same (k : ∀ b o, H b = some o → H' b = some o) {v u : V} {s : Sel} (h : StepV H v s u) : StepV H' v s u := by
  cases h with
  | ix h1 h2 => exact .ix (k _ _ h1) h2
  | key h1 h2 => exact .key (k _ _ h1) h2
  | fld h1 h2 => exact .fld (k _ _ h1) h2
/-- from a value by steps to another -/
inductive PathV (H : Hp) : V → List Sel → V → Prop
  | nil {v : V} : PathV H v [] v
  | cons {v w u : V} {s : Sel} {sel : List Sel} : StepV H v s w → PathV H w sel u → PathV H v (s :: sel) u
theorem PathV.fun : ∀ {v u w : V} {sel : List Sel}, PathV H v sel u → PathV H v sel w → u = w
  | _, _, _, _, .nil, .nil => rfl
  | _, _, _, _, .cons h1 h3, .cons k1 k3 => by
    have e := h1.fun k1
    subst e
    exact PathV.fun h3 k3
theorem PathV.same (k : ∀ b o, H b = some o → H' b = some o) : ∀ {v u : V} {sel : List Sel}, PathV H v sel u → PathV H' v sel u
  | _, _, _, .nil => .nil
  | _, _, _, .cons h1 h3 => .cons (h1.same k) (PathV.same k h3)
theorem PathV.snoc : ∀ {v u w : V} {sel : List Sel} {s : Sel}, PathV H v sel u → StepV H u s w → PathV H v (sel ++ [s]) w
  | _, _, _, _, _, .nil, h => .cons h .nil
  | _, _, _, _, _, .cons k1 k3, h => .cons k1 (PathV.snoc k3 h)
theorem atI_ix {α : Type} {xs : List α} {i : Int} {v : α} (h : L2.atI xs i = some v) : ∃ j, ixN xs.length i = some j ∧ xs[j]? = some v := by
  unfold L2.atI at h
  cases e : ixN xs.length i with
  | none => rw [e] at h; cases h
  | some j => rw [e] at h; exact ⟨j, rfl, h⟩
theorem ntrL_get : ∀ {ds : List D} {i : Nat} {d : D}, D.ntrL ds = true → ds[i]? = some d → d.ntr = true
  | [], _, _, _, h => by simp at h
  | x :: r, 0, d, n, h => by
    rw [D.ntrL, Bool.and_eq_true] at n
    simp at h; subst h; exact n.1
  | x :: r, i + 1, d, n, h => by
    rw [D.ntrL, Bool.and_eq_true] at n
    exact ntrL_get (i := i) n.2 (by simpa using h)
theorem ntrL_set : ∀ {ds : List D} {i : Nat} {d : D}, D.ntrL ds = true → d.ntr = true → D.ntrL (ds.set i d) = true
  | [], _, _, n, _ => by simpa using n
  | x :: r, 0, d, n, h => by
    rw [D.ntrL, Bool.and_eq_true] at n
    rw [List.set_cons_zero, D.ntrL, h, n.2]; rfl
  | x :: r, i + 1, d, n, h => by
    rw [D.ntrL, Bool.and_eq_true] at n
    rw [List.set_cons_succ, D.ntrL, n.1, ntrL_set n.2 h]; rfl
theorem ownL_get : ∀ {ds : List D} {i : Nat} {d : D}, D.ownL ds = true → ds[i]? = some d → d.own = true
  | [], _, _, _, h => by simp at h
  | x :: r, 0, d, n, h => by
    rw [D.ownL, Bool.and_eq_true] at n
    simp at h; subst h; exact n.1
  | x :: r, i + 1, d, n, h => by
    rw [D.ownL, Bool.and_eq_true] at n
    exact ownL_get (i := i) n.2 (by simpa using h)
/-- what stands at a place, and all that is beside it -/
theorem Rv.path : ∀ (sel : List Sel) {v : V} {d x : D} {f : Addr → Nat}, Rv K H Fz Bz v d f → getS d sel = some x → d.ntr = true →
    ∃ (u : V) (fx g : Addr → Nat), PathV H v sel u ∧ Rv K H Fz Bz u x fx ∧ x.ntr = true ∧ (∀ b, f b = fx b + g b) ∧
      ∀ (H' : Hp) (Fz' : Addr → Prop), (∀ b o, H b = some o → (Fz b ∨ Bz b ∨ ¬ Ow o) → H' b = some o) → (∀ b, Fz b → Fz' b) → (∀ b o, H b = some o → 1 ≤ g b → H' b = some o) →
        ∀ (x' : D) (fx' : Addr → Nat), Rv K H' Fz' Bz u x' fx' → x'.ntr = true → ∃ d', putS d sel x' = some d' ∧ d'.ntr = true ∧ Rv K H' Fz' Bz v d' (fun b => fx' b + g b)
  | [], v, d, x, f, h, e, n => by
    have e' : d = x := by cases d <;> simpa [getS] using e
    subst e'
    refine ⟨v, f, fun _ => 0, .nil, h, n, fun b => by simp, fun H' Fz' k m kg x' fx' r n' => ⟨x', ?_, n', ?_⟩⟩
    · cases d <;> rfl
    · have z : (fun b => fx' b + 0) = fx' := funext fun b => by omega
      rw [z]; exact r
  | .ix i :: sel, v, d, x, f, h, e, n => by
    cases d with
    | lst xs =>
      cases h with
      | lst ha hr hq =>
        rename_i a vs g0
        simp only [getS] at e
        cases ex : L2.atI xs i with
        | none => rw [ex] at e; cases e
        | some x1 =>
          rw [ex] at e
          simp only at e
          obtain ⟨j, ej, gj⟩ := atI_ix ex
          simp only [D.ntr] at n
          obtain ⟨w, f1, g1, hw, r1, q1, dead, _⟩ := hr.split gj
          obtain ⟨u, fx, g, hp, ru, nx, qf, ctx⟩ := Rv.path sel r1 e (ntrL_get n gj)
          have ewv : L2.atI vs i = some w := by
            unfold L2.atI
            rw [hr.length, ej]
            exact hw
          refine ⟨u, fx, fun b => g b + g1 b + if b = a then 1 else 0, .cons (.ix ha ewv) hp, ru, nx, fun b => by show _ = fx b + (g b + g1 b + _); rw [hq, q1, qf]; omega, fun H' Fz' k m kg x' fx' r' n' => ?_⟩
          obtain ⟨z, ez, nz, rz⟩ := ctx H' Fz' k m (fun b o e h => kg b o e (by show 1 ≤ g b + g1 b + _; omega)) x' fx' r' n'
          have dead' : RvL K H' Fz' Bz vs (xs.set j .dead) g1 := dead.keep k m (ntrL_set n rfl) fun b o e h => kg b o e (by show 1 ≤ g b + g1 b + _; omega)
          have lj : j < xs.length := (List.getElem?_eq_some_iff.mp gj).1
          have full := RvL.put dead' lj rz (f := fun b => (fx' b + g b) + g1 b) fun b => rfl
          rw [RvL.set_same hw] at full
          refine ⟨.lst (xs.set j z), ?_, ?_, ?_⟩
          · simp only [putS, ej, ex, ez, Option.map_some]
          · simp only [D.ntr]; exact ntrL_set n nz
          · refine .lst (kg _ _ ha (by show 1 ≤ g a + g1 a + (if a = a then 1 else 0); rw [if_pos rfl]; omega)) full fun b => ?_
            show fx' b + (g b + g1 b + _) = fx' b + g b + g1 b + _
            omega
    | _ => simp [getS] at e
  | .key kk :: sel, v, d, x, f, h, e, n => by
    cases d with
    | dct xs =>
      cases h with
      | dct ha hk hr hq =>
        rename_i a vs g0
        simp only [getS] at e
        cases ex : aGet xs kk with
        | none => rw [ex] at e; cases e
        | some x1 =>
          rw [ex] at e
          simp only at e
          obtain ⟨j, gj, gv, gp, _⟩ := aGet_ix hk.1 ex
          simp only [D.ntr] at n
          rw [ntrK_map] at n
          obtain ⟨w, f1, g1, hw, r1, q1, dead, _⟩ := hr.split gj
          obtain ⟨u, fx, g, hp, ru, nx, qf, ctx⟩ := Rv.path sel r1 e (ntrL_get n gj)
          refine ⟨u, fx, fun b => g b + g1 b + if b = a then 1 else 0, .cons (.key ha (gv w hw)) hp, ru, nx, fun b => by show _ = fx b + (g b + g1 b + _); rw [hq, q1, qf]; omega, fun H' Fz' k m kg x' fx' r' n' => ?_⟩
          obtain ⟨z, ez, nz, rz⟩ := ctx H' Fz' k m (fun b o e h => kg b o e (by show 1 ≤ g b + g1 b + _; omega)) x' fx' r' n'
          have dead' : RvL K H' Fz' Bz (vs.map (·.2)) ((xs.map (·.2)).set j .dead) g1 := dead.keep k m (ntrL_set n rfl) fun b o e h => kg b o e (by show 1 ≤ g b + g1 b + _; omega)
          have lj : j < (xs.map (·.2)).length := (List.getElem?_eq_some_iff.mp gj).1
          have full := RvL.put dead' lj rz (f := fun b => (fx' b + g b) + g1 b) fun b => rfl
          rw [RvL.set_same hw] at full
          refine ⟨.dct (aPut xs kk z), ?_, ?_, ?_⟩
          · simp only [putS, ex, ez, Option.map_some]
          · simp only [D.ntr]; rw [ntrK_map, (gp z).1]; exact ntrL_set n nz
          · refine .dct (kg _ _ ha (by show 1 ≤ g a + g1 a + (if a = a then 1 else 0); rw [if_pos rfl]; omega)) (by rw [(gp z).2]; exact hk) (by rw [(gp z).1]; exact full) fun b => ?_
            show fx' b + (g b + g1 b + _) = fx' b + g b + g1 b + _
            omega
    | _ => simp [getS] at e
  | .fld kk :: sel, v, d, x, f, h, e, n => by
    cases d with
    | ins C xs =>
      cases h with
      | ins ha hm hk hr hq =>
        rename_i a c dx vs g0
        simp only [getS] at e
        cases ex : aGet xs kk with
        | none => rw [ex] at e; cases e
        | some x1 =>
          rw [ex] at e
          simp only at e
          obtain ⟨j, gj, gv, gp, _⟩ := aGet_ix hk ex
          simp only [D.ntr] at n
          rw [ntrF_map] at n
          obtain ⟨w, f1, g1, hw, r1, q1, dead, _⟩ := hr.split gj
          obtain ⟨u, fx, g, hp, ru, nx, qf, ctx⟩ := Rv.path sel r1 e (ntrL_get n gj)
          refine ⟨u, fx, fun b => g b + g1 b + if b = a then 1 else 0, .cons (.fld ha (gv w hw)) hp, ru, nx, fun b => by show _ = fx b + (g b + g1 b + _); rw [hq, q1, qf]; omega, fun H' Fz' k m kg x' fx' r' n' => ?_⟩
          obtain ⟨z, ez, nz, rz⟩ := ctx H' Fz' k m (fun b o e h => kg b o e (by show 1 ≤ g b + g1 b + _; omega)) x' fx' r' n'
          have dead' : RvL K H' Fz' Bz (vs.map (·.2)) ((xs.map (·.2)).set j .dead) g1 := dead.keep k m (ntrL_set n rfl) fun b o e h => kg b o e (by show 1 ≤ g b + g1 b + _; omega)
          have lj : j < (xs.map (·.2)).length := (List.getElem?_eq_some_iff.mp gj).1
          have full := RvL.put dead' lj rz (f := fun b => (fx' b + g b) + g1 b) fun b => rfl
          rw [RvL.set_same hw] at full
          refine ⟨.ins C (aPut xs kk z), ?_, ?_, ?_⟩
          · simp only [putS, ex, ez, Option.map_some]
          · simp only [D.ntr]; rw [ntrF_map, (gp z).1]; exact ntrL_set n nz
          · refine .ins (kg _ _ ha (by show 1 ≤ g a + g1 a + (if a = a then 1 else 0); rw [if_pos rfl]; omega)) hm (by rw [(gp z).2]; exact hk) (by rw [(gp z).1]; exact full) fun b => ?_
            show fx' b + (g b + g1 b + _) = fx' b + g b + g1 b + _
            omega
    | _ => simp [getS] at e

/-! ### steps -/
theorem Wf.cong {f g : Addr → Nat} (h : Wf H Fz Bz f) (e : ∀ b, g b = f b) : Wf H Fz Bz g := by
  have z : g = f := funext e
  rw [z]; exact h
theorem Wf.le {f g : Addr → Nat} (h : Wf H Fz Bz f) (e : ∀ b, g b ≤ f b) : Wf H Fz Bz g :=
  ⟨fun b => Nat.le_trans (e b) (h.lin b), fun b z => h.own b (Nat.le_trans z (e b)), fun b z => ⟨by have := e b; have := (h.fz b z).1; omega, (h.fz b z).2⟩, fun b z => ⟨by have := e b; have := (h.bz b z).1; omega, (h.bz b z).2⟩⟩
theorem Stp.refl {pu : Bool} {f : Addr → Nat} : Stp pu H Fz f H Fz f := ⟨fun _ _ e _ => e, fun _ o e => ⟨o, e⟩, fun _ h => .inl h, fun _ h => .inl h, fun _ h => h⟩
theorem Stp.trans {p q : Bool} {f f1 f2 : Addr → Nat} (a : Stp p H Fz f H1 Fz1 f1) (b : Stp q H1 Fz1 f1 H2 Fz2 f2) : Stp (p && q) H Fz f H2 Fz2 f2 where
  keep := fun c o e h => by
    refine b.keep c o (a.keep c o e ?_) ?_
    · exact h.imp id fun h => ((Bool.and_eq_true _ _).mp h).1
    · rcases h with h | h
      · refine .inl ?_
        by_cases z : 1 ≤ f1 c
        · rcases a.own c z with y | y
          · omega
          · rw [e] at y; cases y
        · omega
      · exact .inr ((Bool.and_eq_true _ _).mp h).2
  there := fun c o e => let ⟨o', e'⟩ := a.there c o e; b.there c o' e'
  own := fun c h => by
    rcases b.own c h with h | h
    · exact a.own c h
    · refine .inr ?_
      cases e : H c with
      | none => rfl
      | some o => obtain ⟨o', e'⟩ := a.there c o e; rw [h] at e'; cases e'
  fz := fun c h => by
    rcases b.fz c h with h | h | h
    · exact a.fz c h
    · exact .inr (a.own c h)
    · refine .inr (.inr ?_)
      cases e : H c with
      | none => rfl
      | some o => obtain ⟨o', e'⟩ := a.there c o e; rw [h] at e'; cases e'
  mono := fun c h => b.mono c (a.mono c h)
theorem Stp.weak {p q : Bool} {f f' : Addr → Nat} (a : Stp p H Fz f H' Fz' f') (h : q = true → p = true) : Stp q H Fz f H' Fz' f' :=
  ⟨fun b o e z => a.keep b o e (z.imp id h), a.there, a.own, a.fz, a.mono⟩
theorem Stp.cong {p : Bool} {f f' g g' : Addr → Nat} (a : Stp p H Fz f H' Fz' f') (h : ∀ b, g b = f b) (h' : ∀ b, g' b = f' b) : Stp p H Fz g H' Fz' g' := by
  have e : g = f := funext h
  have e' : g' = f' := funext h'
  rw [e, e']; exact a
/-- fewer are owned behind it -/
theorem Stp.less {p : Bool} {f f' g' : Addr → Nat} (a : Stp p H Fz f H' Fz' f') (h : ∀ b, g' b ≤ f' b) : Stp p H Fz f H' Fz' g' :=
  ⟨a.keep, a.there, fun b z => a.own b (Nat.le_trans z (h b)), a.fz, a.mono⟩
/-- beside what is owned by others -/
theorem Stp.frame {p : Bool} {f f' r : Addr → Nat} (a : Stp p H Fz f H' Fz' f') : Stp p H Fz (fun b => f b + r b) H' Fz' (fun b => f' b + r b) where
  keep := fun b o e h => a.keep b o e (h.imp (fun h => by omega) id)
  there := a.there
  own := fun b h => by
    by_cases z : 1 ≤ f' b
    · rcases a.own b z with y | y
      · exact .inl (by omega)
      · exact .inr y
    · exact .inl (by omega)
  fz := fun b h => by
    rcases a.fz b h with h | h | h
    · exact .inl h
    · exact .inr (.inl (by omega))
    · exact .inr (.inr h)
  mono := a.mono
theorem Wf.frame {p : Bool} {f f' r : Addr → Nat} (a : Stp p H Fz f H' Fz' f') (w : Wf H Fz Bz (fun b => f b + r b)) (w' : Wf H' Fz' Bz f') : Wf H' Fz' Bz (fun b => f' b + r b) := by
  have alone : ∀ b, 1 ≤ r b → f b = 0 ∧ f' b = 0 ∧ ∃ o, H b = some o ∧ H' b = some o ∧ Ow o := fun b h => by
    have h1 := w.lin b
    (try dsimp only at h1)
    obtain ⟨o, e, ow⟩ := w.own b (by show 1 ≤ f b + r b; omega)
    have z : f b = 0 := by omega
    refine ⟨z, ?_, o, e, a.keep b o e (.inl z), ow⟩
    by_cases y : 1 ≤ f' b
    · rcases a.own b y with x | x
      · omega
      · rw [e] at x; cases x
    · omega
  refine ⟨fun b => ?_, fun b h => ?_, fun b h => ?_, fun b h => ?_⟩
  · by_cases z : 1 ≤ r b
    · obtain ⟨_, y, _⟩ := alone b z
      have := w.lin b
      (try dsimp only at this ⊢)
      omega
    · have := w'.lin b
      show f' b + r b ≤ 1
      omega
  · by_cases z : 1 ≤ r b
    · obtain ⟨_, _, o, _, e, ow⟩ := alone b z
      exact ⟨o, e, ow⟩
    · exact w'.own b (by (try dsimp only at h); omega)
  · refine ⟨?_, (w'.fz b h).2⟩
    have h1 := (w'.fz b h).1
    by_cases z : 1 ≤ r b
    · obtain ⟨x, _, o, e, _⟩ := alone b z
      rcases a.fz b h with y | y | y
      · have := (w.fz b y).1
        (try dsimp only at this ⊢)
        omega
      · omega
      · rw [e] at y; cases y
    · show f' b + r b = 0; omega
  · refine ⟨?_, (w'.bz b h).2⟩
    have h1 := (w'.bz b h).1
    have h2 := (w.bz b h).1
    (try dsimp only at h2 ⊢)
    omega
/-- what is owned by others stays as it stands -/
theorem Rv.frame {p : Bool} {f f' r : Addr → Nat} {v : V} {d : D} (h : Rv K H Fz Bz v d r) (n : d.ntr = true ∨ p = true) (a : Stp p H Fz f H' Fz' f') (w : Wf H Fz Bz (fun b => f b + r b)) : Rv K H' Fz' Bz v d r := by
  rcases n with n | n
  · refine h.keep (fun b o e q => a.keep b o e (.inl ?_)) a.mono n fun b o e q => a.keep b o e (.inl ?_)
    · rcases q with q | q | q
      · have := (w.fz b q).1; (try dsimp only at this); omega
      · have := (w.bz b q).1; (try dsimp only at this); omega
      · by_cases z : 1 ≤ f b
        · obtain ⟨o', e', ow⟩ := w.own b (by show 1 ≤ f b + r b; omega)
          rw [e] at e'; cases e'
          exact absurd ow q
        · omega
    · have := w.lin b; (try dsimp only at this); omega
  · exact h.same (fun b o e => a.keep b o e (.inr n)) a.mono
theorem RvL.frame {p : Bool} {f f' r : Addr → Nat} {v : List V} {d : List D} (h : RvL K H Fz Bz v d r) (n : D.ntrL d = true ∨ p = true) (a : Stp p H Fz f H' Fz' f') (w : Wf H Fz Bz (fun b => f b + r b)) : RvL K H' Fz' Bz v d r := by
  rcases n with n | n
  · refine h.keep (fun b o e q => a.keep b o e (.inl ?_)) a.mono n fun b o e q => a.keep b o e (.inl ?_)
    · rcases q with q | q | q
      · have := (w.fz b q).1; (try dsimp only at this); omega
      · have := (w.bz b q).1; (try dsimp only at this); omega
      · by_cases z : 1 ≤ f b
        · obtain ⟨o', e', ow⟩ := w.own b (by show 1 ≤ f b + r b; omega)
          rw [e] at e'; cases e'
          exact absurd ow q
        · omega
    · have := w.lin b; (try dsimp only at this); omega
  · exact h.same (fun b o e => a.keep b o e (.inr n)) a.mono
theorem Re.frame {p : Bool} {f f' r : Addr → Nat} {s : St} {ρ : Env} (h : Re K H Fz Bz s ρ r) (a : Stp p H Fz f H' Fz' f') (w : Wf H Fz Bz (fun b => f b + r b)) : Re K H' Fz' Bz s ρ r := by
  refine h.keep (fun b o e q => a.keep b o e (.inl ?_)) a.mono fun b o e q => a.keep b o e (.inl ?_)
  · rcases q with q | q | q
    · have := (w.fz b q).1; (try dsimp only at this); omega
    · have := (w.bz b q).1; (try dsimp only at this); omega
    · by_cases z : 1 ≤ f b
      · obtain ⟨o', e', ow⟩ := w.own b (by show 1 ≤ f b + r b; omega)
        rw [e] at e'; cases e'
        exact absurd ow q
      · omega
  · have := w.lin b; (try dsimp only at this); omega
/-- a new object, owned -/
theorem Stp.new {p : Addr} {o : HO} {f : Addr → Nat} (hn : H p = none) : Stp true H Fz f (upd H p o) Fz (fun b => f b + if b = p then 1 else 0) where
  keep := fun b o' e _ => by rw [upd_ne (ne_of_none e hn)]; exact e
  there := fun b o' e => ⟨o', by rw [upd_ne (ne_of_none e hn)]; exact e⟩
  own := fun b h => by
    by_cases z : b = p
    · subst z; exact .inr hn
    · rw [if_neg z] at h; exact .inl (by omega)
  fz := fun _ h => .inl h
  mono := fun _ h => h
theorem Wf.new {p : Addr} {o : HO} {f : Addr → Nat} (w : Wf H Fz Bz f) (hn : H p = none) (ow : Ow o) : Wf (upd H p o) Fz Bz (fun b => f b + if b = p then 1 else 0) := by
  have z : f p = 0 := by
    by_cases h : 1 ≤ f p
    · obtain ⟨o', e, _⟩ := w.own p h; rw [hn] at e; cases e
    · omega
  refine ⟨fun b => ?_, fun b h => ?_, fun b h => ?_, fun b h => ?_⟩
  · by_cases e : b = p
    · subst e; simp [z]
    · simp [e]; exact w.lin b
  · by_cases e : b = p
    · subst e; exact ⟨o, upd_same, ow⟩
    · rw [upd_ne e]; exact w.own b (by simpa [e] using h)
  · obtain ⟨h1, o', h2⟩ := w.fz b h
    have e : b ≠ p := ne_of_none h2 hn
    exact ⟨by simp [e, h1], o', by rw [upd_ne e]; exact h2⟩
  · obtain ⟨h1, o', h2⟩ := w.bz b h
    have e : b ≠ p := ne_of_none h2 hn
    exact ⟨by simp [e, h1], o', by rw [upd_ne e]; exact h2⟩
/-- a new object, of those that never change -/
theorem Stp.lay {p : Addr} {o : HO} {f : Addr → Nat} (hn : H p = none) : Stp true H Fz f (upd H p o) Fz f where
  keep := fun b o' e _ => by rw [upd_ne (ne_of_none e hn)]; exact e
  there := fun b o' e => ⟨o', by rw [upd_ne (ne_of_none e hn)]; exact e⟩
  own := fun b h => .inl h
  fz := fun _ h => .inl h
  mono := fun _ h => h
theorem Wf.lay {p : Addr} {o : HO} {f : Addr → Nat} (w : Wf H Fz Bz f) (hn : H p = none) : Wf (upd H p o) Fz Bz f := by
  refine ⟨w.lin, fun b h => ?_, fun b h => ?_, fun b h => ?_⟩
  · obtain ⟨o', e, ow⟩ := w.own b h
    exact ⟨o', by rw [upd_ne (ne_of_none e hn)]; exact e, ow⟩
  · obtain ⟨h1, o', h2⟩ := w.fz b h
    exact ⟨h1, o', by rw [upd_ne (ne_of_none h2 hn)]; exact h2⟩
  · obtain ⟨h1, o', h2⟩ := w.bz b h
    exact ⟨h1, o', by rw [upd_ne (ne_of_none h2 hn)]; exact h2⟩
/-- what is owned is kept for ever -/
theorem Wf.freeze {f g : Addr → Nat} (w : Wf H Fz Bz (fun b => f b + g b)) : Wf H (fun b => Fz b ∨ 1 ≤ g b) Bz f := by
  refine ⟨fun b => ?_, fun b h => w.own b (by show 1 ≤ f b + g b; omega), fun b h => ?_, fun b h => ?_⟩
  · have := w.lin b; (try dsimp only at this); omega
  · rcases h with h | h
    · have := w.fz b h; (try dsimp only at this); exact ⟨by omega, this.2⟩
    · have := w.lin b; (try dsimp only at this)
      obtain ⟨o, e, _⟩ := w.own b (by show 1 ≤ f b + g b; omega)
      exact ⟨by omega, o, e⟩
  · have := w.bz b h; (try dsimp only at this); exact ⟨by omega, this.2⟩
theorem Stp.freeze {p : Bool} {f f' g : Addr → Nat} (a : Stp p H Fz f H' Fz' (fun b => f' b + g b)) : Stp p H Fz f H' (fun b => Fz' b ∨ 1 ≤ g b) f' where
  keep := a.keep
  there := a.there
  own := fun b h => a.own b (by show 1 ≤ f' b + g b; omega)
  fz := fun b h => by
    rcases h with h | h
    · exact a.fz b h
    · rcases a.own b (by show 1 ≤ f' b + g b; omega) with y | y
      · exact .inr (.inl y)
      · exact .inr (.inr y)
  mono := fun b h => .inl (a.mono b h)
theorem Rs.monoF {o : Option V} {d : D} {f : Addr → Nat} (h : Rs K H Fz Bz o d f) (m : ∀ b, Fz b → Fz' b) : Rs K H Fz' Bz o d f := h.keep (fun _ _ e _ => e) m fun _ _ e _ => e
theorem Re.monoF {s : St} {r : Env} {f : Addr → Nat} (h : Re K H Fz Bz s r f) (m : ∀ b, Fz b → Fz' b) : Re K H Fz' Bz s r f := h.keep (fun _ _ e _ => e) m fun _ _ e _ => e
/-- an owned list is changed -/
theorem Stp.write {a : Addr} {o o' : HO} {f f' : Addr → Nat} (he : H a = some o) (hf : 1 ≤ f a) (hf' : ∀ b, 1 ≤ f' b → 1 ≤ f b) : Stp false H Fz f (upd H a o') Fz f' where
  keep := fun b ob e h => by
    rcases h with h | h
    · have ne : b ≠ a := fun z => by subst z; omega
      rw [upd_ne ne]; exact e
    · cases h
  there := fun b ob e => by
    by_cases z : b = a
    · subst z; exact ⟨o', upd_same⟩
    · exact ⟨ob, by rw [upd_ne z]; exact e⟩
  own := fun b h => .inl (hf' b h)
  fz := fun _ h => .inl h
  mono := fun _ h => h
theorem Wf.write {a : Addr} {o' : HO} {f f' : Addr → Nat} (w : Wf H Fz Bz f) (hf : 1 ≤ f a) (ow : Ow o') (hf' : ∀ b, f' b ≤ f b) : Wf (upd H a o') Fz Bz f' := by
  refine ⟨fun b => Nat.le_trans (hf' b) (w.lin b), fun b h => ?_, fun b h => ?_, fun b h => ?_⟩
  · by_cases z : b = a
    · subst z; exact ⟨o', upd_same, ow⟩
    · rw [upd_ne z]; exact w.own b (Nat.le_trans h (hf' b))
  · have h1 := w.fz b h
    have ne : b ≠ a := fun z => by subst z; omega
    rw [upd_ne ne]
    exact ⟨by have := hf' b; omega, h1.2⟩
  · have h1 := w.bz b h
    have ne : b ≠ a := fun z => by subst z; omega
    rw [upd_ne ne]
    exact ⟨by have := hf' b; omega, h1.2⟩
end
end DE
end

section
set_option Elab.async false
set_option linter.all false
set_option maxRecDepth 100000
set_option maxHeartbeats 4000000
/-! DE3b: tuples are laid without a dict of their own. -/
namespace DE
open PySem PySem.Spec PyProof.Rows L2 HT
/-- a tuple's object as it is made -/
abbrev tob (its : Array Value) : Obj := { cls := .type "tuple", data := .seq its }
/-- the wish for a new tuple -/
def TupQ (H : Hp) (Q : VK) (xs : List V) : Prop := ∀ (p : Addr) (o : Obj), H p = none → o.dict = none → Q (.ref p) (upd H p (.frz o (.tup xs)))
section
variable {X : Cx} {pins : List (Addr × Obj)} {σ : L2.St} {H : Hp} {s : Shared} {xs : List V} {its : List Value}
theorem laidN {t' : Nat} (I : Inv X pins σ H s) (hz : xs.length ≤ sizeLine) (r : Vals xs its) :
    Inv X pins σ (upd H s.heap.objs.size (.frz (tob its.toArray) (.tup xs))) { s with heap := s.heap.push (tob its.toArray), toks := t' } :=
  I.laid (t' := t') (fun b ob q => Heap.get?_push_of_some _ q) (Nat.le_refl _) ⟨Heap.get?_push_size _ rfl, hz, its, r, IsTup.new _ _⟩
theorem madeN {Q : VK} {t' : Nat} (I : Inv X pins σ H s) (hz : xs.length ≤ sizeLine) (r : Vals xs its) (q : TupQ H Q xs) :
    EP X pins σ Q (.ref s.heap.objs.size) { s with heap := s.heap.push (tob its.toArray), toks := t' } :=
  ⟨.ref s.heap.objs.size, _, laidN (t' := t') I hz r, rfl, q _ _ (I.hok.fresh (Nat.le_refl _)) rfl⟩
end
section
variable {X : Cx}
theorem op_catN : OpR X (binaryOp .Add) (fun x y H Q => ∃ a b xs ys, x = .ref a ∧ y = .ref b ∧ SqT X.K H a xs ∧ SqT X.K H b ys ∧ xs.length + ys.length ≤ sizeLine ∧
    (xs = [] → Q (.ref b) H) ∧ (xs ≠ [] → ys = [] → Q (.ref a) H) ∧ (xs ≠ [] → ys ≠ [] → TupQ H Q (xs ++ ys))) := by
  intro pins s σ H x y v u Q I rx ry h
  obtain ⟨a, b, xs, ys, rfl, rfl, ha, hb, hz, q0, q1, q2⟩ := h
  cases rx
  cases ry
  obtain ⟨its, r1, p1, _⟩ := I.tuple ha
  obtain ⟨its2, r2, p2, _⟩ := I.tuple hb
  by_cases hx : xs = []
  · subst hx
    cases r1
    exact cat_tup0 p1 p2 ⟨.ref b, H, I, rfl, q0 rfl⟩
  · refine HT.cat_tup p1 p2 (fun z => hx (r1.nil_iff.mp z)) (fun z => ⟨.ref a, H, I, rfl, q1 hx (r2.nil_iff.mp z)⟩) (fun z => ?_) (by rw [← r1.length, ← r2.length]; exact hz)
    exact madeN (t' := s.toks) I (by rw [List.length_append]; exact hz) (r1.append r2) (q2 hx fun w => z (r2.nil_iff.mpr w))
theorem sl_tupN : SlR X (fun x lo hi H Q => ∃ a xs, x = .ref a ∧ SqT X.K H a xs ∧
    (HT.sIx xs.length 0 lo = 0 ∧ HT.sIx xs.length xs.length hi = xs.length → Q (.ref a) H) ∧ (¬ (HT.sIx xs.length 0 lo = 0 ∧ HT.sIx xs.length xs.length hi = xs.length) → TupQ H Q (cutV xs lo hi))) := by
  intro pins s σ H x v vl vu lo hi sl Q I rx hs pl pu h
  obtain ⟨a, xs, rfl, hx, q1, q2⟩ := h
  cases rx
  obtain ⟨its, r, ht, hz⟩ := I.tuple hx
  have hlen : its.toArray.size = xs.length := by rw [List.size_toArray]; exact r.length.symm
  refine ⟨"tuple", _, PyProof.Rows.slot_tuple_getitem.lookup, ht.typeIs, ?_⟩
  by_cases hw : HT.sIx xs.length 0 lo = 0 ∧ HT.sIx xs.length xs.length hi = xs.length
  · exact getItem_tuple_whole ht hs pl pu (by rw [hlen]; exact hw) ⟨.ref a, H, I, rfl, q1 hw⟩
  · refine HT.getItem_tuple_cut ht hs pl pu (by rw [hlen]; exact hw) ?_ (by rw [hlen]; exact hz)
    rw [hlen]
    exact madeN (t' := s.toks) I (Nat.le_trans (cutV_length xs lo hi) hz) ((r.drop (HT.sIx xs.length 0 lo)).take (HT.sIx xs.length xs.length hi - HT.sIx xs.length 0 lo)) (q2 hw)
theorem call_tupN : CallR X (.type "tuple") (fun xs H Q => ∃ p ys, xs = [.ref p] ∧ ((SqL X.K H p ys ∧ TupQ H Q ys) ∨ (SqT X.K H p ys ∧ Q (.ref p) H))) := by
  intro pins s σ H xs us Q I r h
  obtain ⟨p, ys, rfl, h⟩ := h
  obtain ⟨u, rfl, rx⟩ := vals1 r
  cases rx
  rcases h with ⟨hq, q⟩ | ⟨hq, q⟩
  · obtain ⟨its, r', pl, hz⟩ := I.list hq
    have hlen := r'.length
    refine call_tuple_list pl.isList (fun h' kp => ?_) (by simp only [List.size_toArray] <;> omega)
    have I1 : Inv X pins σ H { s with heap := h' } := I.kept (t' := s.toks) kp
    exact madeN (t' := s.toks) I1 hz r' q
  · obtain ⟨its, r', pl, hz⟩ := I.tuple hq
    exact call_tuple_same pl ⟨.ref p, H, I, rfl, q⟩
theorem pe_tupN {es : List Expr} {t : TA} {x1} {pos : Pos} (h : PA X es t) : PE X (.Tuple es x1 pos) (fun σ H Q => t σ H fun xs H1 => xs.length ≤ sizeLine ∧ TupQ H1 Q xs) := by
  refine ⟨fun pins s σ H Q I hq => ?_⟩
  refine wpAny_Tuple_spliced (thn (h.run pos pins s σ H _ I hq) fun us s1 ⟨xs, H1, I1, r, z, q⟩ => ⟨by rw [← r.length]; exact z, ?_⟩)
  exact madeN (t' := s1.toks) I1 z r q
theorem partsN {pins : List (Addr × Obj)} {σ : L2.St} {H : Hp} {s : Shared} {Q : VK} {x y z : Str} {t u v : Tok} {k : Nat} (I : Inv X pins σ H s) (h : TupQ H Q [.str x, .str y, .str z]) :
    EP X pins σ Q (.ref s.heap.objs.size) { s with toks := k, heap := s.heap.push { cls := .type "tuple", data := .seq [Value.str x t, .str y u, .str z v].toArray } } :=
  madeN (xs := [.str x, .str y, .str z]) (its := [Value.str x t, .str y u, .str z v]) (t' := k) I (by show 3 ≤ sizeLine; decide) (.cons ⟨t, rfl⟩ (.cons ⟨u, rfl⟩ (.cons ⟨v, rfl⟩ .nil))) h
theorem mt_partN : MtR X "str.partition" (fun x xs H Q => ∃ a b, x = .str a ∧ xs = [.str b] ∧ (b.length == 0) = false ∧ a.length ≤ sizeLine ∧
    TupQ H Q [.str (Txt.partition a b).1, .str (Txt.partition a b).2.1, .str (Txt.partition a b).2.2]) := by
  intro pins s σ H x xs v us Q I rx rs h
  obtain ⟨a, b, rfl, rfl, hb, hz, h⟩ := h
  obtain ⟨t, rfl⟩ := rx
  cases rs with
  | cons r1 rs =>
    cases rs
    obtain ⟨u, rfl⟩ := r1
    refine call_meets F.slot_str_partition (typeIs_str _ _ _) F.entry_str_partition (F.args_str_partition_2 _ _) (meets_str_partition a b t u hb hz) ?_
    unfold Txt.partition at h
    revert h
    cases Builtin.Str.occurrences a b 0 a.length 1 with
    | nil => intro h; exact partsN I h
    | cons i r => intro h; exact partsN I h
theorem pe_tupRgN {e : Expr} {te : L2.St → Hp → (Int → Int → Hp → Prop) → Prop} {p pos : Pos} (hc : X.calm = true) (hg : Gl X "tuple") (hm : X.mg "tuple" = none) (he : PRg X e te) (na : starEach [e] X.env = (false, eval e X.env) :: starEach [] X.env := by rfl) :
    PE X (.Call (.Name "tuple" p) [e] [] pos) (fun σ H Q => te σ H fun a b H1 => RgOk a b ∧ TupQ H1 Q (rgV a b)) := by
  refine ⟨fun pins s σ H Q I h => ?_⟩
  refine Call_ (ld_blt I hg hm boot_tuple (PyProof.Rows.callWith_type1 (args_cons (thn (he pins s σ H _ I h) fun x s1 ⟨r, a, b, t, u, v, H1, ex, hr, I1, ok, q⟩ => args_nil ?_) na) na))
  subst ex
  obtain ⟨b1, b2, b3, b4, b5⟩ := ok
  refine call_tuple_range (n := (b - a).toNat) (I1.ok.hd hc) hr (small_one b1 b2 b3 b4) (rangeSize_nat a b) b5 fun h' tk acc hk hi => ?_
  have I2 : Inv X pins σ H1 { s1 with heap := h', toks := tk } := I1.kept hk
  have m := madeN (t' := tk) (its := acc.toList) I2 (by rw [rgV_length, sizeLine_eq]; omega) (vals_rg hi) q
  rwa [Array.toArray_toList] at m
theorem op_repN : OpR X (binaryOp .Mult) (fun x y H Q => ∃ l k xs, x = .ref l ∧ y = .int k ∧ SqT X.K H l xs ∧ xs ≠ [] ∧ 2 ≤ k ∧ k ≤ 1000 ∧ xs.length ≤ 1000 ∧ TupQ H Q (List.replicate k.toNat xs).flatten) := by
  intro pins s σ H x y v u Q I rx ry h
  obtain ⟨l, k, xs, rfl, rfl, hT, hne, h1, h2, hz, q⟩ := h
  cases rx
  obtain ⟨t, rfl⟩ := ry
  obtain ⟨its, r, ⟨⟨cls, dd, data, sl⟩, ho, hc, n, hd⟩, hs⟩ := I.tuple hT
  simp only at hc hd
  subst hc hd
  have hle : its.length = xs.length := r.length.symm
  have hn : its ≠ [] := fun e => hne (by
    rw [e] at hle
    exact List.eq_nil_of_length_eq_zero hle.symm)
  have hi : its.toArray.isEmpty = false := by
    cases its with
    | nil => exact absurd rfl hn
    | cons a b => rfl
  have mm : k.toNat * xs.length ≤ 1000 * 1000 := Nat.mul_le_mul (by omega) hz
  have flen : (List.replicate k.toNat its).flatten.length ≤ sizeLine := by
    rw [PyProof.Rows.lm_len_rep_flat, hle, sizeLine_eq]; omega
  have c0 : (decide (k < -(2 ^ 63)) || decide (k ≥ 2 ^ 63)) = false := by
    rw [decide_eq_false (by omega), decide_eq_false (by omega)] <;> rfl
  have c1 : (its.toArray.isEmpty || k == 1) = false := by
    rw [hi, Bool.false_or]; exact beq_eq_false_iff_ne.mpr (by omega)
  have c2 : (decide (k ≤ 0) || its.toArray.isEmpty) = false := by
    rw [hi, Bool.or_false]; exact decide_eq_false (by omega)
  have hm : ((its.toArray.size : Nat) : Int) * k ≤ 1000000 := by
    have e0 : its.toArray.size = xs.length := by rw [List.size_toArray, hle]
    rw [e0]
    have a1 : ((xs.length : Nat) : Int) * k ≤ 1000 * k := Int.mul_le_mul_of_nonneg_right (by omega) (by omega)
    omega
  have c4 : Builtin.Tuple.tupleTooMany (((its.toArray.size : Nat) : Int) * k) = false := by
    unfold Builtin.Tuple.tupleTooMany
    rw [sizeLine_eq]
    exact decide_eq_false (by omega)
  refine wpAny_binaryOp_repeat_ref (T := "tuple") (U := "int") (by decide) ⟨_, ho, rfl⟩ (fun s' => typeIs_int s' k t) noFill_tuple_mul F.fills_int_mul F.slot_int_rmul repeat_tuple F.slot_int_index.lookup
    (call_meets F.slot_int_rmul (typeIs_int s k t) F.entry_int_rmul (F.args_int_rmul_2 _ _) (int_rmul_tuple k t l its.toArray n dd sl)
      ⟨ho, rfl, ⟨_, ho, rfl⟩, call_meets F.slot_tuple_mul ⟨_, ho, rfl⟩ F.entry_tuple_mul (F.args_tuple_mul_2 _ _) (tuple_mulW l its.toArray n dd sl k t c0 c1 c2 (by omega) c4 (by rw [size_rep, List.size_toArray]; exact flen)) ⟨ho, ?_⟩⟩)
  rw [size_rep]
  exact madeN (t' := s.toks) I (by rw [PyProof.Rows.lm_len_rep_flat, sizeLine_eq]; omega) (r.rep k.toNat) q
theorem mt_tidx : MtR X "tuple.index" (fun x xs H Q => ∃ p, ∃ ns : List Int, ∃ k j, x = .ref p ∧ xs = [.int k] ∧ SqT X.K H p (ns.map V.int) ∧ ns[j]? = some k ∧ (∀ m, m < j → ns[m]? ≠ some k) ∧ Q (.int (j : Nat)) H) := by
  intro pins s σ H x xs v us Q I rx rs h
  obtain ⟨p, ns, k, j, rfl, rfl, hq, hy, hno, q⟩ := h
  cases rx
  obtain ⟨u, rfl, t, rfl⟩ := vals1 rs
  obtain ⟨its, r, pl, hz⟩ := I.tuple hq
  obtain ⟨⟨cls, dd, dt, sl⟩, ho, hc, n, hd⟩ := pl
  simp only at hc hd
  subst hc
  subst hd
  have hl : its.toArray.size = ns.length := by rw [List.size_toArray, ← r.length, List.length_map]
  have hj : j < its.toArray.size := by rw [hl]; exact (List.getElem?_eq_some_iff.mp hy).1
  have at' : ∀ (m : Nat) (hm : m < its.toArray.size), ∃ y t', ns[m]? = some y ∧ its.toArray[m] = Value.int y t' := fun m hm => by
    have hm' : m < ns.length := by rw [← hl]; exact hm
    obtain ⟨w, hw, t', hw'⟩ := r.get (i := m) (x := .int ns[m]) (by simp [hm'])
    refine ⟨ns[m], t', List.getElem?_eq_getElem hm', ?_⟩
    have e := (List.getElem?_eq_some_iff.mp hw).2
    rw [← hw', ← e]
    simp
  have fl : (ns.map V.int).all flatV = true := by
    rw [List.all_map]
    exact List.all_eq_true.mpr fun _ _ => rfl
  refine call_meets PySem.F.slot_tuple_index ⟨_, ho, rfl⟩ PySem.F.entry_tuple_index (PySem.F.args_tuple_index_2 _ _) (TI.tuple_indexAt p its.toArray n dd sl (.int k t) (eqU (.int k)) j hj ?_ ?_)
    ⟨ho, fun w hw => mem_eqAt (x := .int k) ⟨t, rfl⟩ rfl r fl w (by simpa using hw), ⟨.int (j : Nat), H, I.tok _, ⟨_, rfl⟩, q⟩⟩
  · obtain ⟨y, t', h1, h2⟩ := at' j hj
    rw [hy] at h1
    cases h1
    rw [h2]
    show (k == k) = true
    exact beq_self_eq_true k
  · intro m hm hmj
    obtain ⟨y, t', h1, h2⟩ := at' m hm
    rw [h2]
    have : y ≠ k := fun e => hno m hmj (e ▸ h1)
    show (y == k) = false
    exact beq_eq_false_iff_ne.mpr this
theorem NqT.at_ {pins : List (Addr × Obj)} {σ : L2.St} {H : Hp} {s : Shared} {a : Addr} {xs : List V} (I : Inv X pins σ H s) (h : NqT X.K H a xs) :
    s.TypeIs (.ref a) "tuple" ∧ ∀ b, Value.ref a = .ref b → ∃ ob, s.heap.get? b = some ob ∧ ob.dict = none := by
  rcases h with ⟨o, h, d⟩ | ⟨o, its, n, h1, h2, h3, h4, h5, d⟩
  · obtain ⟨g, hz, its, r, o', g', hc, _⟩ := (show ObjOk X.prog X.w H s.heap a (.frz o (.tup xs)) from I.hok a _ h)
    rw [g] at g'
    cases g'
    exact ⟨⟨o, g, hc⟩, fun b e => by cases e; exact ⟨o, g, d⟩⟩
  · have g := I.kIn a o h1
    exact ⟨⟨o, g, h2⟩, fun b e => by cases e; exact ⟨o, g, d⟩⟩
/-- the call of a method of a tuple -/
def tBMT (K : PySem.W.Frag) (r : V → List V → Hp → VK → Prop) (to : TE) (t : TA) : TE := fun σ H Q => to σ H fun x H1 => (∃ a xs, x = .ref a ∧ NqT K H1 a xs) ∧ t σ H1 fun ys H2 => r x ys H2 Q
theorem pe_tm {o e : Expr} {es : List Expr} {to : TE} {t : TA} {name : Str} {apos cpos : Pos} {id : String} {r : V → List V → Hp → VK → Prop} (pa : PlainAttrs "tuple") (slot : Slot "tuple" name id) (hty : typeOf (.builtin id) = pure (.type "method_descriptor")) (hm : MtR X id r) (ho : PE X o to) (ha : PA X (e :: es) t)
    (hbase : attributeBase o name X.env (eval o X.env) = eval o X.env)
    (hfew : ((backTo cpos (starEach (e :: es) X.env)).all (fun x => !x.1) && (backToKw cpos (keywordEach [] X.env)).all (fun x => x.1.isSome)
      && decide ((e :: es).length + ([] : List Keyword).length + (if ([] : List Keyword).isEmpty then 0 else 1) < 30)) = true)
    (hline : (apos.endLine == cpos.line) = true) (hs : starEach (e :: es) X.env = (false, eval e X.env) :: starEach es X.env) (hplain : (backTo cpos (starEach es X.env)).any (·.1) = false) :
    PE X (.Call (.Attribute o name apos) (e :: es) [] cpos) (tBMT X.K r to t) := by
  refine ⟨fun pins s σ H Q I h => ?_⟩
  refine wpAny_Call_method_late hbase hfew hline rfl (thn (ho.run pins s σ H _ I h) fun v s1 ⟨x, H1, I1, r1, ⟨a, xs, ex, nq⟩, q1⟩ => ?_)
  subst ex
  have ev : v = Value.ref a := r1
  subst ev
  obtain ⟨h1, h2⟩ := NqT.at_ I1 nq
  refine ⟨"tuple", id, pa, slot, hty, h1, h2, ?_⟩
  have hA := ha.run cpos pins s1 σ H1 _ I1 q1
  rw [hs] at hA ⊢
  refine Calls.callWith_builtin (by show (false || (backTo cpos (starEach es X.env)).any (·.1)) = false; rw [hplain] <;> rfl) (Calls.evalArgs_plain ?_)
  exact thn hA fun us s2 ⟨vs, H2, I2, r2, q2⟩ => hm pins s2 σ H2 (.ref a) vs (.ref a) us Q I2 r1 r2 q2
end
end DE
end

section
set_option Elab.async false
set_option linter.all false
/-! DE4: what an operator makes. -/
namespace DE
open PySem PySem.Spec PyProof.Rows L2

/-- what an operation may make: a value that was there, a new thing that never changes, a new list -/
inductive Mk (K : PySem.W.Frag) (H : Hp) (S : Addr → Prop) : D → V → Hp → Prop
  | old {v : V} {p : PyData} : Rp K H S v p → Mk K H S (.dat p) v H
  | lay {v : V} {p : PyData} {q : Addr} {o : HO} : H q = none → ¬ Ow o → Rp K (upd H q o) S v p → Mk K H S (.dat p) v (upd H q o)
  | new {q : Addr} {vs : List V} {ds : List PyData} : H q = none → RpL K (upd H q (.lst vs)) S vs ds → Mk K H S (dl ds) (.ref q) (upd H q (.lst vs))

section
variable {K : PySem.W.Frag} {H H' : Hp} {S : Addr → Prop}
/-- data stay in a heap that grew by a new object -/
theorem Rp.up {v : V} {d : PyData} {q : Addr} {o : HO} (h : Rp K H S v d) (hn : H q = none) : Rp K (upd H q o) S v d := h.keep (fun b u e _ => by rw [upd_ne (ne_of_none e hn)]; exact e) fun _ z => z
theorem RpL.up {v : List V} {d : List PyData} {q : Addr} {o : HO} (h : RpL K H S v d) (hn : H q = none) : RpL K (upd H q o) S v d := h.keep (fun b u e _ => by rw [upd_ne (ne_of_none e hn)]; exact e) fun _ z => z
theorem Mk.tuple {q : Addr} {ob : Obj} {vs : List V} {ds : List PyData} (hn : H q = none) (hd : ob.dict = none) (h : RpL K H S vs ds) : Mk K H S (.dat (.tuple ds)) (.ref q) (upd H q (.frz ob (.tup vs))) :=
  .lay hn (fun z => z) (.tup (.inl ⟨ob, upd_same, hd⟩) (h.up hn))
theorem Mk.list {q : Addr} {vs : List V} {ds : List PyData} (hn : H q = none) (h : RpL K H S vs ds) : Mk K H S (dl ds) (.ref q) (upd H q (.lst vs)) := .new hn (h.up hn)
/-- by kind -/
theorem Rp.int_inv {v : V} {i : Int} (h : Rp K H S v (.int i)) : v = .int i := by cases h; rfl
theorem Rp.bool_inv {v : V} {i : Bool} (h : Rp K H S v (.bool i)) : v = .bl i := by cases h; rfl
theorem Rp.str_inv {v : V} {i : Str} (h : Rp K H S v (.str i)) : v = .str i := by cases h; rfl
theorem Rp.none_inv {v : V} (h : Rp K H S v .none) : v = .non := by cases h; rfl
theorem Rp.list_inv {v : V} {ds : List PyData} (h : Rp K H S v (.list ds)) : ∃ a vs, v = .ref a ∧ FzL K H S a vs ∧ RpL K H S vs ds := by cases h with | lst h r => exact ⟨_, _, rfl, h, r⟩
theorem Rp.tuple_inv {v : V} {ds : List PyData} (h : Rp K H S v (.tuple ds)) : ∃ a vs, v = .ref a ∧ NqT K H a vs ∧ RpL K H S vs ds := by cases h with | tup h r => exact ⟨_, _, rfl, h, r⟩
theorem Rp.dict_inv {v : V} {ds : List (PyData × PyData)} (h : Rp K H S v (.dict ds)) : False := by cases h
theorem fits_line {n : Nat} (h : fits n = true) : n ≤ sizeLine := by
  rw [sizeLine_eq]
  exact of_decide_eq_true h
theorem RpL.ints : ∀ {vs : List V} {ds : List PyData} {ns : List Int}, RpL K H S vs ds → intsL ds = some ns → vs = ns.map V.int
  | _, _, _, .nil, e => by simp only [intsL, Option.some.injEq] at e; subst e; rfl
  | _, _, _, .cons (d := d) (ds := ds) r t, e => by
    cases r with
    | int i =>
      simp only [intsL] at e
      obtain ⟨ms, e1, e2⟩ := Option.map_eq_some_iff.mp e
      subst e2
      rw [RpL.ints t e1]; rfl
    | _ => simp [intsL] at e
theorem RpL.bools : ∀ {vs : List V} {ds : List PyData} {ns : List Bool}, RpL K H S vs ds → boolsL ds = some ns → vs = ns.map V.bl
  | _, _, _, .nil, e => by simp only [boolsL, Option.some.injEq] at e; subst e; rfl
  | _, _, _, .cons (d := d) (ds := ds) r t, e => by
    cases r with
    | bl i =>
      simp only [boolsL] at e
      obtain ⟨ms, e1, e2⟩ := Option.map_eq_some_iff.mp e
      subst e2
      rw [RpL.bools t e1]; rfl
    | _ => simp [boolsL] at e
end

section
variable {X : Cx}
theorem Inv.rdL {pins : List (Addr × Obj)} {σ : L2.St} {H : Hp} {s : Shared} {S : Addr → Prop} {a : Addr} {xs : List V} (I : Inv X pins σ H s) (h : FzL X.K H S a xs) :
    xs.length ≤ sizeLine ∧ ∃ (its : List Value) (n : Nat), Vals xs its ∧ s.heap.get? a = some { cls := .type "list", data := .seq its.toArray n } := by
  have old : ∀ h : Rd H a (.lst xs), xs.length ≤ sizeLine ∧ ∃ (its : List Value) (n : Nat), Vals xs its ∧ s.heap.get? a = some { cls := .type "list", data := .seq its.toArray n } := fun h => h.ok I.hok
  rcases h with h | h | ⟨its, n, h1, h2, h3⟩
  · exact old (.inl h.1)
  · exact old (.inr h)
  · have l : xs.length = its.size := by rw [h3.length, Array.length_toList]
    exact ⟨by omega, its.toList, n, h3, by rw [Array.toArray_toList]; exact I.kIn a _ h1⟩
/-- what an operator by two values asks, in data -/
def rBin (K : PySem.W.Frag) (o : Operator) : R2 := fun x y H Q => ∃ (S : Addr → Prop) (p q : PyData) (d : D), Rp K H S x p ∧ Rp K H S y q ∧ binD o p q = some d ∧ ∀ v H', Mk K H S d v H' → Q v H'

theorem op_fdivZ : OpR X (binaryOp .FloorDiv) (rI (fun _ j => divOk j = true) fun i j => .int (i.fdiv j)) := opI fun _ j _ _ _ _ _ hc q => by
  have h : j ≠ 0 ∧ j.natAbs.log2 < 9000 := by
    unfold divOk at hc
    rw [Bool.and_eq_true] at hc
    exact ⟨of_decide_eq_true hc.1, of_decide_eq_true hc.2⟩
  exact floordiv_int h.1 q (.inl (PyProof.noPylong_of_log2 h.2))
/-- two lists, one behind the other -/
def rCatR (K : PySem.W.Frag) : R2 := fun x y H Q => ∃ (S S' : Addr → Prop) (l b : Addr) (xs zs : List V), x = .ref l ∧ y = .ref b ∧ FzL K H S l xs ∧ FzL K H S' b zs ∧ xs.length + zs.length ≤ sizeLine ∧ ∀ p, H p = none → Q (.ref p) (upd H p (.lst (xs ++ zs)))
theorem op_catR : OpR X (binaryOp .Add) (rCatR X.K) := by
  intro pins s σ H x y v u Q I rx ry ⟨S, S', l, b, xs, zs, ex, ey, hl, hb, hz, q⟩
  subst ex ey
  cases rx
  cases ry
  obtain ⟨_, i1, n1, v1, g1⟩ := Inv.rdL I hl
  obtain ⟨_, i2, n2, v2, g2⟩ := Inv.rdL I hb
  have len1 := v1.length
  have len2 := v2.length
  refine PySem.P.add_list g1 g2 ?_ (by simp only [List.size_toArray]; omega)
  have both : i1.toArray ++ i2.toArray = (i1 ++ i2).toArray := by simp
  rw [both]
  exact ⟨.ref _, _, I.lnew (t' := s.toks) (v1.append v2) (by simp only [List.length_append]; omega), rfl, q _ I.fresh⟩
theorem mulOk_W {i j : Int} (h : mulOk i j = true) : CMulW i j := by
  unfold mulOk at h
  exact (of_decide_eq_true h : _ < _)
theorem rngOk_b {i : Int} (h : rngOk i = true) : -(2 ^ 62) ≤ i ∧ i < 2 ^ 62 := by
  have h1 : i.natAbs.log2 < 62 := of_decide_eq_true h
  have h2 : i.natAbs < 2 ^ 62 := by
    by_cases e : i.natAbs = 0
    · omega
    · exact (Nat.log2_lt e).mp h1
  omega
/-- a list so many times -/
def rRepR (K : PySem.W.Frag) : R2 := fun x y H Q => ∃ (S : Addr → Prop) (l : Addr) (k : Int) (xs : List V), x = .ref l ∧ y = .int k ∧ FzL K H S l xs ∧ -(2 ^ 63) ≤ k ∧ k < 2 ^ 63 ∧ xs.length * k.toNat ≤ sizeLine ∧
  ∀ p, H p = none → Q (.ref p) (upd H p (.lst (List.replicate k.toNat xs).flatten))
theorem op_repR : OpR X (binaryOp .Mult) (rRepR X.K) := by
  intro pins s σ H x y v u Q I rx ry ⟨S, l, k, xs, ex, ey, hl, lo, hi, hz, q⟩
  subst ex ey
  cases rx
  obtain ⟨tk, rfl⟩ := ry
  obtain ⟨_, its, n, vals, g⟩ := Inv.rdL I hl
  have len := vals.length
  have small : its.toArray.size * k.toNat ≤ sizeLine := by rw [List.size_toArray, ← len]; exact hz
  have capped : ¬ its.toArray.size * k.toNat > (2 ^ 63 - 1) / 8 := by
    have z : (sizeLine : Nat) ≤ (2 ^ 63 - 1) / 8 := by decide
    omega
  have fit : ¬ (!Builtin.List.listFitsIndex k) = true := by rw [fitsIndex_both lo hi]; decide
  have short : ¬ Builtin.List.listTooLong (its.toArray.size * k.toNat) = true := by rw [notLongL small]; decide
  have made : List.foldl (fun a b => a ++ b) #[] (List.replicate (if its.toArray.isEmpty = true then 0 else k.toNat) its.toArray) = (List.replicate k.toNat its).flatten.toArray := by
    have each : ∀ m : Nat, List.foldl (fun a b => a ++ b) #[] (List.replicate m its.toArray) = (List.replicate m its).flatten.toArray := fun m => by simpa using foldl_rep its m []
    rw [each]
    cases its with
    | nil => simp
    | cons a r => rw [if_neg (by simp)]
  refine wpAny_binaryOp_repeat_ref (T := "list") (U := "int") (by decide) ⟨_, g, rfl⟩ (fun z => typeIs_int z k tk) noFill_list_mul F.fills_int_mul F.slot_int_rmul repeat_list F.slot_int_index.lookup ?_
  refine call_meets F.slot_int_rmul (typeIs_int s k tk) F.entry_int_rmul (F.args_int_rmul_2 _ _) (int___rmul___int_list k tk l its.toArray n) ⟨g, rfl, ⟨_, g, rfl⟩, ?_⟩
  refine call_meets F.slot_list_mul ⟨_, g, rfl⟩ F.entry_list_mul (F.args_list_mul_2 _ _) (AutoListH.list___mul___list_int_3 l its.toArray n k tk fit capped short) ⟨g, ?_⟩
  rw [made]
  exact ⟨.ref _, _, I.lnew (t' := s.toks) (vals.rep k.toNat) (by rw [PyProof.Rows.lm_len_rep_flat, Nat.mul_comm]; exact hz), rfl, q _ I.fresh⟩
theorem foldl_repN (xs : List Nat) : ∀ (k : Nat) (acc : List Nat), List.foldl (fun x1 x2 => x1 ++ x2) acc.toArray (List.replicate k xs.toArray) = (acc ++ (List.replicate k xs).flatten).toArray
  | 0, acc => by simp
  | k + 1, acc => by
    rw [List.replicate_succ, List.foldl_cons, List.replicate_succ, List.flatten_cons, ← List.append_assoc]
    have := foldl_repN xs k (acc ++ xs)
    simpa using this
theorem op_mul_st : OpR X (binaryOp .Mult) (fun x y H Q => ∃ (z : Str) (k : Int), x = .str z ∧ y = .int k ∧ 1 ≤ k ∧ k ≤ 10000 ∧ z.length ≤ 1000 ∧ 0 < z.length ∧ Q (.str ⟨(List.replicate k.toNat z.cps.toList).flatten.toArray⟩) H) := by
  intro pins s σ H x y v u Q I rx ry h
  obtain ⟨z, k, rfl, rfl, h1, h2, h3, h4, q⟩ := h
  obtain ⟨t, rfl⟩ := rx
  obtain ⟨t', rfl⟩ := ry
  refine PySem.P.mul_str ?_ (fun _ _ => ?_) (fun _ _ => ?_) ?_
  · rw [decide_eq_false (by omega), decide_eq_false (by omega)]; rfl
  · have e : (z.length : Int) ≤ (2 ^ 63 - 1) / k := by
      rw [Int.le_ediv_iff_mul_le (by omega)]
      have a : (z.length : Int) * k ≤ 1000 * 10000 := Int.mul_le_mul (by omega) h2 (by omega) (by omega)
      omega
    omega
  · have a : z.length * k.toNat ≤ 1000 * 10000 := Nat.mul_le_mul h3 (by omega)
    exact decide_eq_false (by have e : sizeLine = 16777216 := rfl; omega)
  · rw [if_neg (by omega)]
    by_cases c : k = 1
    · subst c
      rw [if_pos (by simp)]
      have e : (⟨(List.replicate (1 : Int).toNat z.cps.toList).flatten.toArray⟩ : Str) = z := by
        show (⟨(List.replicate 1 z.cps.toList).flatten.toArray⟩ : Str) = z
        simp
      rw [e] at q
      exact ⟨.str z, H, I, ⟨_, rfl⟩, q⟩
    · have n : ¬ (k == 1 || z.length == 0) = true := by simp; omega
      rw [if_neg n]
      have e : (List.replicate k.toNat z.cps).foldl (· ++ ·) #[] = (List.replicate k.toNat z.cps.toList).flatten.toArray := by
        have := foldl_repN z.cps.toList k.toNat []
        simpa using this
      rw [e]
      refine ⟨?_, .str _, H, I.tok _, ⟨_, rfl⟩, q⟩
      have a : z.length * k.toNat ≤ 1000 * 10000 := Nat.mul_le_mul h3 (by omega)
      have zl : sizeLine = 16777216 := rfl
      have lf : ((List.replicate k.toNat z.cps.toList).flatten).length = k.toNat * z.length := by simp [Str.length]
      show ((List.replicate k.toNat z.cps.toList).flatten.toArray).size ≤ _
      rw [List.size_toArray, lf, Nat.mul_comm]
      omega
theorem op_add_bi : OpR X (binaryOp .Add) (fun x y H Q => ∃ i k, x = .bl i ∧ y = .int k ∧ Q (.int ((if i = true then (1 : Int) else 0) + k)) H) := by
  intro pins s σ H x y v u Q I rx ry h
  obtain ⟨i, k, rfl, rfl, q⟩ := h
  cases rx
  obtain ⟨t, rfl⟩ := ry
  exact PySem.IntBool.add_bool_int ⟨.int _, H, I.tok _, ⟨_, rfl⟩, q⟩
theorem op_add_ibz : OpR X (binaryOp .Add) (fun x y H Q => ∃ i k, x = .int i ∧ y = .bl k ∧ Q (.int (i + if k = true then (1 : Int) else 0)) H) := by
  intro pins s σ H x y v u Q I rx ry h
  obtain ⟨i, k, rfl, rfl, q⟩ := h
  obtain ⟨t, rfl⟩ := rx
  cases ry
  exact add_int_bool ⟨.int _, H, I.tok _, ⟨_, rfl⟩, q⟩
theorem op_sub_bi : OpR X (binaryOp .Sub) (fun x y H Q => ∃ i k, x = .bl i ∧ y = .int k ∧ Q (.int ((if i = true then (1 : Int) else 0) - k)) H) := by
  intro pins s σ H x y v u Q I rx ry h
  obtain ⟨i, k, rfl, rfl, q⟩ := h
  cases rx
  obtain ⟨t, rfl⟩ := ry
  exact PySem.IntBool.sub_bool_int ⟨.int _, H, I.tok _, ⟨_, rfl⟩, q⟩
theorem op_sub_ib : OpR X (binaryOp .Sub) (fun x y H Q => ∃ i k, x = .int i ∧ y = .bl k ∧ Q (.int (i - if k = true then (1 : Int) else 0)) H) := by
  intro pins s σ H x y v u Q I rx ry h
  obtain ⟨i, k, rfl, rfl, q⟩ := h
  obtain ⟨t, rfl⟩ := rx
  cases ry
  exact PySem.IntBool.sub_int_bool ⟨.int _, H, I.tok _, ⟨_, rfl⟩, q⟩
theorem tuple_mulA1 (l : Addr) (items : Array Value) (n : Nat) (dd : Option Addr) (sl : Array (Option Value)) (u : Tok) :
    Meets (Builtin.«tuple.__mul__» ⟨[.ref l, .int 1 u], []⟩) (fun _ R s => s.heap.get? l = some { cls := .type "tuple", dict := dd, data := .seq items n, slots := sl } ∧ R (.ok (.ret (Value.ref l))) s) :=
  .of_wp fun prog w A R s h => by
    obtain ⟨hp, g, d, tk, os⟩ := s
    obtain ⟨hl, h⟩ := h
    have f1 := AutoSeq1.idx_int
    wp_walk using wpAny_loadPart' hl
    repeat (first
      | (refine wpAny_ite_false (decide_eq_false (by decide)) ?_; wp_walk using wpAny_loadPart' hl)
      | (refine wpAny_ite_true (decide_eq_true (by simp)) ?_; wp_walk using wpAny_loadPart' hl))
    exact ⟨_, rfl, h⟩
theorem tuple_mulA0 (l : Addr) (items : Array Value) (n : Nat) (dd : Option Addr) (sl : Array (Option Value)) (u : Tok) (hn : items.isEmpty = false) :
    Meets (Builtin.«tuple.__mul__» ⟨[.ref l, .int 0 u], []⟩) (fun _ R s => s.heap.get? l = some { cls := .type "tuple", dict := dd, data := .seq items n, slots := sl } ∧
      R (.ok (.ret (Value.ref s.heap.objs.size))) { s with heap := s.heap.push { cls := Value.type "tuple", data := Data.seq #[] }, toks := s.toks }) :=
  .of_wp fun prog w A R s h => by
    obtain ⟨hp, g, d, tk, os⟩ := s
    obtain ⟨hl, h⟩ := h
    have f1 := AutoSeq1.idx_int
    wp_walk using wpAny_loadPart' hl
    repeat (first
      | (refine wpAny_ite_false (decide_eq_false (by decide)) ?_; wp_walk using wpAny_loadPart' hl)
      | (refine wpAny_ite_false (decide_eq_false (by rw [hn]; decide)) ?_; wp_walk using wpAny_loadPart' hl)
      | (refine wpAny_ite_true (decide_eq_true (by simp)) ?_; wp_walk using wpAny_loadPart' hl))
    exact ⟨_, rfl, h⟩
theorem op_repT1 : OpR X (binaryOp .Mult) (fun x y H Q => ∃ l xs, x = .ref l ∧ y = .int 1 ∧ SqT X.K H l xs ∧ Q x H) := by
  intro pins s σ H x y v u Q I rx ry h
  obtain ⟨l, xs, rfl, rfl, hT, q⟩ := h
  cases rx
  obtain ⟨t, rfl⟩ := ry
  obtain ⟨its, r, ⟨⟨cls, dd, data, sl⟩, ho, hc, n, hd⟩, hs⟩ := I.tuple hT
  simp only at hc hd
  subst hc hd
  refine wpAny_binaryOp_repeat_ref (T := "tuple") (U := "int") (by decide) ⟨_, ho, rfl⟩ (fun s' => typeIs_int s' _ t) noFill_tuple_mul F.fills_int_mul F.slot_int_rmul repeat_tuple F.slot_int_index.lookup
    (call_meets F.slot_int_rmul (typeIs_int s _ t) F.entry_int_rmul (F.args_int_rmul_2 _ _) (int_rmul_tuple _ t l its.toArray n dd sl)
      ⟨ho, rfl, ⟨_, ho, rfl⟩, call_meets F.slot_tuple_mul ⟨_, ho, rfl⟩ F.entry_tuple_mul (F.args_tuple_mul_2 _ _) (tuple_mulA1 l its.toArray n dd sl t) ⟨ho, ?_⟩⟩)
  exact ⟨.ref l, H, I, rfl, q⟩
theorem op_repT0 : OpR X (binaryOp .Mult) (fun x y H Q => ∃ l xs, x = .ref l ∧ y = .int 0 ∧ SqT X.K H l xs ∧ xs ≠ [] ∧ TupQ H Q []) := by
  intro pins s σ H x y v u Q I rx ry h
  obtain ⟨l, xs, rfl, rfl, hT, hne, q⟩ := h
  cases rx
  obtain ⟨t, rfl⟩ := ry
  obtain ⟨its, r, ⟨⟨cls, dd, data, sl⟩, ho, hc, n, hd⟩, hs⟩ := I.tuple hT
  simp only at hc hd
  subst hc hd
  have hle : its.length = xs.length := r.length.symm
  have hn : its ≠ [] := fun e => hne (by
    rw [e] at hle
    exact List.eq_nil_of_length_eq_zero hle.symm)
  have hi : its.toArray.isEmpty = false := by
    cases its with
    | nil => exact absurd rfl hn
    | cons a b => rfl
  refine wpAny_binaryOp_repeat_ref (T := "tuple") (U := "int") (by decide) ⟨_, ho, rfl⟩ (fun s' => typeIs_int s' _ t) noFill_tuple_mul F.fills_int_mul F.slot_int_rmul repeat_tuple F.slot_int_index.lookup
    (call_meets F.slot_int_rmul (typeIs_int s _ t) F.entry_int_rmul (F.args_int_rmul_2 _ _) (int_rmul_tuple _ t l its.toArray n dd sl)
      ⟨ho, rfl, ⟨_, ho, rfl⟩, call_meets F.slot_tuple_mul ⟨_, ho, rfl⟩ F.entry_tuple_mul (F.args_tuple_mul_2 _ _) (tuple_mulA0 l its.toArray n dd sl t hi) ⟨ho, ?_⟩⟩)
  exact madeN (t' := s.toks) I (Nat.zero_le _) .nil q
theorem op_repX : OpR X (binaryOp .Mult) (fun x y H Q => ∃ a k xs, x = .ref a ∧ y = .int k ∧ SqT X.K H a xs ∧ xs ≠ [] ∧ 0 ≤ k ∧ k ≤ 1000 ∧ xs.length ≤ 1000 ∧ (k = 1 → Q x H) ∧ TupQ H Q (List.replicate k.toNat xs).flatten) := by
  intro pins s σ H x y v u Q I rx ry h
  obtain ⟨a, k, xs, ex, ey, hT, hne, k0, k1, hz, q1, q⟩ := h
  by_cases c0 : k = 0
  · subst c0
    exact op_repT0 pins s σ H _ _ v u Q I rx ry ⟨a, xs, ex, ey, hT, hne, q⟩
  · by_cases c1 : k = 1
    · subst c1
      exact op_repT1 pins s σ H _ _ v u Q I rx ry ⟨a, xs, ex, ey, hT, q1 rfl⟩
    · exact op_repN pins s σ H _ _ v u Q I rx ry ⟨a, k, xs, ex, ey, hT, hne, by omega, k1, hz, q⟩
theorem op_bin (o : Operator) : OpR X (binaryOp o) (rBin X.K o) := by
  intro pins s σ H x y v u Q I rx ry ⟨S, p, q, d, hp, hq, hd, hQ⟩
  unfold binD at hd
  split at hd
  · -- ints
    cases hd
    have e1 := hp.int_inv; have e2 := hq.int_inv; subst e1 e2
    exact op_add pins s σ H _ _ v u Q I rx ry ⟨_, _, rfl, rfl, hQ _ _ (.old (.int _))⟩
  · split at hd
    · rename_i hf
      cases hd
      have e1 := hp.str_inv; have e2 := hq.str_inv; subst e1 e2
      exact op_add_str pins s σ H _ _ v u Q I rx ry ⟨_, _, rfl, rfl, fits_line hf, hQ _ _ (.old (.str _))⟩
    · cases hd
  · split at hd
    · rename_i hf
      cases hd
      obtain ⟨a, xs, rfl, ha, ra⟩ := hp.tuple_inv
      obtain ⟨b, ys, rfl, hb, rb⟩ := hq.tuple_inv
      have hz := fits_line hf
      rw [← ra.length, ← rb.length] at hz
      refine op_catN pins s σ H _ _ v u Q I rx ry ⟨a, b, xs, ys, rfl, rfl, ha.sq, hb.sq, hz, fun e => ?_, fun _ e => ?_, fun _ _ r ob hr hdn => ?_⟩
      · subst e; cases ra; exact hQ _ _ (.old (.tup hb rb))
      · subst e; cases rb
        refine hQ _ _ (.old ?_)
        rw [List.append_nil]; exact .tup ha ra
      · exact hQ _ _ (Mk.tuple hr hdn (ra.append rb))
    · cases hd
  · split at hd
    · rename_i hf
      cases hd
      obtain ⟨a, xs, rfl, ha, ra⟩ := hp.list_inv
      obtain ⟨b, ys, rfl, hb, rb⟩ := hq.list_inv
      have hz := fits_line hf
      rw [← ra.length, ← rb.length] at hz
      exact op_catR pins s σ H _ _ v u Q I rx ry ⟨_, _, a, b, xs, ys, rfl, rfl, ha, hb, hz, fun r hr => hQ _ _ (Mk.list hr (ra.append rb))⟩
    · cases hd
  · cases hd
    have e1 := hp.int_inv; have e2 := hq.int_inv; subst e1 e2
    exact op_sub pins s σ H _ _ v u Q I rx ry ⟨_, _, rfl, rfl, hQ _ _ (.old (.int _))⟩
  · split at hd
    · rename_i hf
      cases hd
      have e1 := hp.int_inv; have e2 := hq.int_inv; subst e1 e2
      exact op_mulW pins s σ H _ _ v u Q I rx ry ⟨_, _, rfl, rfl, mulOk_W hf, hQ _ _ (.old (.int _))⟩
    · cases hd
  · split at hd
    · rename_i hf
      cases hd
      rw [Bool.and_eq_true] at hf
      obtain ⟨a, xs, rfl, ha, ra⟩ := hp.list_inv
      have e2 := hq.int_inv; subst e2
      have hz := fits_line hf.2
      have hr := rngOk_b hf.1
      rw [← ra.length] at hz
      exact op_repR pins s σ H _ _ v u Q I rx ry ⟨_, a, _, xs, rfl, rfl, ha, by omega, by omega, hz, fun r hr => hQ _ _ (Mk.list hr (ra.replicate _))⟩
    · cases hd
  · split at hd
    · rename_i hf
      cases hd
      rw [Bool.and_eq_true, Bool.and_eq_true, Bool.and_eq_true] at hf
      obtain ⟨a, xs, rfl, ha, ra⟩ := hp.tuple_inv
      have e2 := hq.int_inv; subst e2
      have hz := of_decide_eq_true hf.2
      rw [← ra.length] at hz
      have hne : xs ≠ [] := fun e => by
        subst e
        cases ra
        simp at hf
      refine op_repX pins s σ H _ _ v u Q I rx ry ⟨a, _, xs, rfl, rfl, ha.sq, hne, of_decide_eq_true hf.1.1.1, of_decide_eq_true hf.1.1.2, hz, fun e => hQ _ _ (.old ?_), fun r ob hr hdn => hQ _ _ (Mk.tuple hr hdn (ra.replicate _))⟩
      have e2 : ∀ (l : List PyData), (List.replicate (1 : Int).toNat l).flatten = l := fun l => by
        show (List.replicate 1 l).flatten = l
        simp
      rw [e, e2]
      exact .tup ha ra
    · cases hd
  · split at hd
    · rename_i hf
      cases hd
      have e1 := hp.int_inv; have e2 := hq.int_inv; subst e1 e2
      exact op_fdivZ pins s σ H _ _ v u Q I rx ry ⟨_, _, rfl, rfl, hf, hQ _ _ (.old (.int _))⟩
    · cases hd
  · split at hd
    · rename_i hf
      cases hd
      have e1 := hp.int_inv; have e2 := hq.int_inv; subst e1 e2
      exact op_modN pins s σ H _ _ v u Q I rx ry ⟨_, _, rfl, rfl, of_decide_eq_true hf, hQ _ _ (.old (.int _))⟩
    · cases hd
  · split at hd
    · rename_i hf
      cases hd
      rw [Bool.and_eq_true, Bool.and_eq_true] at hf
      have e1 := hp.int_inv; have e2 := hq.int_inv; subst e1 e2
      exact op_pow pins s σ H _ _ v u Q I rx ry ⟨_, _, rfl, rfl, ⟨of_decide_eq_true hf.1.1, of_decide_eq_true hf.1.2, of_decide_eq_true hf.2⟩, hQ _ _ (.old (.int _))⟩
    · cases hd
  · split at hd
    · rename_i hf
      cases hd
      rw [Bool.and_eq_true, Bool.and_eq_true, Bool.and_eq_true] at hf
      have e1 := hp.str_inv; have e2 := hq.int_inv; subst e1 e2
      exact op_mul_st pins s σ H _ _ v u Q I rx ry ⟨_, _, rfl, rfl, of_decide_eq_true hf.1.1.1, of_decide_eq_true hf.1.1.2, of_decide_eq_true hf.1.2, of_decide_eq_true hf.2, hQ _ _ (.old (.str _))⟩
    · cases hd
  · cases hd
    have e1 := hp.bool_inv; have e2 := hq.int_inv; subst e1 e2
    exact op_add_bi pins s σ H _ _ v u Q I rx ry ⟨_, _, rfl, rfl, hQ _ _ (.old (.int _))⟩
  · cases hd
    have e1 := hp.int_inv; have e2 := hq.bool_inv; subst e1 e2
    exact op_add_ibz pins s σ H _ _ v u Q I rx ry ⟨_, _, rfl, rfl, hQ _ _ (.old (.int _))⟩
  · cases hd
    have e1 := hp.bool_inv; have e2 := hq.int_inv; subst e1 e2
    exact op_sub_bi pins s σ H _ _ v u Q I rx ry ⟨_, _, rfl, rfl, hQ _ _ (.old (.int _))⟩
  · cases hd
    have e1 := hp.int_inv; have e2 := hq.bool_inv; subst e1 e2
    exact op_sub_ib pins s σ H _ _ v u Q I rx ry ⟨_, _, rfl, rfl, hQ _ _ (.old (.int _))⟩
  · cases hd
end
end DE
end

section
set_option Elab.async false
set_option linter.all false
/-! DE5: comparisons, items, slices, built-in functions by values. -/
namespace DE
open PySem PySem.Spec PyProof.Rows L2

section
variable {K : PySem.W.Frag} {H H' : Hp} {S : Addr → Prop}
theorem any_eqv (ds : List PyData) (x : PyData) : (ds.any fun z => PyData.eqv z x) = ds.any fun z => PyData.eqv z x := rfl
end

section
variable {X : Cx}
theorem inT_ok {X : Cx} (hu : X.A.units + 65 < cLine) {k : Bool} {p : PyData} {qs : List PyData} {S S' : Addr → Prop} {pins : List (Addr × Obj)} {s : Shared} {σ : L2.St} {H : Hp} {x y : V} {v u : Value} {Q : VK} (I : Inv X pins σ H s) (rx : RelV x v) (ry : RelV y u)
    (hp : Rp X.K H S x p) (hq : Rp X.K H S' y (.tuple qs)) (hk : inT p qs = some k) (hQ : Q (.bl k) H) : wpAny (model X.prog X.w) X.A (compareOp .In v u) (EP X pins σ Q) X.xe s := by
  unfold inT at hk
  split at hk
  · rename_i hs
    cases hk
    rw [Bool.and_eq_true] at hs
    obtain ⟨as, r1⟩ := Dp.reads I p x v hp.dp rx
    obtain ⟨bs, r2⟩ := Dp.reads I (.tuple qs) y u hq.dp ry
    exact SeqAt.in_tuple_reads r2 r1 (SeqAt.canLay_of_shaped hs.2) (SeqAt.canLay_of_shaped hs.1) (room_in_shaped hs.1 hu) ⟨.bl _, H, I, rfl, hQ⟩
  · cases hk
theorem notInT_ok {X : Cx} (hu : X.A.units + 65 < cLine) {k : Bool} {p : PyData} {qs : List PyData} {S S' : Addr → Prop} {pins : List (Addr × Obj)} {s : Shared} {σ : L2.St} {H : Hp} {x y : V} {v u : Value} {Q : VK} (I : Inv X pins σ H s) (rx : RelV x v) (ry : RelV y u)
    (hp : Rp X.K H S x p) (hq : Rp X.K H S' y (.tuple qs)) (hk : (inT p qs).map (!·) = some k) (hQ : Q (.bl k) H) : wpAny (model X.prog X.w) X.A (compareOp .NotIn v u) (EP X pins σ Q) X.xe s := by
  unfold inT at hk
  split at hk
  · rename_i hs
    cases hk
    rw [Bool.and_eq_true] at hs
    obtain ⟨as, r1⟩ := Dp.reads I p x v hp.dp rx
    obtain ⟨bs, r2⟩ := Dp.reads I (.tuple qs) y u hq.dp ry
    exact SeqAt.notIn_tuple_reads r2 r1 (SeqAt.canLay_of_shaped hs.2) (SeqAt.canLay_of_shaped hs.1) (room_in_shaped hs.1 hu) ⟨.bl _, H, I, rfl, hQ⟩
  · cases hk
theorem sign_of {x : Str} {c : Nat} (h : x.cps.toList = [c]) : x = ⟨#[c]⟩ := by
  cases x with
  | mk a =>
    have e : a = #[c] := Array.toList_inj.mp (by simpa using h)
    rw [e]
/-- a comparison by two values, in data -/
def rCmp (K : PySem.W.Frag) (o : CmpOp) : R2 := fun x y H Q => ∃ (S S' : Addr → Prop) (p q : PyData) (k : Bool), Rp K H S x p ∧ Rp K H S' y q ∧ cmpD o p q = some k ∧ Q (.bl k) H
theorem op_cmp (o : CmpOp) (hu : X.A.units + 65 < cLine) : OpR X (compareOp o) (rCmp X.K o) := by
  intro pins s σ H x y v u Q I rx ry ⟨S, S', p, q, k, hp, hq, hk, hQ⟩
  unfold cmpD at hk
  split at hk
  · split at hk
    · rename_i hs
      cases hk
      rw [Bool.and_eq_true] at hs
      exact op_eqD (by omega) pins s σ H x y v u Q I rx ry ⟨_, _, hp.dp, hq.dp, hs.1, hs.2, hQ⟩
    · cases hk
  · split at hk
    · rename_i hs
      cases hk
      rw [Bool.and_eq_true] at hs
      exact op_neD (by omega) pins s σ H x y v u Q I rx ry ⟨_, _, hp.dp, hq.dp, hs.1, hs.2, hQ⟩
    · cases hk
  · cases hk
    have e1 := hp.int_inv; have e2 := hq.int_inv; subst e1 e2
    exact op_lt pins s σ H _ _ v u Q I rx ry ⟨_, _, rfl, rfl, hQ⟩
  · cases hk
    have e1 := hp.int_inv; have e2 := hq.int_inv; subst e1 e2
    exact op_le pins s σ H _ _ v u Q I rx ry ⟨_, _, rfl, rfl, hQ⟩
  · cases hk
    have e1 := hp.int_inv; have e2 := hq.int_inv; subst e1 e2
    exact op_gt pins s σ H _ _ v u Q I rx ry ⟨_, _, rfl, rfl, hQ⟩
  · cases hk
    have e1 := hp.int_inv; have e2 := hq.int_inv; subst e1 e2
    exact op_ge pins s σ H _ _ v u Q I rx ry ⟨_, _, rfl, rfl, hQ⟩
  · split at hk
    · rename_i hs
      cases hk
      unfold ltOk at hs
      rw [Bool.and_eq_true] at hs
      have hz := of_decide_eq_true hs.2
      obtain ⟨as, r1⟩ := Dp.reads I _ x v hp.dp rx
      obtain ⟨bs, r2⟩ := Dp.reads I _ y u hq.dp ry
      exact PySem.W.lt_data r1 r2 hs.1 (fun z => by cases z) (by omega) ⟨.bl _, H, I, rfl, hQ⟩
    · cases hk
  · unfold inS at hk
    split at hk
    · rename_i c hc
      cases hk
      have e1 := hp.str_inv; have e2 := hq.str_inv; subst e1 e2
      have ec := sign_of hc
      subst ec
      exact op_in_sign pins s σ H _ _ v u Q I rx ry ⟨_, _, rfl, rfl, hQ⟩
    · cases hk
  · unfold inS at hk
    split at hk
    · rename_i c hc
      cases hk
      have e1 := hp.str_inv; have e2 := hq.str_inv; subst e1 e2
      have ec := sign_of hc
      subst ec
      exact op_notIn_sign pins s σ H _ _ v u Q I rx ry ⟨_, _, rfl, rfl, hQ⟩
    · cases hk
  · exact inT_ok hu I rx ry hp hq hk hQ
  · exact notInT_ok hu I rx ry hp hq hk hQ
  · unfold inD at hk
    split at hk
    · rename_i hs
      cases hk
      rw [Bool.and_eq_true] at hs
      exact op_inD hu pins s σ H x y v u Q I rx ry ⟨_, _, hp.dp, hq.dp, hs.1, hs.2, hQ⟩
    · cases hk
  · unfold inD at hk
    split at hk
    · rename_i hs
      cases hk
      rw [Bool.and_eq_true] at hs
      exact op_notInD hu pins s σ H x y v u Q I rx ry ⟨_, _, hp.dp, hq.dp, hs.1, hs.2, hQ⟩
    · cases hk
  · cases hk
    have e1 := hp.bool_inv; have e2 := hq.bool_inv; subst e1 e2
    exact op_is_bl pins s σ H _ _ v u Q I rx ry ⟨_, _, rfl, rfl, hQ⟩
  · cases hk
    have e1 := hp.bool_inv; have e2 := hq.bool_inv; subst e1 e2
    exact op_isnot_bl pins s σ H _ _ v u Q I rx ry ⟨_, _, rfl, rfl, hQ⟩
  · cases hk

/-- an item, in data -/
def rIxP (K : PySem.W.Frag) : R2 := fun x y H Q => ∃ (S : Addr → Prop) (p q : PyData) (i : Int), y = .int i ∧ Rp K H S x p ∧ ixD p i = some q ∧ ∀ v, Rp K H S v q → Q v H
theorem ix_data : IxR X (rIxP X.K) := by
  intro ve se pins s σ H x y v u Q I rx ry ⟨S, p, q, i, ey, hp, hi, hQ⟩ plain
  subst ey
  cases p with
  | list ds =>
    obtain ⟨a, vs, rfl, ha, ra⟩ := hp.list_inv
    obtain ⟨w, hw, rw'⟩ := ra.atI (d := q) hi
    exact ix_list ve se pins s σ H _ _ v u Q I rx ry ⟨a, vs, i, w, rfl, rfl, ha.seq, hw, hQ w rw'⟩ plain
  | tuple ds =>
    obtain ⟨a, vs, rfl, ha, ra⟩ := hp.tuple_inv
    obtain ⟨w, hw, rw'⟩ := ra.atI (d := q) hi
    exact ix_tup ve se pins s σ H _ _ v u Q I rx ry ⟨a, vs, i, w, rfl, rfl, ha.sq, hw, hQ w rw'⟩ plain
  | str z =>
    have e1 := hp.str_inv
    subst e1
    unfold ixD at hi
    dsimp only at hi
    split at hi
    · rename_i hf
      obtain ⟨c, hc, rfl⟩ := Option.map_eq_some_iff.mp hi
      exact ix_str ve se pins s σ H _ _ v u Q I rx ry ⟨z, i, c, rfl, rfl, fits_line hf, hc, hQ _ (.str _)⟩ plain
    · cases hi
  | _ => simp [ixD] at hi
/-- an item of a list that is owned -/
def rIxO : R2 := fun x y H Q => ∃ (a : Addr) (vs : List V) (i : Int) (w : V), x = .ref a ∧ y = .int i ∧ H a = some (.lst vs) ∧ L2.atI vs i = some w ∧ Q w H
theorem ix_own : IxR X rIxO := by
  intro ve se pins s σ H x y v u Q I rx ry ⟨a, vs, i, w, ex, ey, ha, hw, hQ⟩ plain
  exact ix_list ve se pins s σ H x y v u Q I rx ry ⟨a, vs, i, w, ex, ey, SqL.of ha, hw, hQ⟩ plain

/-- a slice, in data -/
def rSlP (K : PySem.W.Frag) : V → Option Int → Option Int → Hp → VK → Prop := fun x lo hi H Q => ∃ (S : Addr → Prop) (p : PyData) (d : D), Rp K H S x p ∧ slV (.dat p) lo hi = some d ∧ ∀ v H', Mk K H S d v H' → Q v H'
theorem sl_data : SlR X (rSlP X.K) := by
  intro pins s σ H x v vl vu lo hi sl Q I rx hs pl pu ⟨S, p, d, hp, hd, hQ⟩
  unfold slV at hd
  simp only [D.fz] at hd
  split at hd
  · rename_i z e
    split at hd
    · rename_i hf
      cases hd
      cases e
      have e1 := hp.str_inv; subst e1
      exact sl_str pins s σ H _ v vl vu lo hi sl Q I rx hs pl pu ⟨z, rfl, fits_line hf, hQ _ _ (.old (.str _))⟩
    · cases hd
  · rename_i ds e
    cases hd
    cases e
    obtain ⟨a, vs, rfl, ha, ra⟩ := hp.list_inv
    exact sl_list pins s σ H _ v vl vu lo hi sl Q I rx hs pl pu ⟨a, vs, rfl, ha.seq, fun r hr => hQ _ _ (Mk.list hr (ra.cut lo hi))⟩
  · rename_i ds e
    cases hd
    cases e
    obtain ⟨a, vs, rfl, ha, ra⟩ := hp.tuple_inv
    refine sl_tupN pins s σ H _ v vl vu lo hi sl Q I rx hs pl pu ⟨a, vs, rfl, ha.sq, fun w => ?_, fun _ r ob hr hdn => hQ _ _ (Mk.tuple hr hdn (ra.cut lo hi))⟩
    have e : cutL ds lo hi = ds := by
      unfold cutL
      rw [← ra.length, w.1, w.2, List.drop_zero, Nat.sub_zero, ra.length, List.take_length]
    refine hQ _ _ (.old ?_)
    rw [e]
    exact .tup ha ra
  · cases hd

/-! built-in functions -/
theorem maxL_mem : ∀ {ns : List Int} {m : Int}, maxL ns = some m → m ∈ ns ∧ ∀ y ∈ ns, y ≤ m
  | [], _, h => by simp [maxL] at h
  | [a], m, h => by
    simp only [maxL, Option.some.injEq] at h
    subst h
    simp
  | a :: b :: r, m, h => by
    simp only [maxL] at h
    obtain ⟨c, h1, h2⟩ := Option.map_eq_some_iff.mp h
    obtain ⟨k1, k2⟩ := maxL_mem (ns := b :: r) (m := c) (by simpa only [maxL] using h1)
    split at h2
    · subst h2
      refine ⟨List.mem_cons_of_mem _ k1, fun y hy => ?_⟩
      rcases List.mem_cons.mp hy with e | hy
      · omega
      · exact k2 y hy
    · subst h2
      refine ⟨List.mem_cons_self, fun y hy => ?_⟩
      rcases List.mem_cons.mp hy with e | hy
      · omega
      · have := k2 y hy; omega
theorem minL_mem : ∀ {ns : List Int} {m : Int}, minL ns = some m → m ∈ ns ∧ ∀ y ∈ ns, m ≤ y
  | [], _, h => by simp [minL] at h
  | [a], m, h => by
    simp only [minL, Option.some.injEq] at h
    subst h
    simp
  | a :: b :: r, m, h => by
    simp only [minL] at h
    obtain ⟨c, h1, h2⟩ := Option.map_eq_some_iff.mp h
    obtain ⟨k1, k2⟩ := minL_mem (ns := b :: r) (m := c) (by simpa only [minL] using h1)
    split at h2
    · subst h2
      refine ⟨List.mem_cons_of_mem _ k1, fun y hy => ?_⟩
      rcases List.mem_cons.mp hy with e | hy
      · omega
      · exact k2 y hy
    · subst h2
      refine ⟨List.mem_cons_self, fun y hy => ?_⟩
      rcases List.mem_cons.mp hy with e | hy
      · omega
      · have := k2 y hy; omega
theorem RpL.one {K : PySem.W.Frag} {H : Hp} {S : Addr → Prop} {vs : List V} {p : PyData} (h : RpL K H S vs [p]) : ∃ v, vs = [v] ∧ Rp K H S v p := by
  cases h with | cons r t => cases t; exact ⟨_, rfl, r⟩
theorem RpL.two {K : PySem.W.Frag} {H : Hp} {S : Addr → Prop} {vs : List V} {p q : PyData} (h : RpL K H S vs [p, q]) : ∃ v w, vs = [v, w] ∧ Rp K H S v p ∧ Rp K H S w q := by
  cases h with | cons r t => cases t with | cons r' t' => cases t'; exact ⟨_, _, rfl, r, r'⟩
/-- repr of data -/
theorem repr_data {pins : List (Addr × Obj)} {s : Shared} {σ : L2.St} {H : Hp} {S : Addr → Prop} {v : V} {u : Value} {d : PyData} {Q : VK} (I : Inv X pins σ H s) (hp : Rp X.K H S v d) (r : RelV v u) (hs : d.showable = true) (hnd : d.hasDict = false)
    (hg : X.A.guards = some []) (hu : X.A.units + (d.depth + 1) < cLine) (hz : d.shown.length ≤ sizeLine) (hQ : Q (.str d.shown) H) : wpAny (model X.prog X.w) X.A (call (.builtin "repr") [u]) (EP X pins σ Q) X.xe s := by
  cases d with
  | none =>
    cases hp.none_inv
    cases r
    exact PySem.P.repr_of_none ⟨.str "None", H, I.tok _, ⟨_, rfl⟩, hQ⟩
  | bool b =>
    cases hp.bool_inv
    cases r
    exact PySem.P.repr_of_bool ⟨.str (if b then "True" else "False"), H, I.tok _, ⟨_, by cases b <;> rfl⟩, by cases b <;> exact hQ⟩
  | int i =>
    cases hp.int_inv
    obtain ⟨t, rfl⟩ := r
    have hi : i.natAbs.log2 < 1920 := by simpa [PyData.showable] using hs
    exact PySem.P.repr_of_int hi ⟨.str (toString i), H, I.tok _, ⟨_, rfl⟩, hQ⟩
  | str z =>
    cases hp.str_inv
    obtain ⟨t, rfl⟩ := r
    exact PySem.P.repr_of_str ⟨.str (reprText z), H, I.tok _, ⟨_, rfl⟩, hQ⟩ hz
  | list ds =>
    obtain ⟨a, vs, rfl, _, _⟩ := hp.list_inv
    obtain ⟨as, rd⟩ := Dp.reads I _ _ u hp.dp r
    cases r
    exact repr_of_reads' rd hs (fun h => by rw [hnd] at h; cases h) hg hu (fun _ _ e => e) (fun h' t tk k => ⟨.str _, H, I.kept k, ⟨_, rfl⟩, hQ⟩) hz
  | tuple ds =>
    obtain ⟨a, vs, rfl, _, _⟩ := hp.tuple_inv
    obtain ⟨as, rd⟩ := Dp.reads I _ _ u hp.dp r
    cases r
    exact repr_of_reads' rd hs (fun h => by rw [hnd] at h; cases h) hg hu (fun _ _ e => e) (fun h' t tk k => ⟨.str _, H, I.kept k, ⟨_, rfl⟩, hQ⟩) hz
  | dict ds => exact hp.dict_inv.elim
end
end DE
end

section
set_option Elab.async false
set_option linter.all false
/-! DE6: built-in functions and types by values. -/
namespace DE
open PySem PySem.Spec PyProof.Rows L2
section
variable {X : Cx}
/-- a built-in function that reads data -/
def rBiV (K : PySem.W.Frag) (f : List PyData → Option PyData) : List V → Hp → VK → Prop := fun xs H Q => ∃ (S : Addr → Prop) (ps : List PyData) (d : PyData), RpL K H S xs ps ∧ f ps = some d ∧ ∀ v S', Rp K H S' v d → Q v H
/-- one that makes a thing of them -/
def rBiF (K : PySem.W.Frag) (f : List PyData → Option D) : List V → Hp → VK → Prop := fun xs H Q => ∃ (S : Addr → Prop) (ps : List PyData) (d : D), RpL K H S xs ps ∧ f ps = some d ∧ ∀ v H', Mk K H S d v H' → Q v H'
theorem cb_len : CallR X (.builtin "len") (rBiV X.K lenD) := by
  intro pins s σ H xs us Q I r ⟨S, ps, d, hp, hd, hQ⟩
  unfold lenD at hd
  split at hd
  · cases hd
    obtain ⟨v, rfl, rv⟩ := hp.one
    obtain ⟨a, vs, rfl, ha, ra⟩ := rv.list_inv
    rw [← ra.length] at hQ
    exact call_len pins s σ H _ us Q I r ⟨_, vs.length, rfl, .inl ⟨vs, ha.seq, rfl⟩, hQ _ S (.int _)⟩
  · cases hd
    obtain ⟨v, rfl, rv⟩ := hp.one
    obtain ⟨a, vs, rfl, ha, ra⟩ := rv.tuple_inv
    rw [← ra.length] at hQ
    exact call_len pins s σ H _ us Q I r ⟨_, vs.length, rfl, .inr ⟨vs, ha.sq, rfl⟩, hQ _ S (.int _)⟩
  · split at hd
    · rename_i hf
      cases hd
      obtain ⟨v, rfl, rv⟩ := hp.one
      have e := rv.str_inv
      subst e
      exact call_len pins s σ H _ us Q I r ⟨_, _, rfl, ⟨fits_line hf, rfl⟩, hQ _ S (.int _)⟩
    · cases hd
  · cases hd
theorem IsTup.of {h : Heap} {a : Addr} {its : List Value} (p : h.IsTuple a its.toArray) : h.IsTuple a its.toArray := p
theorem sum_rawT {prog : Program} {w : World} {A : Around} {E : Value → Shared → Prop} {s : Shared} {l : Addr} {its : List Value} {ns : List Int} {Q : Value → Shared → Prop} (hh : A.handled = none) (hl : s.heap.IsTuple l its.toArray) (hi : IntsAre its ns)
    (h : ∀ h' tk t', (∀ b o, s.heap.get? b = some o → h'.get? b = some o) → Q (.int ns.sum t') { s with heap := h', toks := tk }) : wpAny (model prog w) A (call (.builtin "sum") [.ref l]) Q E s := by
  obtain ⟨xs, e⟩ := hi.allInts.items
  have hn : numsOf (intItems xs).toList = ns := by rw [← e]; exact hi.numsOf
  rw [nums_intItems] at hn
  rw [e] at hl
  have hlt : l < s.heap.objs.size := by obtain ⟨_, e, _⟩ := hl; exact Heap.lt_size e
  refine call_sum_walkG (wpAny_pyIter_tuple hl ?_)
  refine ⟨_, _, _, _, _, _, numAt xs, rfl, Walks.tuple (A := A.in1) hh _ l (Nat.ne_of_lt hlt) (intItems xs), ⟨⟨_, Heap.get?_push_size _ rfl, rfl, rfl⟩, hl.push _⟩, (fun b hb => ?_), (fun _ _ => intItems_at), fun h' tk t' hk => ?_⟩
  · show b < (s.heap.push _).objs.size
    rw [Heap.size_push]
    rcases List.mem_cons.mp hb with rfl | hb
    · exact Nat.lt_succ_self _
    · rw [List.mem_singleton.mp hb]; exact Nat.lt_succ_of_lt hlt
  · have := h h' tk t' (fun b o e => hk b o (fun hb => by
      have z : b = s.heap.objs.size := List.mem_singleton.mp hb
      exact absurd z (Nat.ne_of_lt (Heap.lt_size e))) (Heap.get?_push_of_some _ e))
    rw [preSum_eq, List.take_of_length_le (by simp [intItems]), hn]; exact this
theorem fold_max : ∀ (ns : List Int) (a : Int), maxL (a :: ns) = some (ns.foldl max a)
  | [], a => rfl
  | b :: r, a => by
    have ih := fold_max r b
    rw [maxL, ih, Option.map_some, List.foldl_cons]
    have key : ∀ (r : List Int) (a b : Int), (if a < r.foldl max b then r.foldl max b else a) = r.foldl max (max a b) := by
      intro r
      induction r with
      | nil => intro a b; by_cases h : a < b <;> by_cases h' : b < a <;> simp [h, h'] <;> omega
      | cons c r ih =>
        intro a b
        have e := ih a (max b c)
        have e2 : max a (max b c) = max (max a b) c := by omega
        rw [e2] at e
        exact e
    rw [key r a b]
    intro h; cases h
theorem fold_min : ∀ (ns : List Int) (a : Int), minL (a :: ns) = some (ns.foldl min a)
  | [], a => rfl
  | b :: r, a => by
    have ih := fold_min r b
    rw [minL, ih, Option.map_some, List.foldl_cons]
    have key : ∀ (r : List Int) (a b : Int), (if r.foldl min b < a then r.foldl min b else a) = r.foldl min (min a b) := by
      intro r
      induction r with
      | nil => intro a b; by_cases h : a < b <;> by_cases h' : b < a <;> simp [h, h'] <;> omega
      | cons c r ih =>
        intro a b
        have e := ih a (min b c)
        have e2 : min a (min b c) = min (min a b) c := by omega
        rw [e2] at e
        exact e
    rw [key r a b]
    intro h; cases h
theorem intsL_map : ∀ {xs : List PyData} {ns : List Int}, intsL xs = some ns → xs = ns.map .int
  | [], _, e => by simp only [intsL, Option.some.injEq] at e; subst e; rfl
  | x :: r, ns, e => by
    cases x <;> simp only [intsL] at e <;> try cases e
    obtain ⟨ms, h1, h2⟩ := Option.map_eq_some_iff.mp e
    subst h2
    rw [intsL_map h1]; rfl
theorem alike_intsL (ns : List Int) : PySem.W.AllAlike (ns.map PyData.int) := fun d hd d' hd' => by
  obtain ⟨_, _, rfl⟩ := List.mem_map.mp hd
  obtain ⟨_, _, rfl⟩ := List.mem_map.mp hd'
  rfl
theorem depthAll_ints : ∀ ns : List Int, PyData.depthAll (ns.map PyData.int) = 0
  | [] => by simp [PyData.depthAll]
  | n :: ns => by rw [List.map_cons, PyData.depthAll, depthAll_ints ns]; rfl
theorem tup_reads {X : Cx} {pins : List (Addr × Obj)} {s : Shared} {σ : L2.St} {H : Hp} {S : Addr → Prop} {v : V} {ds : List PyData} (I : Inv X pins σ H s) (hp : Rp X.K H S v (.tuple ds)) : ∃ (a : Addr) (its : List Value) (as : List Addr), v = .ref a ∧ s.heap.IsTuple a its.toArray ∧ PySem.ReadsAll s.heap its ds as := by
  obtain ⟨a, vs, rfl, ha, ra⟩ := hp.tuple_inv
  obtain ⟨its, rv, p, _⟩ := I.tuple ha.sq
  obtain ⟨as, h4⟩ := Dp.readsAll I ds _ its (RpL.dp ra) rv
  exact ⟨a, its, as, rfl, p, h4⟩
theorem cb_sum (hc : X.calm = true) : CallR X (.builtin "sum") (rBiV X.K sumD) := by
  intro pins s σ H xs us Q I r ⟨S, ps, d, hp, hd, hQ⟩
  unfold sumD at hd
  split at hd
  · obtain ⟨ns, e1, e2⟩ := Option.map_eq_some_iff.mp hd
    subst e2
    obtain ⟨v, rfl, rv⟩ := hp.one
    obtain ⟨a, vs, rfl, ha, ra⟩ := rv.list_inv
    have e := ra.ints e1
    subst e
    exact cr_sum hc pins s σ H _ us Q I r ⟨a, ns, rfl, ha.seq, hQ _ S (.int _)⟩
  · obtain ⟨ns, e1, e2⟩ := Option.map_eq_some_iff.mp hd
    subst e2
    obtain ⟨v, rfl, rv⟩ := hp.one
    obtain ⟨a, vs, rfl, ha, ra⟩ := rv.tuple_inv
    have e := ra.ints e1
    subst e
    obtain ⟨its, rv', p, _⟩ := I.tuple ha.sq
    rw [Vals.ref1 r]
    exact sum_rawT (I.ok.hd hc) p (Vals.ints rv') fun h' tk t' hk => ⟨.int _, H, I.kept hk, ⟨_, rfl⟩, hQ _ S (.int _)⟩
  · cases hd
theorem cb_max (hu : X.A.units + 65 < cLine) (hc : X.calm = true) : CallR X (.builtin "max") (rBiV X.K maxD) := by
  intro pins s σ H xs us Q I r ⟨S, ps, d, hp, hd, hQ⟩
  unfold maxD at hd
  split at hd
  · obtain ⟨ns, e1, e2⟩ := Option.bind_eq_some_iff.mp hd
    obtain ⟨m, e3, e4⟩ := Option.map_eq_some_iff.mp e2
    subst e4
    obtain ⟨v, rfl, rv⟩ := hp.one
    obtain ⟨a, vs, rfl, ha, ra⟩ := rv.list_inv
    have e := ra.ints e1
    subst e
    obtain ⟨k1, k2⟩ := maxL_mem e3
    refine cr_max hc pins s σ H _ us Q I r ⟨a, ns, rfl, ha.seq, List.length_pos_of_mem k1, fun m' h1 h2 => ?_⟩
    have e : m' = m := by have := k2 m' h1; have := h2 m k1; omega
    subst e
    exact hQ _ S (.int _)
  · obtain ⟨ns, e1, e2⟩ := Option.bind_eq_some_iff.mp hd
    obtain ⟨m, e3, e4⟩ := Option.map_eq_some_iff.mp e2
    subst e4
    obtain ⟨v, rfl, rv⟩ := hp.one
    have ex := intsL_map e1
    subst ex
    obtain ⟨a, its, as, rfl, p, h4⟩ := tup_reads I rv
    rw [Vals.ref1 r]
    cases ns with
    | nil => cases e3
    | cons n ns =>
      rw [fold_max, Option.some.injEq] at e3
      refine PySem.W.max_tuple_data (I.ok.hd hc) p (x := .int n) (xs := ns.map .int) h4 ⟨fun x hx y hy => alike_intsL (n :: ns) x hx y hy, fun x hx => by
        obtain ⟨_, _, rfl⟩ := List.mem_map.mp (show x ∈ List.map PyData.int (n :: ns) from hx)
        intro z; cases z⟩ (by
        have := depthAll_ints (n :: ns)
        rw [List.map_cons] at this
        rw [this]; omega) fun i v h' tk bs hv hr hk => ?_
      rw [PySem.W.maxD_ints, e3] at hr
      cases hr with
      | int t => exact ⟨.int _, H, I.kept hk, ⟨_, rfl⟩, hQ _ S (.int _)⟩
  · cases hd
    obtain ⟨v, w, rfl, rv, rw'⟩ := hp.two
    have e1 := rv.int_inv; have e2 := rw'.int_inv; subst e1 e2
    exact call_max2 hc pins s σ H _ us Q I r ⟨_, _, rfl, hQ _ S (.int _)⟩
  · cases hd
theorem cb_min (hu : X.A.units + 65 < cLine) (hc : X.calm = true) : CallR X (.builtin "min") (rBiV X.K minD) := by
  intro pins s σ H xs us Q I r ⟨S, ps, d, hp, hd, hQ⟩
  unfold minD at hd
  split at hd
  · obtain ⟨ns, e1, e2⟩ := Option.bind_eq_some_iff.mp hd
    obtain ⟨m, e3, e4⟩ := Option.map_eq_some_iff.mp e2
    subst e4
    obtain ⟨v, rfl, rv⟩ := hp.one
    obtain ⟨a, vs, rfl, ha, ra⟩ := rv.list_inv
    have e := ra.ints e1
    subst e
    obtain ⟨k1, k2⟩ := minL_mem e3
    refine cr_min hc pins s σ H _ us Q I r ⟨a, ns, rfl, ha.seq, List.length_pos_of_mem k1, fun m' h1 h2 => ?_⟩
    have e : m' = m := by have := k2 m' h1; have := h2 m k1; omega
    subst e
    exact hQ _ S (.int _)
  · obtain ⟨ns, e1, e2⟩ := Option.bind_eq_some_iff.mp hd
    obtain ⟨m, e3, e4⟩ := Option.map_eq_some_iff.mp e2
    subst e4
    obtain ⟨v, rfl, rv⟩ := hp.one
    have ex := intsL_map e1
    subst ex
    obtain ⟨a, its, as, rfl, p, h4⟩ := tup_reads I rv
    rw [Vals.ref1 r]
    cases ns with
    | nil => cases e3
    | cons n ns =>
      rw [fold_min, Option.some.injEq] at e3
      refine PySem.W.min_tuple_data (I.ok.hd hc) p (x := .int n) (xs := ns.map .int) h4 ⟨fun x hx y hy => alike_intsL (n :: ns) x hx y hy, fun x hx => by
        obtain ⟨_, _, rfl⟩ := List.mem_map.mp (show x ∈ List.map PyData.int (n :: ns) from hx)
        intro z; cases z⟩ (by
        have := depthAll_ints (n :: ns)
        rw [List.map_cons] at this
        rw [this]; omega) fun i v h' tk bs hv hr hk => ?_
      rw [PySem.W.minD_ints, e3] at hr
      cases hr with
      | int t => exact ⟨.int _, H, I.kept hk, ⟨_, rfl⟩, hQ _ S (.int _)⟩
  · cases hd
    obtain ⟨v, w, rfl, rv, rw'⟩ := hp.two
    have e1 := rv.int_inv; have e2 := rw'.int_inv; subst e1 e2
    exact call_min2 hc pins s σ H _ us Q I r ⟨_, _, rfl, hQ _ S (.int _)⟩
  · cases hd
theorem cb_abs : CallR X (.builtin "abs") (rBiV X.K absD) := by
  intro pins s σ H xs us Q I r ⟨S, ps, d, hp, hd, hQ⟩
  unfold absD at hd
  split at hd
  · cases hd
    obtain ⟨v, rfl, rv⟩ := hp.one
    have e := rv.int_inv; subst e
    exact call_abs pins s σ H _ us Q I r ⟨_, rfl, hQ _ S (.int _)⟩
  · cases hd
theorem cb_int : CallR X (.type "int") (rBiV X.K intD) := by
  intro pins s σ H xs us Q I r ⟨S, ps, d, hp, hd, hQ⟩
  unfold intD at hd
  split at hd
  · cases hd
    obtain ⟨v, rfl, rv⟩ := hp.one
    have e := rv.int_inv; subst e
    exact call_int1 pins s σ H _ us Q I r (.inl ⟨_, rfl, hQ _ S (.int _)⟩)
  · cases hd
    obtain ⟨v, rfl, rv⟩ := hp.one
    have e := rv.bool_inv; subst e
    exact call_int1 pins s σ H _ us Q I r (.inr ⟨_, rfl, hQ _ S (.int _)⟩)
  · split at hd
    · rename_i hf
      obtain ⟨n, e1, e2⟩ := Option.map_eq_some_iff.mp hd
      subst e2
      obtain ⟨v, rfl, rv⟩ := hp.one
      have e := rv.str_inv; subst e
      exact call_int_str pins s σ H _ us Q I r ⟨_, n, rfl, e1, of_decide_eq_true hf, hQ _ S (.int _)⟩
    · cases hd
  · cases hd
theorem cb_str : CallR X (.type "str") (rBiV X.K strD) := by
  intro pins s σ H xs us Q I r ⟨S, ps, d, hp, hd, hQ⟩
  unfold strD at hd
  split at hd
  · split at hd
    · rename_i hf
      cases hd
      obtain ⟨v, rfl, rv⟩ := hp.one
      have e := rv.int_inv; subst e
      exact call_str_int pins s σ H _ us Q I r ⟨_, rfl, of_decide_eq_true hf, hQ _ S (.str _)⟩
    · cases hd
  · cases hd
theorem cb_all (hc : X.calm = true) : CallR X (.builtin "all") (rBiV X.K allD) := by
  intro pins s σ H xs us Q I r ⟨S, ps, d, hp, hd, hQ⟩
  unfold allD at hd
  split at hd
  · obtain ⟨ns, e1, e2⟩ := Option.map_eq_some_iff.mp hd
    subst e2
    obtain ⟨v, rfl, rv⟩ := hp.one
    obtain ⟨a, vs, rfl, ha, ra⟩ := rv.list_inv
    have e := ra.bools e1
    subst e
    exact cr_all hc pins s σ H _ us Q I r ⟨a, ns, rfl, ha.seq, hQ _ S (.bl _)⟩
  · cases hd
theorem cb_any (hc : X.calm = true) : CallR X (.builtin "any") (rBiV X.K anyD) := by
  intro pins s σ H xs us Q I r ⟨S, ps, d, hp, hd, hQ⟩
  unfold anyD at hd
  split at hd
  · obtain ⟨ns, e1, e2⟩ := Option.map_eq_some_iff.mp hd
    subst e2
    obtain ⟨v, rfl, rv⟩ := hp.one
    obtain ⟨a, vs, rfl, ha, ra⟩ := rv.list_inv
    have e := ra.bools e1
    subst e
    exact cr_any hc pins s σ H _ us Q I r ⟨a, ns, rfl, ha.seq, hQ _ S (.bl _)⟩
  · cases hd
theorem cb_repr (hg : X.A.guards = some []) (hu : X.A.units + 65 < cLine) : CallR X (.builtin "repr") (rBiV X.K reprD) := by
  intro pins s σ H xs us Q I r ⟨S, ps, d, hp, hd, hQ⟩
  unfold reprD at hd
  split at hd
  · split at hd
    · rename_i hf
      cases hd
      obtain ⟨v, rfl, rv⟩ := hp.one
      obtain ⟨u, rfl, ru⟩ := vals1 r
      simp only [Bool.and_eq_true, Bool.not_eq_true'] at hf
      have hdp := of_decide_eq_true hf.1.2
      exact repr_data I rv ru hf.1.1.1 hf.1.1.2 hg (by omega) (fits_line hf.2) (hQ _ S (.str _))
    · cases hd
  · cases hd
theorem signs_rp {K : PySem.W.Frag} {H : Hp} {S : Addr → Prop} (l : List Nat) : RpL K H S (l.map fun c => V.str ⟨#[c]⟩) (l.map fun c => PyData.str ⟨#[c]⟩) := by
  induction l with
  | nil => exact .nil
  | cons c r ih => exact .cons (.str _) ih
theorem call_list_st (hc : X.calm = true) : CallR X (.type "list") (fun xs H Q => ∃ x : Str, xs = [.str x] ∧ x.length ≤ sizeLine ∧ ∀ l, H l = none → Q (.ref l) (upd H l (.lst (x.cps.toList.map fun c => V.str ⟨#[c]⟩)))) := by
  intro pins s σ H xs us Q I r h
  obtain ⟨x, e, hz, q⟩ := h
  subst e
  obtain ⟨u, eu, rx⟩ := vals1 r
  subst eu
  obtain ⟨t, rfl⟩ := rx
  refine call_list_str (I.ok.hd hc) x t (fun h' tk acc' c' hkeep hS hacc => ?_) hz
  have sz : acc'.size = x.cps.size := hacc.1
  refine ⟨.ref s.heap.objs.size, upd H s.heap.objs.size (.lst (x.cps.toList.map fun c => V.str ⟨#[c]⟩)), I.laid hkeep (Nat.le_refl _) (show ObjOk X.prog X.w _ _ _ (.lst (x.cps.toList.map fun c => V.str ⟨#[c]⟩)) from ⟨?_, acc'.toList, c', ?_, ?_⟩), rfl, q _ (I.hok.fresh (Nat.le_refl _))⟩
  · rw [List.length_map, Array.length_toList]; exact hz
  · have el : acc'.toList.length = acc'.size := by simp
    refine vals_of_at (by rw [List.length_map, el, sz, Array.length_toList]) fun j y w h1 h2 => ?_
    obtain ⟨c, t', hcx, rfl⟩ := hacc.2 j w (by rw [← Array.getElem?_toList]; exact h2)
    rw [List.getElem?_map, Array.getElem?_toList, hcx] at h1
    cases h1
    exact ⟨t', rfl⟩
  · rw [Array.toArray_toList]; exact hS
theorem cb_list (hc : X.calm = true) : CallR X (.type "list") (rBiF X.K listD) := by
  intro pins s σ H xs us Q I r ⟨S, ps, d, hp, hd, hQ⟩
  unfold listD at hd
  split at hd
  · cases hd
    obtain ⟨v, rfl, rv⟩ := hp.one
    obtain ⟨a, vs, rfl, ha, ra⟩ := rv.list_inv
    exact call_list_of pins s σ H _ us Q I r ⟨a, vs, rfl, .inl ha.seq, fun l hl => hQ _ _ (Mk.list hl ra)⟩
  · cases hd
    obtain ⟨v, rfl, rv⟩ := hp.one
    obtain ⟨a, vs, rfl, ha, ra⟩ := rv.tuple_inv
    exact call_list_of pins s σ H _ us Q I r ⟨a, vs, rfl, .inr ha.sq, fun l hl => hQ _ _ (Mk.list hl ra)⟩
  · split at hd
    · rename_i hf
      cases hd
      obtain ⟨v, rfl, rv⟩ := hp.one
      have e := rv.str_inv
      subst e
      exact call_list_st hc pins s σ H _ us Q I r ⟨_, rfl, fits_line hf, fun l hl => hQ _ _ (Mk.list hl (signs_rp _))⟩
    · cases hd
  · cases hd
theorem cb_tuple : CallR X (.type "tuple") (rBiF X.K tupleD) := by
  intro pins s σ H xs us Q I r ⟨S, ps, d, hp, hd, hQ⟩
  unfold tupleD at hd
  split at hd
  · cases hd
    obtain ⟨v, rfl, rv⟩ := hp.one
    obtain ⟨a, vs, rfl, ha, ra⟩ := rv.list_inv
    exact call_tupN pins s σ H _ us Q I r ⟨a, vs, rfl, .inl ⟨ha.seq, fun l ob hl hdn => hQ _ _ (Mk.tuple hl hdn ra)⟩⟩
  · cases hd
    obtain ⟨v, rfl, rv⟩ := hp.one
    obtain ⟨a, vs, rfl, ha, ra⟩ := rv.tuple_inv
    exact call_tupN pins s σ H _ us Q I r ⟨a, vs, rfl, .inr ⟨ha.sq, hQ _ _ (.old (.tup ha ra))⟩⟩
  · cases hd

/-- a value's type, told by data -/
def tyName : PyData → String
  | .none => "NoneType"
  | .bool _ => "bool"
  | .int _ => "int"
  | .str _ => "str"
  | .list _ => "list"
  | .tuple _ => "tuple"
  | .dict _ => "dict"
theorem tyX_of {K : PySem.W.Frag} {H : Hp} {S : Addr → Prop} {v : V} {d : PyData} (h : Rp K H S v d) : TyX K H v (.type (tyName d)) := by
  cases h with
  | non => exact .base .non
  | bl b => exact .base (.bl b)
  | int i => exact .base (.int i)
  | str x => exact .base (.str x)
  | lst h r =>
    rcases h with ⟨h, _⟩ | ⟨o, h⟩ | ⟨its, n, h, _, _⟩
    · exact .base (.lst h)
    · exact .base (.frz h)
    · exact .kList h rfl
  | tup h r =>
    rcases h with ⟨o, h, _⟩ | ⟨o, its, n, h, c, _⟩
    · exact .fTuple h
    · exact .kTuple h c
end
end DE
end

section
set_option Elab.async false
set_option linter.all false
/-! DE7: what a run of a part promises, and its pieces. -/
namespace DE
open PySem PySem.Spec PyProof.Rows L2

/-- an exception as it flies: its class, its own dict -/
def Ex (K : Kx) (H : Hp) (Fz : Addr → Prop) (x : D) (cls : Value) (dx : Option Addr) : Prop :=
  ∃ (C : Str) (fs : List (Str × PyData)) (c : Addr), x = .exc C fs ∧ C ∈ K.xs.ex ∧ K.mg C = some (.ref c) ∧ cls = .ref c ∧ XdR K.K H Fz dx fs

/-- between a beginning and now, with r held by the hand -/
structure At (Bz : Addr → Prop) (pu : Bool) (H0 : Hp) (Fz0 : Addr → Prop) (f0 : Addr → Nat) (H : Hp) (Fz : Addr → Prop) (f r : Addr → Nat) : Prop where
  wf : Wf H Fz Bz (fun b => f b + r b)
  stp : Stp pu H0 Fz0 f0 H Fz (fun b => f b + r b)

section
variable {Bz Fz0 Fz Fz1 Fz2 : Addr → Prop} {pu p q : Bool} {H0 H H1 H2 : Hp} {f0 f r f1 r1 f2 g : Addr → Nat}
theorem At.start (w : Wf H Fz Bz f) : At Bz true H Fz f H Fz f (fun _ => 0) := ⟨w.cong fun b => by simp, Stp.refl.cong (fun _ => rfl) fun b => by simp⟩
theorem At.weak (a : At Bz p H0 Fz0 f0 H Fz f r) (h : q = true → p = true) : At Bz q H0 Fz0 f0 H Fz f r := ⟨a.wf, a.stp.weak h⟩
theorem At.cong (a : At Bz p H0 Fz0 f0 H Fz f r) (h : ∀ b, g b + r1 b = f b + r b) : At Bz p H0 Fz0 f0 H Fz g r1 := ⟨a.wf.cong h, a.stp.cong (fun _ => rfl) h⟩
theorem At.less (a : At Bz p H0 Fz0 f0 H Fz f r) (h : ∀ b, g b + r1 b ≤ f b + r b) : At Bz p H0 Fz0 f0 H Fz g r1 := ⟨a.wf.le h, a.stp.less h⟩
theorem At.env (a : At Bz p H0 Fz0 f0 H Fz f r) : Wf H Fz Bz f := a.wf.le fun b => by omega
/-- a part ran from here -/
theorem At.step (a : At Bz p H0 Fz0 f0 H1 Fz1 f1 r) (s : Stp q H1 Fz1 f1 H2 Fz2 f2) (w : Wf H2 Fz2 Bz f2) : At Bz (p && q) H0 Fz0 f0 H2 Fz2 f2 r :=
  ⟨Wf.frame s a.wf w, a.stp.trans s.frame⟩
theorem At.lay {a : Addr} {o : HO} (t : At Bz p H0 Fz0 f0 H Fz f r) (hn : H a = none) : At Bz p H0 Fz0 f0 (upd H a o) Fz f r :=
  ⟨t.wf.lay hn, (t.stp.trans (q := true) (Stp.lay hn)).weak fun h => by rw [h]; rfl⟩
theorem At.new {a : Addr} {o : HO} (t : At Bz p H0 Fz0 f0 H Fz f r) (hn : H a = none) (ow : Ow o) (h : ∀ b, r1 b = r b + if b = a then 1 else 0) : At Bz p H0 Fz0 f0 (upd H a o) Fz f r1 :=
  ⟨(t.wf.new hn ow).cong fun b => by rw [h]; omega, ((t.stp.trans (q := true) (Stp.new (o := o) hn)).weak fun h => by rw [h]; rfl).cong (fun _ => rfl) fun b => by rw [h]; omega⟩
theorem At.freeze (t : At Bz p H0 Fz0 f0 H Fz f r) (h : ∀ b, r b = r1 b + g b) : At Bz p H0 Fz0 f0 H (fun b => Fz b ∨ 1 ≤ g b) f r1 := by
  have e : (fun b => f b + r b) = fun b => (f b + r1 b) + g b := funext fun b => by rw [h]; omega
  have w := t.wf
  have s := t.stp
  rw [e] at w s
  exact ⟨w.freeze, s.freeze⟩
/-- an owned object is changed; what was owned may be fewer now -/
theorem At.write {a : Addr} {o o' : HO} (t : At Bz p H0 Fz0 f0 H Fz f r) (he : H a = some o) (hf : 1 ≤ f a + r a) (ow : Ow o') (h : ∀ b, g b + r1 b ≤ f b + r b) : At Bz false H0 Fz0 f0 (upd H a o') Fz g r1 := by
  refine ⟨t.wf.write hf ow h, ?_⟩
  have s : Stp false H Fz (fun b => f b + r b) (upd H a o') Fz (fun b => g b + r1 b) := Stp.write he hf fun b z => by have z' : 1 ≤ g b + r1 b := z; have := h b; show 1 ≤ f b + r b; omega
  have z := t.stp.trans s
  rw [Bool.and_false] at z
  exact z
end

/-- what must hold behind a run's end -/
def Out (K : Kx) (mg : Str → Option Value) (Bz : Addr → Prop) (σ : L2.St) (pu : Bool) (H : Hp) (Fz : Addr → Prop) (f : Addr → Nat) (W : WX) (r : R D) (Q : VK) : Prop :=
  match r with
  | .ok d ρ => ∀ v H' Fz' fρ fd, Re K H' Fz' Bz σ ρ fρ → Rv K H' Fz' Bz v d fd → At Bz pu H Fz f H' Fz' fρ fd → Q v H'
  | .ex x ρ => ∀ cls dx H' Fz' fρ, Re K H' Fz' Bz σ ρ fρ → Ex K H' Fz' x cls dx → At Bz false H Fz f H' Fz' fρ (fun _ => 0) → W cls dx σ H'
  | .no => False
/-- .. of arguments -/
def OutL (K : Kx) (mg : Str → Option Value) (Bz : Addr → Prop) (σ : L2.St) (pu : Bool) (H : Hp) (Fz : Addr → Prop) (f : Addr → Nat) (W : WX) (r : R (List D)) (Q : List V → Hp → Prop) : Prop :=
  match r with
  | .ok ds ρ => ∀ vs H' Fz' fρ fd, Re K H' Fz' Bz σ ρ fρ → RvL K H' Fz' Bz vs ds fd → At Bz pu H Fz f H' Fz' fρ fd → Q vs H'
  | .ex x ρ => ∀ cls dx H' Fz' fρ, Re K H' Fz' Bz σ ρ fρ → Ex K H' Fz' x cls dx → At Bz false H Fz f H' Fz' fρ (fun _ => 0) → W cls dx σ H'
  | .no => False

/-- an expression's reading by its run -/
def LE (K : Kx) (mg : Str → Option Value) (G : List Fn) (W : WX) (e : E) : TE := fun σ H Q => ∃ ρ Fz Bz f, Re K H Fz Bz σ ρ f ∧ Wf H Fz Bz f ∧ Out K mg Bz σ e.pure H Fz f W (evE G e ρ) Q
def LEs (K : Kx) (mg : Str → Option Value) (G : List Fn) (W : WX) (es : Es) : TA := fun σ H Q => ∃ ρ Fz Bz f, Re K H Fz Bz σ ρ f ∧ Wf H Fz Bz f ∧ OutL K mg Bz σ es.pure H Fz f W (evEs G es ρ) Q

section
variable {K : Kx} {mg : Str → Option Value} {G : List Fn} {W : WX} {σ : L2.St} {Bz Fz0 Fz Fz1 Fz2 : Addr → Prop} {pu p q : Bool} {H0 H H1 H2 : Hp} {f0 f r f1 r1 f2 g : Addr → Nat} {ρ ρ1 ρ2 : Env}
/-- a part of a run, from where one is -/
theorem LE.sub {e : E} {Q : VK} (re : Re K H Fz Bz σ ρ f) (t : At Bz p H0 Fz0 f0 H Fz f r) {α : Type} {k : D → Env → R α}
    (hx : ∀ x ρ', evE G e ρ = .ex x ρ' → ∀ cls dx H' Fz' fρ, Re K H' Fz' Bz σ ρ' fρ → Ex K H' Fz' x cls dx → At Bz false H0 Fz0 f0 H' Fz' fρ (fun _ => 0) → W cls dx σ H')
    (hn : evE G e ρ ≠ .no)
    (hok : ∀ d ρ', evE G e ρ = .ok d ρ' → ∀ v H' Fz' fρ fd, Re K H' Fz' Bz σ ρ' fρ → Rv K H' Fz' Bz v d fd → Stp e.pure H Fz f H' Fz' (fun b => fρ b + fd b) → At Bz (p && e.pure) H0 Fz0 f0 H' Fz' fρ (fun b => r b + fd b) → Q v H') :
    LE K mg G W e σ H Q := by
  refine ⟨ρ, Fz, Bz, f, re, t.env, ?_⟩
  cases h : evE G e ρ with
  | ok d ρ' =>
    intro v H' Fz' fρ fd re' rv a
    have a' := t.step a.stp a.wf
    exact hok d ρ' h v H' Fz' fρ fd re' rv a.stp (a'.cong fun b => by omega)
  | ex x ρ' =>
    intro cls dx H' Fz' fρ re' ex a
    refine hx x ρ' h cls dx H' Fz' fρ re' ex ?_
    have a' := t.step a.stp a.wf
    rw [Bool.and_false] at a'
    exact a'.less fun b => by omega
  | no => exact (hn h).elim
theorem LEs.sub {e : Es} {Q : List V → Hp → Prop} (re : Re K H Fz Bz σ ρ f) (t : At Bz p H0 Fz0 f0 H Fz f r)
    (hx : ∀ x ρ', evEs G e ρ = .ex x ρ' → ∀ cls dx H' Fz' fρ, Re K H' Fz' Bz σ ρ' fρ → Ex K H' Fz' x cls dx → At Bz false H0 Fz0 f0 H' Fz' fρ (fun _ => 0) → W cls dx σ H')
    (hn : evEs G e ρ ≠ .no)
    (hok : ∀ d ρ', evEs G e ρ = .ok d ρ' → ∀ v H' Fz' fρ fd, Re K H' Fz' Bz σ ρ' fρ → RvL K H' Fz' Bz v d fd → Stp e.pure H Fz f H' Fz' (fun b => fρ b + fd b) → At Bz (p && e.pure) H0 Fz0 f0 H' Fz' fρ (fun b => r b + fd b) → Q v H') :
    LEs K mg G W e σ H Q := by
  refine ⟨ρ, Fz, Bz, f, re, t.env, ?_⟩
  cases h : evEs G e ρ with
  | ok d ρ' =>
    intro v H' Fz' fρ fd re' rv a
    have a' := t.step a.stp a.wf
    exact hok d ρ' h v H' Fz' fρ fd re' rv a.stp (a'.cong fun b => by omega)
  | ex x ρ' =>
    intro cls dx H' Fz' fρ re' ex a
    refine hx x ρ' h cls dx H' Fz' fρ re' ex ?_
    have a' := t.step a.stp a.wf
    rw [Bool.and_false] at a'
    exact a'.less fun b => by omega
  | no => exact (hn h).elim
/-- what an operation made, as the run's end -/
theorem Out.made {S : Addr → Prop} {d : D} {v : V} {H' : Hp} {Q : VK} (h : Out K mg Bz σ pu H0 Fz0 f0 W (.ok d ρ) Q) (re : Re K H Fz Bz σ ρ f) (t : At Bz p H0 Fz0 f0 H Fz f r) (hp : pu = true → p = true) (m : Mk K.K H S d v H') (hs : ∀ b, S b → Fz b) : Q v H' := by
  have t0 : At Bz pu H0 Fz0 f0 H Fz f (fun _ => 0) := (t.less fun b => by omega).weak hp
  cases m with
  | old rp => exact h v H Fz f (fun _ => 0) re (.dat (rp.mono hs) fun _ => rfl) t0
  | lay hn no rp =>
    refine h v _ Fz f (fun _ => 0) (re.keep (fun b o e _ => by rw [upd_ne (ne_of_none e hn)]; exact e) (fun _ z => z) fun b o e _ => by rw [upd_ne (ne_of_none e hn)]; exact e) (.dat (rp.mono hs) fun _ => rfl) (t0.lay hn)
  | @new q vs ds hn rp =>
    refine h _ _ Fz f (fun b => if b = q then 1 else 0) (re.keep (fun b o e _ => by rw [upd_ne (ne_of_none e hn)]; exact e) (fun _ z => z) fun b o e _ => by rw [upd_ne (ne_of_none e hn)]; exact e) (.lst upd_same (RvL.dats (rp.mono hs)) fun b => by simp) (t0.new hn trivial fun b => by simp)
end
end DE
end

section
set_option Elab.async false
set_option linter.all false
/-! DE8: expressions keep what their runs promise. -/
namespace DE
open PySem PySem.Spec PyProof.Rows L2

theorem PE.imp {X : Cx} {e : Expr} {t t' : TE} (h : PE X e t) (i : ∀ σ H Q, t' σ H Q → t σ H Q) : PE X e t' := ⟨fun pins s σ H Q I z => h.run pins s σ H Q I (i _ _ _ z)⟩
theorem PT.imp {X : Cx} {e : Expr} {t t' : TT} (h : PT X e t) (i : ∀ σ H Q, t' σ H Q → t σ H Q) : PT X e t' := ⟨fun pins s σ H Q I z => h.run pins s σ H Q I (i _ _ _ z)⟩
theorem PA.imp {X : Cx} {e : List Expr} {t t' : TA} (h : PA X e t) (i : ∀ σ H Q, t' σ H Q → t σ H Q) : PA X e t' := ⟨fun pos pins s σ H Q I z => h.run pos pins s σ H Q I (i _ _ _ z)⟩

mutual
theorem own_of_fz : ∀ {d : D} {p : PyData}, d.fz = some p → d.own = true
  | .dat _, _, _ => rfl
  | .bor _, _, h => by simp [D.fz] at h
  | .tr _, _, h => by simp [D.fz] at h
  | .lst xs, _, h => by
    simp only [D.fz] at h
    obtain ⟨ps, e, _⟩ := Option.map_eq_some_iff.mp h
    simp only [D.own]
    exact ownL_of_fz e
  | .dct _, _, h => by simp [D.fz] at h
  | .dtt _, _, h => by simp [D.fz] at h
  | .ins _ _, _, h => by simp [D.fz] at h
  | .exc _ _, _, h => by simp [D.fz] at h
  | .dead, _, h => by simp [D.fz] at h
theorem ownL_of_fz : ∀ {d : List D} {p : List PyData}, D.fzL d = some p → D.ownL d = true
  | [], _, _ => rfl
  | x :: r, _, h => by
    rw [D.fzL] at h
    cases h1 : x.fz with
    | none => rw [h1] at h; simp at h
    | some a =>
      cases h2 : D.fzL r with
      | none => rw [h1, h2] at h; simp at h
      | some b => rw [D.ownL, own_of_fz h1, ownL_of_fz h2]; rfl
end

section
variable {K : Kx} {mg : Str → Option Value} {G : List Fn} {W : WX} {σ : L2.St} {Bz Fz0 Fz Fz1 Fz2 : Addr → Prop} {pu p q : Bool} {H0 H H1 H2 : Hp} {f0 f r f1 r1 f2 g : Addr → Nat} {ρ ρ1 ρ2 : Env}

theorem Out.bind_ex {r : R D} {k : D → Env → R D} {Q : VK} (h : Out K mg Bz σ pu H Fz f W (r.bind k) Q) {x : D} {ρ' : Env} (e : r = .ex x ρ') :
    ∀ cls dx H' Fz' fρ, Re K H' Fz' Bz σ ρ' fρ → Ex K H' Fz' x cls dx → At Bz false H Fz f H' Fz' fρ (fun _ => 0) → W cls dx σ H' := by
  rw [e] at h; exact h
theorem Out.bind_no {r : R D} {k : D → Env → R D} {Q : VK} (h : Out K mg Bz σ pu H Fz f W (r.bind k) Q) : r ≠ .no := fun e => by
  rw [e] at h; exact h
theorem Out.bind_ok {r : R D} {k : D → Env → R D} {Q : VK} (h : Out K mg Bz σ pu H Fz f W (r.bind k) Q) {x : D} {ρ' : Env} (e : r = .ok x ρ') : Out K mg Bz σ pu H Fz f W (k x ρ') Q := by
  rw [e] at h; exact h
theorem Out.bindL_ex {r : R (List D)} {k : List D → Env → R D} {Q : VK} (h : Out K mg Bz σ pu H Fz f W (r.bind k) Q) {x : D} {ρ' : Env} (e : r = .ex x ρ') :
    ∀ cls dx H' Fz' fρ, Re K H' Fz' Bz σ ρ' fρ → Ex K H' Fz' x cls dx → At Bz false H Fz f H' Fz' fρ (fun _ => 0) → W cls dx σ H' := by
  rw [e] at h; exact h
theorem Out.bindL_no {r : R (List D)} {k : List D → Env → R D} {Q : VK} (h : Out K mg Bz σ pu H Fz f W (r.bind k) Q) : r ≠ .no := fun e => by
  rw [e] at h; exact h
theorem Out.bindL_ok {r : R (List D)} {k : List D → Env → R D} {Q : VK} (h : Out K mg Bz σ pu H Fz f W (r.bind k) Q) {x : List D} {ρ' : Env} (e : r = .ok x ρ') : Out K mg Bz σ pu H Fz f W (k x ρ') Q := by
  rw [e] at h; exact h

/-- one part, then a step -/
theorem LE.one {a : E} {k : D → Env → R D} {Q : VK} {R1 : V → Hp → Prop} (re : Re K H Fz Bz σ ρ f) (t : At Bz p H0 Fz0 f0 H Fz f r) (out : Out K mg Bz σ pu H0 Fz0 f0 W ((evE G a ρ).bind k) Q)
    (fin : ∀ x ρ1 v H1 Fz1 fρ fd, Re K H1 Fz1 Bz σ ρ1 fρ → Rv K H1 Fz1 Bz v x fd → Stp a.pure H Fz f H1 Fz1 (fun b => fρ b + fd b) → At Bz (p && a.pure) H0 Fz0 f0 H1 Fz1 fρ (fun b => r b + fd b) → Out K mg Bz σ pu H0 Fz0 f0 W (k x ρ1) Q → R1 v H1) :
    LE K mg G W a σ H R1 := by
  refine LE.sub (k := k) re t ?_ ?_ ?_
  · intro x ρ' e
    exact out.bind_ex e
  · exact out.bind_no
  · intro d ρ' e v H' Fz' fρ fd re' rv s a
    exact fin d ρ' v H' Fz' fρ fd re' rv s a (out.bind_ok e)
/-- two parts, then a step -/
theorem LE.two {a b : E} {st : D → Bool} {k : D → D → Env → R D} {Q : VK} {R2' : V → V → Hp → Prop} (re : Re K H Fz Bz σ ρ f) (wf : Wf H Fz Bz f)
    (out : Out K mg Bz σ pu H Fz f W (R.two (evE G a ρ) st (fun ρ1 => evE G b ρ1) k) Q) (hst : ∀ x, st x = true → x.ntr = true ∨ b.pure = true)
    (fin : ∀ x y ρ2 v1 v2 H2 Fz2 fρ f1 f2, Re K H2 Fz2 Bz σ ρ2 fρ → Rv K H2 Fz2 Bz v1 x f1 → Rv K H2 Fz2 Bz v2 y f2 → At Bz (a.pure && b.pure) H Fz f H2 Fz2 fρ (fun b => f1 b + f2 b) → Out K mg Bz σ pu H Fz f W (k x y ρ2) Q → R2' v1 v2 H2) :
    LE K mg G W a σ H (fun v1 H1 => LE K mg G W b σ H1 fun v2 H2 => R2' v1 v2 H2) := by
  unfold R.two at out
  refine LE.one re (At.start wf) out ?_
  intro x ρ1 v1 H1 Fz1 fρ1 fd1 re1 rv1 s1 t1 out1
  by_cases hs : st x = true
  · rw [if_pos hs] at out1
    refine LE.one re1 t1 out1 ?_
    intro y ρ2 v2 H2 Fz2 fρ2 fd2 re2 rv2 s2 t2 out2
    have rv1' : Rv K H2 Fz2 Bz v1 x fd1 := rv1.frame (hst x hs) s2 (t1.wf.cong fun b => by omega)
    exact fin x y ρ2 v1 v2 H2 Fz2 fρ2 fd1 fd2 re2 rv1' rv2 ((t2.weak (q := a.pure && b.pure) (by simp)).cong fun b => by omega) out2
  · rw [if_neg hs] at out1
    exact False.elim out1
end

section
variable {X : Cx} {xz : Xs} {G : List Fn} {W : WX} {pos : Pos}
/-- names and constants -/
theorem le_var {i : Nat} {x : Str} (h : PE X (.Name x pos) (tVar i)) : PE X (.Name x pos) (LE (kx X xz) X.mg G W (.var i)) := by
  refine PE.imp h fun σ H Q ⟨ρ, Fz, Bz, f, re, wf, out⟩ => ?_
  simp only [evE] at out
  have l : i < ρ.length := by
    by_cases h : i < ρ.length
    · exact h
    · have e : slot ρ i = .dead := by simp [slot, List.getD, List.getElem?_eq_none (Nat.le_of_not_lt h)]
      rw [e] at out; exact out.elim
  obtain ⟨o, fi, g, eo, rs, hf, _⟩ := re.split l
  have same : Re (kx X xz) H Fz Bz σ ρ f := re
  cases hd : slot ρ i with
  | dat d =>
    rw [hd] at out rs
    rcases rs with ⟨e, _⟩ | ⟨v, e, _, rv⟩
    · cases e
    · subst e
      cases rv with
      | dat rp z => exact ⟨v, eo, out v H Fz f (fun _ => 0) same (.dat rp fun _ => rfl) (At.start wf)⟩
  | bor d =>
    rw [hd] at out rs
    rcases rs with ⟨e, _⟩ | ⟨v, e, _, rv⟩
    · cases e
    · subst e
      cases rv with
      | bor rp z => exact ⟨v, eo, out v H Fz f (fun _ => 0) same (.bor rp fun _ => rfl) (At.start wf)⟩
  | _ => rw [hd] at out; exact out.elim
theorem le_mv {i : Nat} {x : Str} (h : PE X (.Name x pos) (tVar i)) : PE X (.Name x pos) (LE (kx X xz) X.mg G W (.mv i)) := by
  refine PE.imp h fun σ H Q ⟨ρ, Fz, Bz, f, re, wf, out⟩ => ?_
  simp only [evE] at out
  have l : i < ρ.length := by
    by_cases h : i < ρ.length
    · exact h
    · have e : slot ρ i = .dead := by simp [slot, List.getD, List.getElem?_eq_none (Nat.le_of_not_lt h)]
      rw [e] at out; exact out.elim
  obtain ⟨o, fi, g, eo, rs, hf, rest⟩ := re.split l
  rcases rs with ⟨e, _⟩ | ⟨v, e, _, rv⟩
  · rw [e] at out; exact out.elim
  · subst e
    refine ⟨v, eo, ?_⟩
    have z : ∀ d, slot ρ i = d → d ≠ .dead → Out (kx X xz) X.mg Bz σ false H Fz f W (.ok d (ρ.set i .dead)) Q → Q v H := fun d e _ o => by
      rw [e] at rv
      exact o v H Fz g fi rest rv (((At.start wf).weak fun h => by cases h).cong fun b => by rw [hf]; omega)
    cases hd : slot ρ i with
    | dead => rw [hd] at out; exact out.elim
    | _ => rw [hd] at out; exact z _ hd (fun z => by cases z) out
theorem le_cst {d : PyData} {e : Expr} {v : V} (h : PE X e (tC v)) (hv : ∀ H S, Rp X.K H S v d) : PE X e (LE (kx X xz) X.mg G W (.cst d)) := by
  refine PE.imp h fun σ H Q ⟨ρ, Fz, Bz, f, re, wf, out⟩ => ?_
  simp only [evE] at out
  exact out v H Fz f (fun _ => 0) re (.dat (hv _ _) fun _ => rfl) (At.start wf)
theorem le_glo {d : PyData} {x : Str} {e : Expr} {v : V} (h : PE X e (tC v)) (hv : ∀ H S, Rp X.K H S v d) : PE X e (LE (kx X xz) X.mg G W (.glo x d)) := by
  refine PE.imp h fun σ H Q ⟨ρ, Fz, Bz, f, re, wf, out⟩ => ?_
  simp only [evE] at out
  exact out v H Fz f (fun _ => 0) re (.dat (hv _ _) fun _ => rfl) (At.start wf)
theorem le_neg {a : E} {ea : Expr} (ha : PE X ea (LE (kx X xz) X.mg G W a)) : PE X (.UnaryOp .USub ea pos) (LE (kx X xz) X.mg G W (.neg a)) := by
  refine PE.imp (pe_un un_neg ha) fun σ H Q ⟨ρ, Fz, Bz, f, re, wf, out⟩ => ?_
  simp only [evE] at out
  refine LE.one re (At.start wf) out ?_
  intro x ρ1 v H1 Fz1 fρ fd re1 rv s t out1
  split at out1
  · cases rv with
    | dat rp z =>
      have e := rp.int_inv; subst e
      exact ⟨_, rfl, out1.made (S := Fz1) re1 t (fun h => by simpa [E.pure] using h) (.old (.int _)) fun _ h => h⟩
  · exact out1.elim
theorem le_not {a : E} {ea : Expr} (ha : PE X ea (LE (kx X xz) X.mg G W a)) : PE X (.UnaryOp .Not ea pos) (LE (kx X xz) X.mg G W (.not a)) := by
  refine PE.imp (pe_not ha) fun σ H Q ⟨ρ, Fz, Bz, f, re, wf, out⟩ => ?_
  simp only [evE] at out
  refine LE.one re (At.start wf) out ?_
  intro x ρ1 v H1 Fz1 fρ fd re1 rv s t out1
  split at out1
  · cases rv with
    | dat rp z =>
      have e := rp.bool_inv; subst e
      exact ⟨_, rfl, out1.made (S := Fz1) re1 t (fun h => by simpa [E.pure] using h) (.old (.bl _)) fun _ h => h⟩
  · exact out1.elim
theorem le_bin {o : Operator} {a b : E} {ea eb : Expr} (ha : PE X ea (LE (kx X xz) X.mg G W a)) (hb : PE X eb (LE (kx X xz) X.mg G W b)) : PE X (.BinOp ea o eb pos) (LE (kx X xz) X.mg G W (.bin o a b)) := by
  refine PE.imp (pe_op (op_bin o) ha hb) fun σ H Q ⟨ρ, Fz, Bz, f, re, wf, out⟩ => ?_
  simp only [evE] at out
  refine LE.two re wf out (fun x h => by simpa using h) ?_
  intro x y ρ2 v1 v2 H2 Fz2 fρ f1 f2 re2 rv1 rv2 t out2
  split at out2
  · rename_i p q hp hq
    cases hd : binD o p q with
    | none => rw [hd] at out2; exact out2.elim
    | some d =>
      rw [hd] at out2
      have t' := t.freeze (r1 := fun _ => 0) (g := fun b => f1 b + f2 b) fun b => by omega
      refine ⟨fun b => Fz2 b ∨ 1 ≤ f1 b + f2 b, p, q, d, (rv1.freeze hp).mono fun b h => h.imp id fun h => by omega, (rv2.freeze hq).mono fun b h => h.imp id fun h => by omega, hd, fun v H' m => ?_⟩
      exact out2.made (re2.monoF fun b h => .inl h) t' (fun h => by simpa [E.pure] using h) m fun _ h => h
  · exact out2.elim
theorem Rv.non_iff {K : Kx} {H : Hp} {Fz Bz : Addr → Prop} {v : V} {d : D} {f : Addr → Nat} (h : Rv K H Fz Bz v d f) (n : d ≠ .dead) : decide (v = .non) = isNone d := by
  have two : ∀ {S : Addr → Prop} {p : PyData}, Rp K.K H S v p → decide (v = .non) = (match p with | .none => true | _ => false) := fun {S p} r => by
    cases r <;> simp
  cases h with
  | dat r z => rw [two r]; cases ‹PyData› <;> rfl
  | bor r z => rw [two r]; cases ‹PyData› <;> rfl
  | tr r z => rw [two r]; cases ‹PyData› <;> rfl
  | lst h r q => simp [isNone]
  | dct h e r q => simp [isNone]
  | dtt h r q => simp [isNone]
  | ins h c e r q => simp [isNone]
  | exc x c r z => simp [isNone]
  | dead => exact absurd rfl n
/-- the rule of a comparison -/
def rCmpX (K : PySem.W.Frag) (o : CmpOp) : R2 := fun x y H Q => rCmp K o x y H Q ∨ (o = .Is ∧ y = .non ∧ Q (.bl (decide (x = .non))) H) ∨ (o = .IsNot ∧ y = .non ∧ Q (.bl (!decide (x = .non))) H)
theorem op_cmpX (o : CmpOp) (hu : X.A.units + 65 < cLine) : OpR X (compareOp o) (rCmpX X.K o) := by
  intro pins s σ H x y v u Q I rx ry h
  rcases h with h | ⟨e, h⟩ | ⟨e, h⟩
  · exact op_cmp o hu pins s σ H x y v u Q I rx ry h
  · subst e; exact op_isN pins s σ H x y v u Q I rx ry h
  · subst e; exact op_notN pins s σ H x y v u Q I rx ry h
/-- the comparison of two values, as the run has it -/
theorem cmpV_rule {K : Kx} {H : Hp} {Fz Bz : Addr → Prop} {o : CmpOp} {x y : D} {v1 v2 : V} {f1 f2 : Addr → Nat} {k : Bool} {Q : VK} (hd : cmpV o x y = some k) (rv1 : Rv K H Fz Bz v1 x f1) (rv2 : Rv K H Fz Bz v2 y f2) (fin : Q (.bl k) H) : rCmpX K.K o v1 v2 H Q := by
  have usual : (∃ p q, x.view = some p ∧ y.view = some q ∧ cmpD o p q = some k) → rCmp K.K o v1 v2 H Q := fun ⟨p, q, hp, hq, hc⟩ => ⟨_, _, p, q, k, rv1.look hp, rv2.look hq, hc, fin⟩
  have last : ∀ {z : Option Bool}, (match x.view, y.view with | some a, some b => cmpD o a b | _, _ => none) = z → z = some k → ∃ p q, x.view = some p ∧ y.view = some q ∧ cmpD o p q = some k := fun {z} e ez => by
    subst ez
    cases hx : x.view with
    | none => rw [hx] at e; simp at e
    | some p =>
      cases hy : y.view with
      | none => rw [hx, hy] at e; simp at e
      | some q => rw [hx, hy] at e; exact ⟨p, q, rfl, rfl, e⟩
  unfold cmpV at hd
  split at hd
  · refine .inr (.inl ⟨rfl, ?_, ?_⟩)
    · cases rv2 with | dat r z => exact r.none_inv
    · have nd : x ≠ .dead := fun z => by subst z; simp at hd
      rw [rv1.non_iff nd]
      have e : some (isNone x) = some k := by cases x <;> first | exact hd | exact absurd rfl nd
      cases e
      exact fin
  · refine .inr (.inr ⟨rfl, ?_, ?_⟩)
    · cases rv2 with | dat r z => exact r.none_inv
    · have nd : x ≠ .dead := fun z => by subst z; simp at hd
      rw [rv1.non_iff nd]
      have e : some (!isNone x) = some k := by cases x <;> first | exact hd | exact absurd rfl nd
      cases e
      exact fin
  · exact .inl (usual (last hd rfl))
theorem cmp_imp {o : CmpOp} {a b : E} {σ : L2.St} {H : Hp} {Q : VK} (h : LE (kx X xz) X.mg G W (.cmp o a b) σ H Q) : tOp (rCmpX X.K o) (LE (kx X xz) X.mg G W a) (LE (kx X xz) X.mg G W b) σ H Q := by
  obtain ⟨ρ, Fz, Bz, f, re, wf, out⟩ := h
  simp only [evE] at out
  refine LE.two re wf out (fun x h => by simpa using h) ?_
  intro x y ρ2 v1 v2 H2 Fz2 fρ f1 f2 re2 rv1 rv2 t out2
  cases hd : cmpV o x y with
  | none => rw [hd] at out2; exact out2.elim
  | some k =>
    rw [hd] at out2
    exact cmpV_rule hd rv1 rv2 (out2.made (S := Fz2) re2 t (fun h => by simpa [E.pure] using h) (.old (.bl k)) fun _ h => h)
theorem le_cmp {o : CmpOp} {a b : E} {ea eb : Expr} (hu : X.A.units + 65 < cLine) (ha : PE X ea (LE (kx X xz) X.mg G W a)) (hb : PE X eb (LE (kx X xz) X.mg G W b)) (hm : behindInMarks o eb = false) : PE X (.Compare ea [o] [eb] pos) (LE (kx X xz) X.mg G W (.cmp o a b)) :=
  PE.imp (pe_cmpR (op_cmpX o hu) ha hb hm) fun σ H Q h => cmp_imp h
end
end DE
end

section
set_option Elab.async false
set_option linter.all false
/-! DE9: tests, and, or, if; displays, items, slices, built-in functions. -/
namespace DE
open PySem PySem.Spec PyProof.Rows L2

/-- what must hold behind a test's run -/
def OutT (K : Kx) (mg : Str → Option Value) (Bz : Addr → Prop) (σ : L2.St) (pu : Bool) (H : Hp) (Fz : Addr → Prop) (f : Addr → Nat) (W : WX) (r : R D) (Q : Bool → Hp → Prop) : Prop :=
  match r with
  | .ok (.dat (.bool k)) ρ => ∀ H' Fz' fρ, Re K H' Fz' Bz σ ρ fρ → At Bz pu H Fz f H' Fz' fρ (fun _ => 0) → Q k H'
  | .ok _ _ => False
  | .ex x ρ => ∀ cls dx H' Fz' fρ, Re K H' Fz' Bz σ ρ fρ → Ex K H' Fz' x cls dx → At Bz false H Fz f H' Fz' fρ (fun _ => 0) → W cls dx σ H'
  | .no => False
def LT (K : Kx) (mg : Str → Option Value) (G : List Fn) (W : WX) (e : E) : TT := fun σ H Q => ∃ ρ Fz Bz f, Re K H Fz Bz σ ρ f ∧ Wf H Fz Bz f ∧ OutT K mg Bz σ e.pure H Fz f W (evE G e ρ) Q

section
variable {K : Kx} {mg : Str → Option Value} {G : List Fn} {W : WX} {σ : L2.St} {Bz Fz0 Fz Fz1 Fz2 : Addr → Prop} {pu p q : Bool} {H0 H H1 H2 : Hp} {f0 f r f1 r1 f2 g : Addr → Nat} {ρ ρ1 ρ2 : Env}
theorem OutT.out {r : R D} {Q : Bool → Hp → Prop} (h : OutT K mg Bz σ pu H Fz f W r Q) : Out K mg Bz σ pu H Fz f W r (fun x H1 => ∃ c, x = .bl c ∧ Q c H1) := by
  unfold OutT at h
  split at h
  · intro v H' Fz' fρ fd re rv t
    cases rv with
    | dat rp z =>
      have e := rp.bool_inv
      subst e
      exact ⟨_, rfl, h H' Fz' fρ re (t.less fun b => by omega)⟩
  · exact h.elim
  · exact h
  · exact h.elim
theorem LT.le {e : E} {Q : Bool → Hp → Prop} (h : LT K mg G W e σ H Q) : LE K mg G W e σ H (fun x H1 => ∃ c, x = .bl c ∧ Q c H1) := by
  obtain ⟨ρ, Fz, Bz, f, re, wf, out⟩ := h
  exact ⟨ρ, Fz, Bz, f, re, wf, out.out⟩
/-- the last part of a run -/
theorem LE.last {e : E} {Q : VK} (re : Re K H Fz Bz σ ρ f) (t : At Bz p H0 Fz0 f0 H Fz f r) (out : Out K mg Bz σ pu H0 Fz0 f0 W (evE G e ρ) Q) (hp : pu = true → (p && e.pure) = true) : LE K mg G W e σ H Q := by
  refine LE.sub (k := fun d ρ => R.ok d ρ) re t ?_ ?_ ?_
  · intro x ρ' e
    rw [e] at out; exact out
  · intro e
    rw [e] at out; exact out
  · intro d ρ' e v H' Fz' fρ fd re' rv s a
    rw [e] at out
    exact out v H' Fz' fρ fd re' rv ((a.less fun b => by omega).weak hp)
/-- a test's part -/
theorem LT.sub {e : E} {Q : Bool → Hp → Prop} (re : Re K H Fz Bz σ ρ f) (t : At Bz p H0 Fz0 f0 H Fz f r)
    (hx : ∀ x ρ', evE G e ρ = .ex x ρ' → ∀ cls dx H' Fz' fρ, Re K H' Fz' Bz σ ρ' fρ → Ex K H' Fz' x cls dx → At Bz false H0 Fz0 f0 H' Fz' fρ (fun _ => 0) → W cls dx σ H')
    (hn : ∀ x ρ', evE G e ρ ≠ .no ∧ (evE G e ρ = .ok x ρ' → ∃ k, x = .dat (.bool k)))
    (hok : ∀ k ρ', evE G e ρ = .ok (.dat (.bool k)) ρ' → ∀ H' Fz' fρ, Re K H' Fz' Bz σ ρ' fρ → At Bz (p && e.pure) H0 Fz0 f0 H' Fz' fρ r → Q k H') :
    LT K mg G W e σ H Q := by
  refine ⟨ρ, Fz, Bz, f, re, t.env, ?_⟩
  cases h : evE G e ρ with
  | ok d ρ' =>
    obtain ⟨k, rfl⟩ := (hn d ρ').2 h
    intro H' Fz' fρ re' a
    have a' := t.step a.stp a.wf
    exact hok k ρ' h H' Fz' fρ re' (a'.cong fun b => by omega)
  | ex x ρ' =>
    intro cls dx H' Fz' fρ re' ex a
    refine hx x ρ' h cls dx H' Fz' fρ re' ex ?_
    have a' := t.step a.stp a.wf
    rw [Bool.and_false] at a'
    exact a'.less fun b => by omega
  | no => exact ((hn .dead ρ).1 h).elim
theorem LT.last {e : E} {Q : Bool → Hp → Prop} (re : Re K H Fz Bz σ ρ f) (t : At Bz p H0 Fz0 f0 H Fz f r) (out : OutT K mg Bz σ pu H0 Fz0 f0 W (evE G e ρ) Q) (hp : pu = true → (p && e.pure) = true) : LT K mg G W e σ H Q := by
  refine LT.sub re t ?_ ?_ ?_
  · intro x ρ' e
    rw [e] at out; exact out
  · intro x ρ'
    refine ⟨fun e => by rw [e] at out; exact out, fun e => ?_⟩
    rw [e] at out
    unfold OutT at out
    split at out
    · rename_i h; cases h; exact ⟨_, rfl⟩
    · exact out.elim
    · rename_i h; cases h
    · exact out.elim
  · intro k ρ' e H' Fz' fρ re' a
    rw [e] at out
    exact out H' Fz' fρ re' ((a.less fun b => by omega).weak hp)
end

section
variable {X : Cx} {xz : Xs} {G : List Fn} {W : WX} {pos : Pos}
theorem lt_val {a : E} {e : Expr} (h : PE X e (LE (kx X xz) X.mg G W a)) (he : ∀ whole, isTrue e X.env whole = (do let v ← whole; standAt e.pos; holding [v] (truthy v))) : PT X e (LT (kx X xz) X.mg G W a) :=
  PT.imp (pt_val h he) fun σ H Q z => z.le
theorem lt_cmp {o : CmpOp} {a b : E} {ea eb : Expr} (hu : X.A.units + 65 < cLine) (ha : PE X ea (LE (kx X xz) X.mg G W a)) (hb : PE X eb (LE (kx X xz) X.mg G W b)) (hm : behindInMarks o eb = false) : PT X (.Compare ea [o] [eb] pos) (LT (kx X xz) X.mg G W (.cmp o a b)) :=
  PT.imp (pt_cmpR (op_cmpX o hu) ha hb hm) fun σ H Q h => cmp_imp h.le
theorem lt_not {a : E} {ea : Expr} (ha : PT X ea (LT (kx X xz) X.mg G W a)) : PT X (.UnaryOp .Not ea pos) (LT (kx X xz) X.mg G W (.not a)) := by
  refine PT.imp (pt_not ha) fun σ H Q ⟨ρ, Fz, Bz, f, re, wf, out⟩ => ?_
  simp only [evE] at out
  refine LT.sub re (At.start wf) ?_ ?_ ?_
  · intro x ρ' e; rw [e] at out; exact out
  · intro x ρ'
    refine ⟨fun e => by rw [e] at out; exact out, fun e => ?_⟩
    rw [e] at out
    simp only [R.bind] at out
    split at out
    · exact ⟨_, rfl⟩
    · exact out.elim
  · intro k ρ' e H' Fz' fρ re' a'
    rw [e] at out
    exact out H' Fz' fρ re' (a'.weak fun h => by simpa [E.pure] using h)
/-- and, or: as values -/
theorem le_and {a b : E} {ea y : Expr} {r : List Expr} (ha : PE X ea (LE (kx X xz) X.mg G W a)) (hb : PE X (.BoolOp .And (y :: r) pos) (LE (kx X xz) X.mg G W b)) : PE X (.BoolOp .And (ea :: y :: r) pos) (LE (kx X xz) X.mg G W (.and a b)) := by
  refine PE.imp (pe_and ha hb) fun σ H Q ⟨ρ, Fz, Bz, f, re, wf, out⟩ => ?_
  simp only [evE] at out
  refine LE.one re (At.start wf) out ?_
  intro x ρ1 v H1 Fz1 fρ fd re1 rv s t out1
  split at out1
  · cases rv with
    | dat rp z =>
      have e := rp.bool_inv; subst e
      exact ⟨true, rfl, by rw [if_pos rfl]; exact LE.last re1 t out1 fun h => by simpa [E.pure] using h⟩
  · cases rv with
    | dat rp z =>
      have e := rp.bool_inv; subst e
      refine ⟨false, rfl, ?_⟩
      rw [if_neg (by decide)]
      exact out1.made (S := Fz1) re1 t (fun h => by simp only [E.pure, Bool.and_eq_true] at h; simp [h.1]) (.old (.bl _)) fun _ h => h
  · exact out1.elim
theorem le_or {a b : E} {ea y : Expr} {r : List Expr} (ha : PE X ea (LE (kx X xz) X.mg G W a)) (hb : PE X (.BoolOp .Or (y :: r) pos) (LE (kx X xz) X.mg G W b)) : PE X (.BoolOp .Or (ea :: y :: r) pos) (LE (kx X xz) X.mg G W (.or a b)) := by
  refine PE.imp (pe_or ha hb) fun σ H Q ⟨ρ, Fz, Bz, f, re, wf, out⟩ => ?_
  simp only [evE] at out
  refine LE.one re (At.start wf) out ?_
  intro x ρ1 v H1 Fz1 fρ fd re1 rv s t out1
  split at out1
  · cases rv with
    | dat rp z =>
      have e := rp.bool_inv; subst e
      refine ⟨true, rfl, ?_⟩
      rw [if_pos rfl]
      exact out1.made (S := Fz1) re1 t (fun h => by simp only [E.pure, Bool.and_eq_true] at h; simp [h.1]) (.old (.bl _)) fun _ h => h
  · cases rv with
    | dat rp z =>
      have e := rp.bool_inv; subst e
      exact ⟨false, rfl, by rw [if_neg (by decide)]; exact LE.last re1 t out1 fun h => by simpa [E.pure] using h⟩
  · exact out1.elim
/-- .. as tests -/
theorem and_test {a b : E} {σ : L2.St} {H : Hp} {Q : Bool → Hp → Prop} (h : LT (kx X xz) X.mg G W (.and a b) σ H Q) : tAnd (LT (kx X xz) X.mg G W a) (LT (kx X xz) X.mg G W b) σ H Q := by
  obtain ⟨ρ, Fz, Bz, f, re, wf, out⟩ := h
  simp only [evE] at out
  refine LT.sub re (At.start wf) ?_ ?_ ?_
  · intro x ρ' e; rw [e] at out; exact out
  · intro x ρ'
    refine ⟨fun e => by rw [e] at out; exact out, fun e => ?_⟩
    rw [e] at out
    simp only [R.bind] at out
    split at out
    · exact ⟨_, rfl⟩
    · exact ⟨_, rfl⟩
    · exact out.elim
  · intro k ρ' e H' Fz' fρ re' a'
    rw [e] at out
    cases k with
    | true => rw [if_pos rfl]; exact LT.last re' a' out fun h => by simpa [E.pure] using h
    | false => rw [if_neg (by decide)]; exact out H' Fz' fρ re' (a'.weak fun h => by simp only [E.pure, Bool.and_eq_true] at h; simp [h.1])
theorem or_test {a b : E} {σ : L2.St} {H : Hp} {Q : Bool → Hp → Prop} (h : LT (kx X xz) X.mg G W (.or a b) σ H Q) : tOr (LT (kx X xz) X.mg G W a) (LT (kx X xz) X.mg G W b) σ H Q := by
  obtain ⟨ρ, Fz, Bz, f, re, wf, out⟩ := h
  simp only [evE] at out
  refine LT.sub re (At.start wf) ?_ ?_ ?_
  · intro x ρ' e; rw [e] at out; exact out
  · intro x ρ'
    refine ⟨fun e => by rw [e] at out; exact out, fun e => ?_⟩
    rw [e] at out
    simp only [R.bind] at out
    split at out
    · exact ⟨_, rfl⟩
    · exact ⟨_, rfl⟩
    · exact out.elim
  · intro k ρ' e H' Fz' fρ re' a'
    rw [e] at out
    cases k with
    | true => rw [if_pos rfl]; exact out H' Fz' fρ re' (a'.weak fun h => by simp only [E.pure, Bool.and_eq_true] at h; simp [h.1])
    | false => rw [if_neg (by decide)]; exact LT.last re' a' out fun h => by simpa [E.pure] using h
theorem lw_and {a b : E} {ea y : Expr} {r : List Expr} (ha : PT X ea (LT (kx X xz) X.mg G W a)) (hb : PW X (.BoolOp .And (y :: r) pos) (LT (kx X xz) X.mg G W b)) : PW X (.BoolOp .And (ea :: y :: r) pos) (LT (kx X xz) X.mg G W (.and a b)) :=
  ⟨fun wh pins s σ H Q I z => (pw_and ha hb).run wh pins s σ H Q I (and_test z)⟩
theorem lw_or {a b : E} {ea y : Expr} {r : List Expr} (ha : PT X ea (LT (kx X xz) X.mg G W a)) (hb : PW X (.BoolOp .Or (y :: r) pos) (LT (kx X xz) X.mg G W b)) : PW X (.BoolOp .Or (ea :: y :: r) pos) (LT (kx X xz) X.mg G W (.or a b)) :=
  ⟨fun wh pins s σ H Q I z => (pw_or ha hb).run wh pins s σ H Q I (or_test z)⟩
/-- a if c else b -/
theorem le_ife {c a b : E} {ec ea eb : Expr} (hc : PT X ec (LT (kx X xz) X.mg G W c)) (ha : PE X ea (LE (kx X xz) X.mg G W a)) (hb : PE X eb (LE (kx X xz) X.mg G W b)) : PE X (.IfExp ec ea eb pos) (LE (kx X xz) X.mg G W (.ife c a b)) := by
  refine PE.imp (pe_ifExp hc ha hb) fun σ H Q ⟨ρ, Fz, Bz, f, re, wf, out⟩ => ?_
  simp only [evE] at out
  refine LT.sub re (At.start wf) ?_ ?_ ?_
  · intro x ρ' e; rw [e] at out; exact out
  · intro x ρ'
    refine ⟨fun e => by rw [e] at out; exact out, fun e => ?_⟩
    rw [e] at out
    simp only [R.bind] at out
    split at out
    · exact ⟨_, rfl⟩
    · exact ⟨_, rfl⟩
    · exact out.elim
  · intro k ρ' e H' Fz' fρ re' a'
    rw [e] at out
    cases k with
    | true => rw [if_pos rfl]; exact LE.last re' a' out fun h => by simp only [E.pure, Bool.and_eq_true] at h; simp [h.1.1, h.1.2]
    | false => rw [if_neg (by decide)]; exact LE.last re' a' out fun h => by simp only [E.pure, Bool.and_eq_true] at h; simp [h.1.1, h.2]
theorem lt_ife {c a b : E} {ec ea eb : Expr} (hc : PT X ec (LT (kx X xz) X.mg G W c)) (ha : PT X ea (LT (kx X xz) X.mg G W a)) (hb : PT X eb (LT (kx X xz) X.mg G W b)) : PT X (.IfExp ec ea eb pos) (LT (kx X xz) X.mg G W (.ife c a b)) := by
  refine ⟨fun pins s σ H Q I ⟨ρ, Fz, Bz, f, re, wf, out⟩ => ?_⟩
  simp only [evE] at out
  have first : LT (kx X xz) X.mg G W c σ H (fun k H1 => if k = true then LT (kx X xz) X.mg G W a σ H1 Q else LT (kx X xz) X.mg G W b σ H1 Q) := by
    refine LT.sub re (At.start wf) ?_ ?_ ?_
    · intro x ρ' e; rw [e] at out; exact out
    · intro x ρ'
      refine ⟨fun e => by rw [e] at out; exact out, fun e => ?_⟩
      rw [e] at out
      simp only [R.bind] at out
      split at out
      · exact ⟨_, rfl⟩
      · exact ⟨_, rfl⟩
      · exact out.elim
    · intro k ρ' e H' Fz' fρ re' a'
      rw [e] at out
      cases k with
      | true => rw [if_pos rfl]; exact LT.last re' a' out fun h => by simp only [E.pure, Bool.and_eq_true] at h; simp [h.1.1, h.1.2]
      | false => rw [if_neg (by decide)]; exact LT.last re' a' out fun h => by simp only [E.pure, Bool.and_eq_true] at h; simp [h.1.1, h.2]
  show wpAny _ _ (do if ← isTrue ec X.env (eval ec X.env) then isTrue ea X.env (eval ea X.env) else isTrue eb X.env (eval eb X.env)) _ _ s
  refine wpAny_bind (thn (hc.run pins s σ H _ I first) fun k s1 ⟨H1, I1, q1⟩ => ?_)
  cases k with
  | true => rw [if_pos rfl] at q1 ⊢; exact ha.run pins s1 σ H1 Q I1 q1
  | false => rw [if_neg (by decide)] at q1 ⊢; exact hb.run pins s1 σ H1 Q I1 q1
end
end DE
end

section
set_option Elab.async false
set_option linter.all false
/-! DE10: arguments, displays, items, slices, built-in functions. -/
namespace DE
open PySem PySem.Spec PyProof.Rows L2

section
variable {K : Kx} {mg : Str → Option Value} {G : List Fn} {W : WX} {σ : L2.St} {Bz Fz0 Fz Fz1 Fz2 : Addr → Prop} {pu p q : Bool} {H0 H H1 H2 : Hp} {f0 f r f1 r1 f2 g : Addr → Nat} {ρ ρ1 ρ2 : Env}
theorem cons_imp {e : E} {es : Es} {Q : List V → Hp → Prop} (h : LEs K mg G W (.cons e es) σ H Q) : tCons (LE K mg G W e) (LEs K mg G W es) σ H Q := by
  obtain ⟨ρ, Fz, Bz, f, re, wf, out⟩ := h
  simp only [evEs, R.two] at out
  refine LE.sub (k := fun d ρ => R.ok d ρ) re (At.start wf) ?_ ?_ ?_
  · intro x ρ' e; rw [e] at out; exact out
  · intro e; rw [e] at out; exact out
  · intro x ρ1 e1 v H1 Fz1 fρ1 fd1 re1 rv1 s1 t1
    rw [e1] at out
    simp only [R.bind] at out
    by_cases hs : (x.ntr || es.pure) = true
    · rw [if_pos hs] at out
      refine LEs.sub re1 t1 ?_ ?_ ?_
      · intro x ρ' e; rw [e] at out; exact out
      · intro e; rw [e] at out; exact out
      · intro xs ρ2 e2 vs H2 Fz2 fρ2 fd2 re2 rvs s2 t2
        rw [e2] at out
        have rv1' := rv1.frame (by simpa using hs) s2 (t1.wf.cong fun b => by omega)
        exact out (v :: vs) H2 Fz2 fρ2 (fun b => fd1 b + fd2 b) re2 (.cons rv1' rvs fun _ => rfl) ((t2.weak fun h => by simpa [Es.pure] using h).cong fun b => by omega)
    · rw [if_neg hs] at out
      exact out.elim
theorem nil_imp {Q : List V → Hp → Prop} (h : LEs K mg G W .nil σ H Q) : tNil σ H Q := by
  obtain ⟨ρ, Fz, Bz, f, re, wf, out⟩ := h
  simp only [evEs] at out
  exact out [] H Fz f (fun _ => 0) re (.nil fun _ => rfl) (At.start wf)
/-- arguments, then a step -/
theorem LEs.one {a : Es} {k : List D → Env → R D} {Q : VK} {R1 : List V → Hp → Prop} (re : Re K H Fz Bz σ ρ f) (t : At Bz p H0 Fz0 f0 H Fz f r) (out : Out K mg Bz σ pu H0 Fz0 f0 W ((evEs G a ρ).bind k) Q)
    (fin : ∀ x ρ1 v H1 Fz1 fρ fd, Re K H1 Fz1 Bz σ ρ1 fρ → RvL K H1 Fz1 Bz v x fd → Stp a.pure H Fz f H1 Fz1 (fun b => fρ b + fd b) → At Bz (p && a.pure) H0 Fz0 f0 H1 Fz1 fρ (fun b => r b + fd b) → Out K mg Bz σ pu H0 Fz0 f0 W (k x ρ1) Q → R1 v H1) :
    LEs K mg G W a σ H R1 := by
  refine LEs.sub re t ?_ ?_ ?_
  · intro x ρ' e
    exact out.bindL_ex e
  · exact out.bindL_no
  · intro d ρ' e v H' Fz' fρ fd re' rv s a
    exact fin d ρ' v H' Fz' fρ fd re' rv s a (out.bindL_ok e)
/-- a slice's part -/
def LO (K : Kx) (mg : Str → Option Value) (G : List Fn) (W : WX) : O → TO
  | .none => tNoPart
  | .some e => tPart (LE K mg G W e)
theorem LO.one {o : O} {k : Option Int → Env → R D} {Q : VK} {R1 : Option Int → Hp → Prop} (re : Re K H Fz Bz σ ρ f) (t : At Bz p H0 Fz0 f0 H Fz f r) (out : Out K mg Bz σ pu H0 Fz0 f0 W ((evO G o ρ).bind k) Q)
    (fin : ∀ x ρ1 H1 Fz1 fρ, Re K H1 Fz1 Bz σ ρ1 fρ → Stp o.pure H Fz f H1 Fz1 fρ → At Bz (p && o.pure) H0 Fz0 f0 H1 Fz1 fρ r → Out K mg Bz σ pu H0 Fz0 f0 W (k x ρ1) Q → R1 x H1) :
    LO K mg G W o σ H R1 := by
  cases o with
  | none =>
    simp only [evO, R.bind] at out
    exact fin none ρ H Fz f re Stp.refl (t.weak fun h => by simpa [O.pure] using h) out
  | some e =>
    simp only [evO] at out
    have out' : Out K mg Bz σ pu H0 Fz0 f0 W ((evE G e ρ).bind fun x ρ1 => (match x with | .dat (.int i) => R.ok (some i) ρ1 | _ => R.no).bind k) Q := by
      revert out
      cases evE G e ρ with
      | ok d ρ' => exact id
      | ex d ρ' => exact id
      | no => exact id
    refine LE.one re t out' ?_
    intro x ρ1 v H1 Fz1 fρ fd re1 rv s1 t1 out1
    split at out1
    · cases rv with
      | dat rp z =>
        have e := rp.int_inv; subst e
        exact ⟨_, rfl, fin _ ρ1 H1 Fz1 fρ re1 (s1.less fun b => by omega) (t1.less fun b => by omega) out1⟩
    · exact out1.elim
end

section
variable {X : Cx} {xz : Xs} {G : List Fn} {W : WX} {pos : Pos}
theorem le_pnil : PA X [] (LEs (kx X xz) X.mg G W .nil) := PA.imp pa_nil fun σ H Q h => nil_imp h
theorem le_pcons {e : Expr} {es : List Expr} {a : E} {as : Es} (ha : PE X e (LE (kx X xz) X.mg G W a)) (hr : PA X es (LEs (kx X xz) X.mg G W as)) (hs : starEach (e :: es) X.env = (false, eval e X.env) :: starEach es X.env) : PA X (e :: es) (LEs (kx X xz) X.mg G W (.cons a as)) :=
  PA.imp (pa_cons ha hr hs) fun σ H Q h => cons_imp h
/-- frozen -/
theorem le_frz {a : E} {e : Expr} (ha : PE X e (LE (kx X xz) X.mg G W a)) : PE X e (LE (kx X xz) X.mg G W (.frz a)) := by
  refine PE.imp ha fun σ H Q ⟨ρ, Fz, Bz, f, re, wf, out⟩ => ?_
  simp only [evE] at out
  refine LE.one re (At.start wf) out ?_
  intro x ρ1 v H1 Fz1 fρ fd re1 rv s t out1
  cases hz : x.fz with
  | none => rw [hz] at out1; exact out1.elim
  | some p =>
    rw [hz] at out1
    have t' := t.freeze (r1 := fun _ => 0) (g := fd) fun b => by omega
    exact out1.made (S := fun b => Fz1 b ∨ 1 ≤ fd b) (re1.monoF fun b h => .inl h) t' (fun h => by simpa [E.pure] using h) (.old (rv.freeze hz)) fun _ h => h
/-- displays -/
theorem le_tup {es : Es} {as : List Expr} {x1} (ha : PA X as (LEs (kx X xz) X.mg G W es)) : PE X (.Tuple as x1 pos) (LE (kx X xz) X.mg G W (.tup es)) := by
  refine PE.imp (pe_tupN ha) fun σ H Q ⟨ρ, Fz, Bz, f, re, wf, out⟩ => ?_
  simp only [evE] at out
  refine LEs.one re (At.start wf) out ?_
  intro xs ρ1 vs H1 Fz1 fρ fd re1 rv s t out1
  split at out1
  · rename_i ds hz
    split at out1
    · rename_i hf
      have rp := rv.freeze hz
      refine ⟨by rw [rp.length]; exact fits_line hf, fun q ob hq hdn => ?_⟩
      have t' := t.freeze (r1 := fun _ => 0) (g := fd) fun b => by omega
      exact out1.made (S := fun b => Fz1 b ∨ 1 ≤ fd b) (re1.monoF fun b h => .inl h) t' (fun h => by simpa [E.pure] using h) (Mk.tuple hq hdn rp) fun _ h => h
    · exact out1.elim
  · exact out1.elim
theorem le_lst {es : Es} {as : List Expr} (ha : PA X as (LEs (kx X xz) X.mg G W es)) : PE X (.List as pos) (LE (kx X xz) X.mg G W (.lst es)) := by
  refine PE.imp (pe_lst ha) fun σ H Q ⟨ρ, Fz, Bz, f, re, wf, out⟩ => ?_
  simp only [evE] at out
  refine LEs.one re (At.start wf) out ?_
  intro xs ρ1 vs H1 Fz1 fρ fd re1 rv s t out1
  split at out1
  · rename_i hf
    refine ⟨by rw [rv.length]; exact fits_line hf, fun q hq => ?_⟩
    have up : ∀ b o, H1 b = some o → (upd H1 q (.lst vs)) b = some o := fun b o e => by rw [upd_ne (ne_of_none e hq)]; exact e
    exact out1 _ _ Fz1 fρ (fun b => fd b + if b = q then 1 else 0) (re1.keep (fun b o e _ => up b o e) (fun _ z => z) fun b o e _ => up b o e) (.lst upd_same (rv.same up fun _ z => z) fun b => rfl)
      ((t.new (o := .lst vs) (r1 := fun b => fd b + if b = q then 1 else 0) hq trivial fun b => by simp).weak fun h => by simpa [E.pure] using h)
  · exact out1.elim
/-- slices -/
theorem lo_none : PO X none (LO (kx X xz) X.mg G W .none) := po_none
theorem lo_some {a : E} {e : Expr} (h : PE X e (LE (kx X xz) X.mg G W a)) : PO X (some e) (LO (kx X xz) X.mg G W (.some a)) := po_some h
theorem le_sl {a : E} {lo hi : O} {ea : Expr} {el eh : Option Expr} {p2 : Pos} (ha : PE X ea (LE (kx X xz) X.mg G W a)) (hl : PO X el (LO (kx X xz) X.mg G W lo)) (hh : PO X eh (LO (kx X xz) X.mg G W hi)) : PE X (.Subscript ea (.Slice el eh none p2) pos) (LE (kx X xz) X.mg G W (.sl a lo hi)) := by
  refine PE.imp (pe_slice sl_data ha hl hh) fun σ H Q ⟨ρ, Fz, Bz, f, re, wf, out⟩ => ?_
  simp only [evE] at out
  refine LE.one re (At.start wf) out ?_
  intro x ρ1 v H1 Fz1 fρ1 fd re1 rv s1 t1 out1
  refine LO.one re1 t1 out1 ?_
  intro l ρ2 H2 Fz2 fρ2 re2 s2 t2 out2
  refine LO.one re2 t2 out2 ?_
  intro u ρ3 H3 Fz3 fρ3 re3 s3 t3 out3
  cases hd : slV x l u with
  | none => rw [hd] at out3; exact out3.elim
  | some d =>
    rw [hd] at out3
    cases hz : x.fz with
    | none => simp [slV, hz] at hd
    | some w =>
      have n := ntr_of_own (own_of_fz hz)
      have rv2 := rv.frame (.inl n) s2 (t1.wf.cong fun b => by omega)
      have rv3 := rv2.frame (.inl n) s3 (t2.wf.cong fun b => by omega)
      have t' := t3.freeze (r1 := fun _ => 0) (g := fd) fun b => by omega
      refine ⟨_, w, d, rv3.freeze hz, by simpa [slV, hz, D.fz] using hd, fun v' H' m => ?_⟩
      exact out3.made (re3.monoF fun b h => .inl h) t' (fun h => by simpa [E.pure, Bool.and_assoc] using h) m fun _ h => h

/-- built-in functions -/
theorem biD_atom {b : Bi} {ps : List PyData} {d : PyData} {K : Kx} {H : Hp} {S S' : Addr → Prop} {v : V} (h : biD b ps = some d) (r : Rp K.K H S v d) : Rp K.K H S' v d := by
  have at_ : (∃ i, d = .int i) ∨ (∃ k, d = .bool k) ∨ ∃ x, d = .str x := by
    unfold biD at h
    split at h
    · unfold lenD at h; split at h <;> (try split at h) <;> (try cases h) <;> first | exact .inl ⟨_, rfl⟩ | skip
    · unfold sumD at h
      split at h
      · obtain ⟨_, _, e⟩ := Option.map_eq_some_iff.mp h; subst e; exact .inl ⟨_, rfl⟩
      · obtain ⟨_, _, e⟩ := Option.map_eq_some_iff.mp h; subst e; exact .inl ⟨_, rfl⟩
      · cases h
    · unfold maxD at h
      split at h
      · obtain ⟨_, _, e⟩ := Option.bind_eq_some_iff.mp h
        obtain ⟨_, _, e⟩ := Option.map_eq_some_iff.mp e; subst e; exact .inl ⟨_, rfl⟩
      · obtain ⟨_, _, e⟩ := Option.bind_eq_some_iff.mp h
        obtain ⟨_, _, e⟩ := Option.map_eq_some_iff.mp e; subst e; exact .inl ⟨_, rfl⟩
      · cases h; exact .inl ⟨_, rfl⟩
      · cases h
    · unfold minD at h
      split at h
      · obtain ⟨_, _, e⟩ := Option.bind_eq_some_iff.mp h
        obtain ⟨_, _, e⟩ := Option.map_eq_some_iff.mp e; subst e; exact .inl ⟨_, rfl⟩
      · obtain ⟨_, _, e⟩ := Option.bind_eq_some_iff.mp h
        obtain ⟨_, _, e⟩ := Option.map_eq_some_iff.mp e; subst e; exact .inl ⟨_, rfl⟩
      · cases h; exact .inl ⟨_, rfl⟩
      · cases h
    · unfold absD at h; split at h <;> cases h; exact .inl ⟨_, rfl⟩
    · unfold intD at h
      split at h
      · cases h; exact .inl ⟨_, rfl⟩
      · cases h; exact .inl ⟨_, rfl⟩
      · split at h
        · obtain ⟨_, _, e⟩ := Option.map_eq_some_iff.mp h; subst e; exact .inl ⟨_, rfl⟩
        · cases h
      · cases h
    · unfold strD at h; split at h <;> (try split at h) <;> cases h; exact .inr (.inr ⟨_, rfl⟩)
    · unfold allD at h; split at h <;> (try cases h)
      obtain ⟨_, _, e⟩ := Option.map_eq_some_iff.mp h; subst e; exact .inr (.inl ⟨_, rfl⟩)
    · unfold anyD at h; split at h <;> (try cases h)
      obtain ⟨_, _, e⟩ := Option.map_eq_some_iff.mp h; subst e; exact .inr (.inl ⟨_, rfl⟩)
    · unfold reprD at h; split at h <;> (try split at h) <;> cases h; exact .inr (.inr ⟨_, rfl⟩)
    · unfold lsetD at h
      split at h
      · obtain ⟨_, _, e⟩ := Option.bind_eq_some_iff.mp h
        split at e
        · cases e; exact .inl ⟨_, rfl⟩
        · cases e
      · obtain ⟨_, _, e⟩ := Option.bind_eq_some_iff.mp h
        split at e
        · cases e; exact .inl ⟨_, rfl⟩
        · cases e
      · cases h
    · cases h
  rcases at_ with ⟨_, e⟩ | ⟨_, e⟩ | ⟨_, e⟩ <;> subst e
  · have := r.int_inv; subst this; exact .int _
  · have := r.bool_inv; subst this; exact .bl _
  · have := r.str_inv; subst this; exact .str _
theorem bi_impV {b : Bi} {es : Es} {σ : L2.St} {H : Hp} {Q : VK} (hb : b.makes = false) (h : LE (kx X xz) X.mg G W (.bi b es) σ H Q) : tCB (rBiV X.K (biD b)) (LEs (kx X xz) X.mg G W es) σ H Q := by
  obtain ⟨ρ, Fz, Bz, f, re, wf, out⟩ := h
  simp only [evE] at out
  refine LEs.one re (At.start wf) out ?_
  intro xs ρ1 vs H1 Fz1 fρ fd re1 rv s t out1
  unfold biV at out1
  rw [hb, if_neg (by decide)] at out1
  cases hv : D.viewL xs with
  | none => rw [hv] at out1; exact out1.elim
  | some ps =>
    rw [hv] at out1
    simp only [Option.bind_some] at out1
    cases hd : biD b ps with
    | none => rw [hd] at out1; exact out1.elim
    | some d =>
      rw [hd] at out1
      exact ⟨_, ps, d, rv.look hv, hd, fun v S' r => out1.made (S := Fz1) re1 t (fun h => by simpa [E.pure] using h) (.old (biD_atom hd r)) fun _ h => h⟩
theorem bi_impF {b : Bi} {es : Es} {σ : L2.St} {H : Hp} {Q : VK} (hb : b.makes = true) (h : LE (kx X xz) X.mg G W (.bi b es) σ H Q) : tCB (rBiF X.K (biF b)) (LEs (kx X xz) X.mg G W es) σ H Q := by
  obtain ⟨ρ, Fz, Bz, f, re, wf, out⟩ := h
  simp only [evE] at out
  refine LEs.one re (At.start wf) out ?_
  intro xs ρ1 vs H1 Fz1 fρ fd re1 rv s t out1
  unfold biV at out1
  rw [hb, if_pos rfl] at out1
  cases hv : D.fzL xs with
  | none => rw [hv] at out1; exact out1.elim
  | some ps =>
    rw [hv] at out1
    simp only [Option.bind_some] at out1
    cases hd : biF b ps with
    | none => rw [hd] at out1; exact out1.elim
    | some d =>
      rw [hd] at out1
      have t' := t.freeze (r1 := fun _ => 0) (g := fd) fun b => by omega
      exact ⟨_, ps, d, rv.freeze hv, hd, fun v H' m => out1.made (re1.monoF fun b h => .inl h) t' (fun h => by simpa [E.pure] using h) m fun _ h => h⟩
end
end DE
end

section
set_option Elab.async false
set_option linter.all false
set_option maxRecDepth 100000
/-! DE10b: dicts: keys, facts, rules. -/
namespace DE
open PySem PySem.Spec PyProof.Rows L2

mutual
/-- data as a key -/
def nk : PyData → NestedKey
  | .int i => .num i
  | .str x => .text x
  | .tuple ds => .tup (nkL ds)
  | _ => .none
def nkL : List PyData → List NestedKey
  | [] => []
  | d :: ds => nk d :: nkL ds
end
mutual
theorem data_nk : ∀ {d : PyData}, tkOk d = true → NestedKey.data (nk d) = d
  | .int _, _ => by simp [nk, NestedKey.data]
  | .str _, _ => by simp [nk, NestedKey.data]
  | .tuple ds, h => by
    simp only [nk, NestedKey.data]
    rw [datas_nk (by simpa [tkOk] using h)]
theorem datas_nk : ∀ {d : List PyData}, tkOkL d = true → NestedKey.datas (nkL d) = d
  | [], _ => by simp [nkL, NestedKey.datas]
  | d :: ds, h => by
    rw [tkOkL, Bool.and_eq_true] at h
    simp only [nkL, NestedKey.datas]
    rw [data_nk h.1, datas_nk h.2]
end
mutual
theorem depth_nk : ∀ {d : PyData}, tkOk d = true → (nk d).depth = d.depth
  | .int _, _ => by simp [nk, NestedKey.depth, PyData.depth]
  | .str _, _ => by simp [nk, NestedKey.depth, PyData.depth]
  | .tuple ds, h => by
    simp only [nk, NestedKey.depth, PyData.depth]
    rw [depths_nk (by simpa [tkOk] using h)]
theorem depths_nk : ∀ {d : List PyData}, tkOkL d = true → NestedKey.depthAll (nkL d) = PyData.depthAll d
  | [], _ => by simp [nkL, NestedKey.depthAll, PyData.depthAll]
  | d :: ds, h => by
    rw [tkOkL, Bool.and_eq_true] at h
    simp only [nkL, NestedKey.depthAll, PyData.depthAll]
    rw [depth_nk h.1, depths_nk h.2]
end
mutual
theorem data_inj : ∀ {a b : NestedKey}, a.data = b.data → a = b
  | .none, .none, _ => rfl
  | .num _, .num _, h => by simp only [NestedKey.data, PyData.int.injEq] at h; rw [h]
  | .text _, .text _, h => by simp only [NestedKey.data, PyData.str.injEq] at h; rw [h]
  | .tup as, .tup bs, h => by
    simp only [NestedKey.data, PyData.tuple.injEq] at h
    rw [datas_inj h]
  | .none, .num _, h => by simp [NestedKey.data] at h
  | .none, .text _, h => by simp [NestedKey.data] at h
  | .none, .tup _, h => by simp [NestedKey.data] at h
  | .num _, .none, h => by simp [NestedKey.data] at h
  | .num _, .text _, h => by simp [NestedKey.data] at h
  | .num _, .tup _, h => by simp [NestedKey.data] at h
  | .text _, .none, h => by simp [NestedKey.data] at h
  | .text _, .num _, h => by simp [NestedKey.data] at h
  | .text _, .tup _, h => by simp [NestedKey.data] at h
  | .tup _, .none, h => by simp [NestedKey.data] at h
  | .tup _, .num _, h => by simp [NestedKey.data] at h
  | .tup _, .text _, h => by simp [NestedKey.data] at h
theorem datas_inj : ∀ {a b : List NestedKey}, NestedKey.datas a = NestedKey.datas b → a = b
  | [], [], _ => rfl
  | a :: as, b :: bs, h => by
    simp only [NestedKey.datas, List.cons.injEq] at h
    rw [data_inj h.1, datas_inj h.2]
  | [], _ :: _, h => by simp [NestedKey.datas] at h
  | _ :: _, [], h => by simp [NestedKey.datas] at h
end
mutual
/-- a key leans on no list -/
theorem Rp.unl {K : PySem.W.Frag} {H : Hp} {S S' : Addr → Prop} : ∀ {d : PyData} {v : V}, tkOk d = true → Rp K H S v d → Rp K H S' v d
  | .int _, _, _, h => by cases h; exact .int _
  | .str _, _, _, h => by cases h; exact .str _
  | .tuple ds, _, k, h => by
    cases h with
    | tup q r => exact .tup q (RpL.unl (by simpa [tkOk] using k) r)
theorem RpL.unl {K : PySem.W.Frag} {H : Hp} {S S' : Addr → Prop} : ∀ {d : List PyData} {v : List V}, tkOkL d = true → RpL K H S v d → RpL K H S' v d
  | [], _, _, h => by cases h; exact .nil
  | d :: ds, _, k, h => by
    rw [tkOkL, Bool.and_eq_true] at k
    cases h with
    | cons a b => exact .cons (Rp.unl k.1 a) (RpL.unl k.2 b)
end
section
variable {X : Cx} {pins : List (Addr × Obj)} {σ : L2.St} {H : Hp} {s : Shared} {S S' : Addr → Prop}
mutual
theorem nested_of (I : Inv X pins σ H s) : ∀ {k : NestedKey} {v : V} {u : Value}, Rp X.K H S v k.data → RelV v u → NestedIs s.heap k u
  | .none, v, u, h, r => by
    simp only [NestedKey.data] at h
    cases h
    cases (show u = Value.none from r)
    exact .none
  | .num i, v, u, h, r => by
    simp only [NestedKey.data] at h
    cases h
    obtain ⟨t, e⟩ := (show ∃ t, u = Value.int i t from r)
    subst e; exact .int i t
  | .text i, v, u, h, r => by
    simp only [NestedKey.data] at h
    cases h
    obtain ⟨t, e⟩ := (show ∃ t, u = Value.str i t from r)
    subst e; exact .text i t
  | .tup ks, v, u, h, r => by
    simp only [NestedKey.data] at h
    cases h with
    | tup q rr =>
      cases (show u = Value.ref _ from r)
      obtain ⟨its, vs, pl, hz⟩ := I.tuple q.sq
      obtain ⟨o, e1, e2, n, e3⟩ := pl
      exact .tup e1 e2 e3 (by simpa using nesteds_of I rr vs)
theorem nesteds_of (I : Inv X pins σ H s) : ∀ {ks : List NestedKey} {vs : List V} {us : List Value}, RpL X.K H S vs (NestedKey.datas ks) → Vals vs us → NestedAll s.heap ks us
  | [], vs, us, h, r => by
    simp only [NestedKey.datas] at h
    cases h
    cases r
    exact .nil
  | k :: ks, vs, us, h, r => by
    simp only [NestedKey.datas] at h
    cases h with
    | cons a b =>
      cases r with
      | cons c d => exact .cons (nested_of I a c) (nesteds_of I b d)
end
/-- a dict of tuple keys that stands -/
theorem dtt_of (I : Inv X pins σ H s) {a : Addr} {es : Array DictEntry} {ep : Nat} {kvs : List (PyData × PyData)} (e : H a = some (rawT a es ep)) (r : DtR X.prog X.w X.K H S kvs es) :
    (a == sysModules) = false ∧ kvs.length ≤ sizeLine ∧ ∃ xs : List (NestedKey × Addr × Value), es.toList = xs.map (entryOfKey (nestedKind X.prog X.w)) ∧ (xs.map (·.1)).Nodup ∧ Paired (EntR X.K H S) kvs xs ∧ s.heap.DictOfH (nestedKind X.prog X.w) a xs := by
  obtain ⟨⟨⟨o, ho, hc, hd⟩, lo⟩, _, _⟩ := (show ObjOk X.prog X.w H s.heap a (rawT a es ep) from I.hok a _ e)
  obtain ⟨l, xs, ex, n, p⟩ := r
  have all : ∀ {kvs : List (PyData × PyData)} {xs : List (NestedKey × Addr × Value)}, Paired (EntR X.K H S) kvs xs → ∀ x ∈ xs, (nestedKind X.prog X.w).is s.heap x.1 x.2.1 := by
    intro kvs xs p
    induction p with
    | nil => intro x hx; exact nomatch hx
    | @cons p q ps qs hq t ih =>
      intro x hx
      rcases List.mem_cons.mp hx with e | hx
      · subst e
        obtain ⟨h1, h2, h3, _⟩ := hq
        refine ⟨nested_of (S := fun _ => False) (v := .ref x.2.1) I (by rw [h1]; exact h3) (show Value.ref x.2.1 = Value.ref x.2.1 from rfl), h2⟩
      · exact ih x hx
  exact ⟨lo, l, xs, ex, n, p, o, es, ep, ho, hc, hd, ex, all p, n⟩
/-- its look -/
theorem ent_get {K : PySem.W.Frag} {k : PyData} (hk : tkOk k = true) : ∀ {kvs : List (PyData × PyData)} {xs : List (NestedKey × Addr × Value)}, Paired (EntR K H S) kvs xs →
    (∀ d, aGet kvs k = some d → ∃ p, atKey xs (nk k) = some p ∧ ∃ v, RelV v p.2 ∧ Rp K H S v d) ∧ (aGet kvs k = none → atKey xs (nk k) = none)
  | [], [], _ => ⟨fun d h => by simp [aGet] at h, fun _ => rfl⟩
  | (k', d') :: kvs, x :: xs, h => by
    cases h with
    | cons h t =>
      obtain ⟨i1, i2⟩ := ent_get hk t
      obtain ⟨h1, h2, h3, v, h4, h5⟩ := h
      by_cases e : k' = k
      · have ex : x.1 = nk k := data_inj (by rw [h1, data_nk hk]; exact e)
        have a : atKey (x :: xs) (nk k) = some x.2 := by simp [atKey, List.find?_cons, ex]
        refine ⟨fun d hd => ⟨_, a, v, h4, ?_⟩, fun hd => ?_⟩
        · simp only [aGet, if_pos e, Option.some.injEq] at hd
          rw [← hd]; exact h5
        · simp [aGet, e] at hd
      · have ex : ¬ x.1 = nk k := fun z => e (by have z' := congrArg NestedKey.data z; rw [h1, data_nk hk] at z'; exact z')
        have a : atKey (x :: xs) (nk k) = atKey xs (nk k) := by simp [atKey, List.find?_cons, ex]
        rw [a]
        simp only [aGet, if_neg e]
        exact ⟨i1, i2⟩
/-- its store -/
theorem ent_put {K : PySem.W.Frag} {k : PyData} (hk : tkOk k = true) (hd8 : k.depth ≤ 8) {b : Addr} {u : Value} {v : V} {d : PyData} (kb : Rp K H (fun _ => False) (.ref b) k) (rv : RelV v u) (rp : Rp K H S v d) : ∀ {kvs : List (PyData × PyData)} {xs : List (NestedKey × Addr × Value)}, (xs.map (·.1)).Nodup → Paired (EntR K H S) kvs xs → Paired (EntR K H S) (aPut kvs k d) (storedH xs (nk k) b u) := by
  have no : ∀ {kvs : List (PyData × PyData)} {xs : List (NestedKey × Addr × Value)}, Paired (EntR K H S) kvs xs → nk k ∉ xs.map (·.1) → Paired (EntR K H S) kvs (xs.map (putAt (nk k) u)) := by
    intro kvs xs p hn
    rw [map_putAt_of_not_mem _ _ _ hn]; exact p
  intro kvs xs n p
  have here : ∀ {kvs : List (PyData × PyData)} {xs : List (NestedKey × Addr × Value)}, Paired (EntR K H S) kvs xs → (xs.map (·.1)).Nodup → (∃ z, aGet kvs k = some z) → Paired (EntR K H S) (aPut kvs k d) (xs.map (putAt (nk k) u)) := by
    intro kvs xs p
    induction p with
    | nil => intro _ ⟨z, hz⟩; simp [aGet] at hz
    | @cons q x qs xs hq t ih =>
      intro n hz
      obtain ⟨k', d'⟩ := q
      obtain ⟨h1, h2, h3, v', h4, h5⟩ := hq
      rw [List.map_cons, List.nodup_cons] at n
      by_cases e : k' = k
      · have ex : x.1 = nk k := data_inj (by rw [h1, data_nk hk]; exact e)
        simp only [aPut, if_pos e, List.map_cons, putAt, if_pos ex]
        refine .cons ⟨by show NestedKey.data x.1 = k'; exact h1, h2, h3, v, rv, rp⟩ (no t (by rw [← ex]; exact n.1))
      · have ex : ¬ x.1 = nk k := fun z => e (by have z' := congrArg NestedKey.data z; rw [h1, data_nk hk] at z'; exact z')
        simp only [aPut, if_neg e, List.map_cons, putAt, if_neg ex]
        obtain ⟨z, hz⟩ := hz
        simp only [aGet, if_neg e] at hz
        exact .cons ⟨h1, h2, h3, v', h4, h5⟩ (ih n.2 ⟨z, hz⟩)
  obtain ⟨g1, g2⟩ := ent_get (S := S) hk p
  unfold storedH
  cases hz : aGet kvs k with
  | some z =>
    obtain ⟨q, eq, _⟩ := g1 z hz
    rw [eq]
    simp only [Option.isSome_some, if_true]
    exact here p n ⟨z, hz⟩
  | none =>
    rw [g2 hz]
    simp only [Option.isSome_none, Bool.false_eq_true, if_false]
    have : aPut kvs k d = kvs ++ [(k, d)] := (aGet_no (ps := kvs) rfl hz).2.1 d
    rw [this]
    exact Paired.snoc p ⟨data_nk hk, by rw [depth_nk hk]; exact hd8, kb, v, rv, rp⟩
theorem ent_keys {K : PySem.W.Frag} {kvs : List (PyData × PyData)} {xs : List (NestedKey × Addr × Value)} (p : Paired (EntR K H S) kvs xs) : kvs.map (·.1) = xs.map fun x => x.1.data := by
  induction p with
  | nil => rfl
  | cons h t ih => rw [List.map_cons, List.map_cons, ih, h.1]
theorem tkey_ok {k : PyData} (h : tkey k = true) : tkOk k = true ∧ k.depth ≤ 8 ∧ ∃ ds, k = .tuple ds := by
  unfold tkey at h
  simp only [Bool.and_eq_true, decide_eq_true_eq] at h
  refine ⟨h.1.2, h.2, ?_⟩
  cases k <;> simp at h
  exact ⟨_, rfl⟩
theorem tkey_ref {K : PySem.W.Frag} {k : PyData} {v : V} (h : tkey k = true) (r : Rp K H S v k) : ∃ b, v = .ref b ∧ Rp K H (fun _ => False) (.ref b) k := by
  obtain ⟨h1, _, ds, rfl⟩ := tkey_ok h
  obtain ⟨b, vs, rfl, q, rr⟩ := r.tuple_inv
  exact ⟨b, rfl, Rp.unl h1 (.tup q rr)⟩
theorem tkey_is (I : Inv X pins σ H s) {k : PyData} {b : Addr} (h : tkey k = true) (r : Rp X.K H S (.ref b) k) : (nestedKind X.prog X.w).is s.heap (nk k) b := by
  obtain ⟨h1, h2, _⟩ := tkey_ok h
  exact ⟨nested_of (v := .ref b) I (by rw [data_nk h1]; exact r) (show Value.ref b = Value.ref b from rfl), by rw [depth_nk h1]; exact h2⟩
theorem nk_room {A : Around} (hu : A.units + 65 < cLine) : (nestedKind X.prog X.w).room A.in1 := by
  show A.in1.units + 8 < cLine
  simp only [Around.in1_units]
  omega
end

/-- a dict's item, by data: keys whole numbers and texts; tuples -/
def kV' : L2.Key → PyData
  | .inl i => .int i
  | .inr x => .str x
theorem keyE_kV {d : PyData} {k : L2.Key} (h : keyE d = some k) : d = kV' k := by
  cases d <;> simp [keyE] at h <;> subst h <;> rfl
theorem keyE_V {K : PySem.W.Frag} {H : Hp} {S : Addr → Prop} {d : PyData} {k : L2.Key} {v : V} (h : keyE d = some k) (r : Rp K H S v d) : v = kV k := by
  cases d <;> simp [keyE] at h <;> subst h
  · exact r.int_inv
  · exact r.str_inv

section
variable {X : Cx}
def rIxK : R2 := fun x y H Q => ∃ (a : Addr) (ps : List (L2.Key × V)) (k : L2.Key) (w : V), x = .ref a ∧ y = kV k ∧ H a = some (.dK ps) ∧ aGet ps k = some w ∧ Q w H
theorem ix_dct (hu : X.A.units + 65 < cLine) : IxR X rIxK := by
  intro value slice pins s σ H x y v u Q I rx ry h hs
  obtain ⟨a, ps, k, w, rfl, rfl, ha, hg, q⟩ := h
  cases rx
  have g : DGet H a (kV k) (some w) := by rw [← hg, ← valV_aGet]; exact DGet.k ha
  exact tail_any (dict_typeIs I g) PySem.F.slot_dict_getitem.lookup (d_getItem (by omega) I g ry fun w' s' I' r' => ⟨w, H, I', r', q⟩) hs
def rIxT (P : Program) (w : World) (K : PySem.W.Frag) : R2 := fun x y H Q => ∃ (a : Addr) (es : Array DictEntry) (ep : Nat) (kvs : List (PyData × PyData)) (S S' : Addr → Prop) (k d : PyData), x = .ref a ∧ H a = some (rawT a es ep) ∧ DtR P w K H S kvs es ∧ Rp K H S' y k ∧ tkey k = true ∧ aGet kvs k = some d ∧ ∀ v, Rp K H S v d → Q v H
theorem ix_dtt (hu : X.A.units + 65 < cLine) : IxR X (rIxT X.prog X.w X.K) := by
  intro value slice pins s σ H x y v u Q I rx ry h hs
  obtain ⟨a, es, ep, kvs, S, S', k, d, rfl, ha, dr, rk, tk, hg, q⟩ := h
  cases rx
  obtain ⟨lo, _, xs, _, _, p, dd⟩ := dtt_of I ha dr
  obtain ⟨b, rfl, rb⟩ := tkey_ref tk rk
  cases (show u = Value.ref b from ry)
  obtain ⟨e, he, z, rz, rp⟩ := (ent_get (tkey_ok tk).1 p).1 d hg
  exact tail_any dd.typeIs PySem.F.slot_dict_getitem.lookup (wpAny_getItem_heap (nk_room hu) (tkey_is I tk rb) dd he ⟨z, H, I.tok _, rz, q z rp⟩) hs
/-- k in d, k not in d -/
def rInD (P : Program) (w : World) (K : PySem.W.Frag) (neg : Bool) : R2 := fun y x H Q => ∃ (a : Addr) (b : Bool), x = .ref a ∧ ((∃ (ps : List (L2.Key × V)) (k : L2.Key), y = kV k ∧ H a = some (.dK ps) ∧ (aGet ps k).isSome = b) ∨
  ∃ (es : Array DictEntry) (ep : Nat) (kvs : List (PyData × PyData)) (S S' : Addr → Prop) (k : PyData), H a = some (rawT a es ep) ∧ DtR P w K H S kvs es ∧ Rp K H S' y k ∧ tkey k = true ∧ (aGet kvs k).isSome = b) ∧ Q (.bl (if neg then !b else b)) H
theorem op_inD (hu : X.A.units + 65 < cLine) : OpR X (compareOp .In) (rInD X.prog X.w X.K false) := by
  intro pins s σ H y x u v Q I ry rx h
  obtain ⟨a, b, rfl, h, q⟩ := h
  cases rx
  rcases h with ⟨ps, k, rfl, ha, hb⟩ | ⟨es, ep, kvs, S, S', k, ha, dr, rk, tk, hb⟩
  · have g : DGet H a (kV k) (aGet ps k) := by rw [← valV_aGet]; exact DGet.k ha
    exact d_in (by omega) I g ry fun s' I' => ⟨.bl b, H, I', by rw [hb]; rfl, q⟩
  · obtain ⟨lo, _, xs, _, _, p, dd⟩ := dtt_of I ha dr
    obtain ⟨c, rfl, rb⟩ := tkey_ref tk rk
    cases (show u = Value.ref c from ry)
    obtain ⟨g1, g2⟩ := ent_get (tkey_ok tk).1 p
    have e : (atKey xs (nk k)).isSome = b := by
      cases hz : aGet kvs k with
      | none => rw [g2 hz, ← hb, hz]; rfl
      | some d =>
        obtain ⟨z, ez, _⟩ := g1 d hz
        rw [ez, ← hb, hz]; rfl
    refine wpAny_in_heap (nk_room hu) (tkey_is I tk rb) lo dd ?_
    rw [e]
    exact ⟨.bl b, H, I.tok _, rfl, q⟩
theorem op_notInD (hu : X.A.units + 65 < cLine) : OpR X (compareOp .NotIn) (rInD X.prog X.w X.K true) := by
  intro pins s σ H y x u v Q I ry rx h
  obtain ⟨a, b, rfl, h, q⟩ := h
  cases rx
  rcases h with ⟨ps, k, rfl, ha, hb⟩ | ⟨es, ep, kvs, S, S', k, ha, dr, rk, tk, hb⟩
  · have g : DGet H a (kV k) (aGet ps k) := by rw [← valV_aGet]; exact DGet.k ha
    exact d_notIn (by omega) I g ry fun s' I' => ⟨.bl (!b), H, I', by rw [hb]; rfl, q⟩
  · obtain ⟨lo, _, xs, _, _, p, dd⟩ := dtt_of I ha dr
    obtain ⟨c, rfl, rb⟩ := tkey_ref tk rk
    cases (show u = Value.ref c from ry)
    obtain ⟨g1, g2⟩ := ent_get (tkey_ok tk).1 p
    have e : (atKey xs (nk k)).isSome = b := by
      cases hz : aGet kvs k with
      | none => rw [g2 hz, ← hb, hz]; rfl
      | some d =>
        obtain ⟨z, ez, _⟩ := g1 d hz
        rw [ez, ← hb, hz]; rfl
    refine wpAny_notIn_heap (nk_room hu) (tkey_is I tk rb) lo dd ?_
    rw [e]
    exact ⟨.bl (!b), H, I.tok _, rfl, q⟩
/-- d.get(k, z) -/
def rGet2 (P : Program) (w : World) (K : PySem.W.Frag) : V → List V → Hp → VK → Prop := fun x xs H Q => ∃ (a : Addr) (y z : V), x = .ref a ∧ xs = [y, z] ∧ ((∃ (ps : List (L2.Key × V)) (k : L2.Key), y = kV k ∧ H a = some (.dK ps) ∧ Q ((aGet ps k).getD z) H) ∨
  ∃ (es : Array DictEntry) (ep : Nat) (kvs : List (PyData × PyData)) (S S' S2 : Addr → Prop) (k d : PyData), H a = some (rawT a es ep) ∧ DtR P w K H S kvs es ∧ Rp K H S' y k ∧ tkey k = true ∧ Rp K H S2 z d ∧ ((∀ d', aGet kvs k = some d' → ∀ v, Rp K H S v d' → Q v H) ∧ (aGet kvs k = none → Q z H)))
theorem mt_get2 (hu : X.A.units + 65 < cLine) : MtR X "dict.get" (rGet2 X.prog X.w X.K) := by
  intro pins s σ H x xs v us Q I rx rs h
  obtain ⟨a, y, z, rfl, rfl, h⟩ := h
  cases rx
  cases rs with
  | cons ry rs =>
  cases rs with
  | cons rz rs =>
  cases rs
  rename_i u r
  rcases h with ⟨ps, k, rfl, ha, q⟩ | ⟨es, ep, kvs, S, S', S2, k, d, ha, dr, rk, tk, rd, q1, q2⟩
  · have g : DGet H a (kV k) (aGet ps k) := by rw [← valV_aGet]; exact DGet.k ha
    exact d_get2 (by omega) I g ry rz fun w' s' I' r' => ⟨_, H, I', r', q⟩
  · obtain ⟨lo, _, xs, _, _, p, dd⟩ := dtt_of I ha dr
    obtain ⟨c, rfl, rb⟩ := tkey_ref tk rk
    cases (show u = Value.ref c from ry)
    obtain ⟨g1, g2⟩ := ent_get (tkey_ok tk).1 p
    refine call_meetsIn PySem.F.slot_dict_get dd.typeIs PySem.F.entry_dict_get (PySem.F.args_dict_get_3 _ _ _) (meetsH_dict_get_default (nestedKind X.prog X.w) a c lo r) ⟨nk_room hu, nk k, xs, tkey_is I tk rb, dd, ?_⟩
    cases hz : aGet kvs k with
    | none => rw [g2 hz]; exact ⟨z, H, I.tok _, rz, q2 hz⟩
    | some d' =>
      obtain ⟨e, ez, v, rv, rp⟩ := g1 d' hz
      rw [ez]
      exact ⟨v, H, I.tok _, rv, q1 d' hz v rp⟩
/-- d[k] = v -/
def rSetK : V → V → V → Hp → (Hp → Prop) → Prop := fun o i v H Q => ∃ (a : Addr) (ps : List (L2.Key × V)) (k : L2.Key), o = .ref a ∧ i = kV k ∧ H a = some (.dK ps) ∧ (ps.map (·.1)).Nodup ∧ ps.length < sizeLine ∧ Q (upd H a (.dK (aPut ps k v)))
theorem set_dct (hu : X.A.units + 65 < cLine) : PSet X rSetK := by
  intro pins s σ H o i v ov iv u Q I ro ri rv h
  obtain ⟨a, ps, k, rfl, rfl, ha, nd, hl, q⟩ := h
  cases ro
  refine d_setItem (by omega) I (DPut.k ha hl) ri rv fun s' I' => ⟨_, I', ?_⟩
  rw [putK_aPut _ _ _ nd]
  exact q
def rSetT (P : Program) (w : World) (K : PySem.W.Frag) : V → V → V → Hp → (Hp → Prop) → Prop := fun o i v H Q => ∃ (a : Addr) (es : Array DictEntry) (ep : Nat) (kvs : List (PyData × PyData)) (S S' : Addr → Prop) (k d : PyData), o = .ref a ∧ H a = some (rawT a es ep) ∧ DtR P w K H S kvs es ∧ Rp K H S' i k ∧ tkey k = true ∧ Rp K H S v d ∧ kvs.length < sizeLine ∧
  ∀ es' ep', DtR P w K H S (aPut kvs k d) es' → Q (upd H a (rawT a es' ep'))
theorem rawT_ok {P : Program} {w : World} {H : Hp} {h : Heap} {a : Addr} {o : Obj} {es : Array DictEntry} {ep : Nat} (ho : h.get? a = some o) (hc : o.ExactDict) (hd : o.data = .dict es ep) (lo : (a == sysModules) = false) : ObjOk P w H h a (rawT a es ep) :=
  ⟨⟨⟨o, ho, hc, hd⟩, lo⟩, ⟨o, ho⟩, fun h1 h2 ⟨⟨o, ho, r⟩, lo⟩ k => ⟨⟨o, k o ho, r⟩, lo⟩⟩
theorem set_dtt (hu : X.A.units + 65 < cLine) : PSet X (rSetT X.prog X.w X.K) := by
  intro pins s σ H o i v ov iv u Q I ro ri rv h
  obtain ⟨a, es, ep, kvs, S, S', k, d, rfl, ha, dr, rk, tk, rd, hl, q⟩ := h
  cases ro
  obtain ⟨lo, _, xs, _, nd, p, dd⟩ := dtt_of I ha dr
  obtain ⟨c, rfl, rb⟩ := tkey_ref tk rk
  cases (show iv = Value.ref c from ri)
  have hz : xs.length ≤ sizeLine := by rw [← Paired.length p]; omega
  refine wpAny_setItem_heap (hsz := hz) (nk_room hu) (tkey_is I tk rb) dd fun h' dd' hs => ?_
  obtain ⟨q1, es', ep', hq, h2, h3, h4, _, h5⟩ := dd'
  have pp := ent_put (tkey_ok tk).1 (tkey_ok tk).2.1 rb rv rd nd p
  refine ⟨_, ?_, q es' ep' ⟨by have := aPut_len kvs k d; omega, _, h4, h5, pp⟩⟩
  exact d_write I (by rw [ha]; exact True.intro) hs ⟨q1, hq⟩ (rawT_ok hq h2 h3 lo)
/-- {} -/
theorem pe_dnewR {pos : Pos} : PE X (.Dict [] [] pos) (fun _ H Q => ∀ p, H p = none → Q (.ref p) (upd H p (rawT p #[] 0))) := ⟨fun pins s σ H Q I h =>
  wpAny_Dict_empty ⟨.ref s.heap.objs.size, _, I.laid (a := s.heap.objs.size) (o := rawT s.heap.objs.size #[] 0) (t' := s.toks) (fun _ _ q => Heap.get?_push_of_some _ q) (Nat.le_refl _) (rawT_ok (Heap.get?_push_size _ rfl) ⟨rfl, rfl, rfl⟩ rfl (beq_eq_false_iff_ne.mpr (Ne.symm (Nat.ne_of_lt I.big)))), rfl, h _ (I.hok.fresh (Nat.le_refl _))⟩⟩
theorem dtR_nil {P : Program} {w : World} {K : PySem.W.Frag} {H : Hp} {S : Addr → Prop} : DtR P w K H S [] #[] := ⟨Nat.zero_le _, [], rfl, .nil, .nil⟩
/-- {k: v}, k a tuple -/
def tDisp1 (P : Program) (w : World) (K : PySem.W.Frag) (tk tv : TE) : TE := fun σ H Q => ∀ p, H p = none → tk σ (upd H p (rawT p #[] 0)) fun x H1 => tv σ H1 fun y H2 => ∃ x' y', [(x, y)] = [(x', y')] ∧ H2 p = some (rawT p #[] 0) ∧ ∃ (S S' : Addr → Prop) (k d : PyData), Rp K H2 S' x' k ∧ tkey k = true ∧ Rp K H2 S y' d ∧ ∀ es ep, DtR P w K H2 S [(k, d)] es → Q (.ref p) (upd H2 p (rawT p es ep))
theorem pe_disp1 {k v : Expr} {pos : Pos} {tk tv : TE} (hu : X.A.units + 65 < cLine) (hk : PE X k tk) (hv : PE X v tv) : PE X (.Dict [some k] [v] pos) (tDisp1 X.prog X.w X.K tk tv) := by
  refine ⟨fun pins s σ H Q I q => ?_⟩
  have hn := I.hok.fresh (Nat.le_refl s.heap.objs.size)
  have lo : (s.heap.objs.size == sysModules) = false := beq_eq_false_iff_ne.mpr (Ne.symm (Nat.ne_of_lt I.big))
  have I1 := I.laid (a := s.heap.objs.size) (o := rawT s.heap.objs.size #[] 0) (h' := s.heap.push { cls := .type "dict", data := .dict #[] }) (t' := s.toks) (fun _ _ q => Heap.get?_push_of_some _ q) (Nat.le_refl _) (rawT_ok (Heap.get?_push_size _ rfl) ⟨rfl, rfl, rfl⟩ rfl lo)
  have pp : PPs X pos [some k] [v] [(tk, tv)] := pps_cons hk hv pps_nil
  have run := pp.run pins _ σ _ (fun ps H2 => ∃ x y, ps = [(x, y)] ∧ H2 s.heap.objs.size = some (rawT s.heap.objs.size #[] 0) ∧ ∃ (S S' : Addr → Prop) (k d : PyData), Rp X.K H2 S' x k ∧ tkey k = true ∧ Rp X.K H2 S y d ∧ ∀ es ep, DtR X.prog X.w X.K H2 S [(k, d)] es → Q (.ref s.heap.objs.size) (upd H2 s.heap.objs.size (rawT s.heap.objs.size es ep))) I1 (q _ hn)
  rw [arm_eval_Dict, zip_pairTrees [some k] [v] X.env pos rfl rfl, dictDisplay_pairs (pairTrees [some k] [v] X.env pos) (by simp [pairTrees]) (by simp [pairTrees])]
  refine wpAny_bind (wpAny_standAt (wpAny_bind (wpAny_subDictH (knd := nestedKind X.prog X.w) (Q := fun d s' => wpAny (model X.prog X.w) X.A (pure (Value.ref d)) (EP X pins σ Q) X.xe s') (by show X.A.units + 8 < cLine; omega) (by simp [pairTrees]) ?_)))
  refine thn run fun ws s2 ⟨ps, H2, I2, rel, x, y, e, hd, S, S', kd, d, rk, tk', rd, q2⟩ => ?_
  subst e
  cases rel with
  | @cons p0 q0 ps0 qs0 hxy rest =>
  cases rest
  obtain ⟨w1, w2⟩ := q0
  obtain ⟨rx, ry⟩ := hxy
  obtain ⟨c, ex, rb⟩ := tkey_ref tk' rk
  have ex : x = V.ref c := ex
  subst ex
  have ex : w1 = Value.ref c := rx
  subst ex
  obtain ⟨lo, _, xs, exs, nd, p, dd⟩ := dtt_of (S := S) I2 hd dtR_nil
  cases p
  refine ⟨[(nk kd, c, w2)], ⟨rfl, rfl, tkey_is I2 tk' rb, trivial⟩, dd, fun h' tk hh hs => wpAny_pure ?_⟩
  obtain ⟨q1, es', ep, hq, h2, h3, h4, _, h5⟩ := hh
  refine ⟨.ref s.heap.objs.size, _, ?_, rfl, q2 es' ep ⟨by show 1 ≤ sizeLine; decide, _, h4, h5, ?_⟩⟩
  · exact d_write I2 (by rw [hd]; exact True.intro) hs ⟨q1, hq⟩ (rawT_ok hq h2 h3 lo)
  · show Paired (EntR X.K H2 S) [(kd, d)] [(nk kd, c, w2)]
    exact .cons ⟨data_nk (tkey_ok tk').1, by show (nk kd).depth ≤ 8; rw [depth_nk (tkey_ok tk').1]; exact (tkey_ok tk').2.1, rb, y, ry, rd⟩ .nil
end

/-! ### for k in d; sorted(d) -/
theorem pgetR {α β : Type} {F : α → β → Prop} : ∀ {l₁ : List α} {l₂ : List β} {j : Nat} {x : β}, Paired F l₁ l₂ → l₂[j]? = some x → ∃ y, l₁[j]? = some y ∧ F y x
  | _, _, _, _, .nil, e => by simp at e
  | _, _, 0, _, .cons h _, e => by simp at e; subst e; exact ⟨_, rfl, h⟩
  | _, _, j + 1, x, .cons _ t, e => by
    obtain ⟨y, h1, h2⟩ := pgetR (j := j) (x := x) t (by simpa using e)
    exact ⟨y, by simpa using h1, h2⟩
def Itx (a : Addr) (es : Array DictEntry) (ep : Nat) : It :=
  ⟨fun i H => H a = some (rawT a es ep) ∧ i < es.size, fun i H x H' => H' = H ∧ ∃ en, es[i]? = some en ∧ RelV x en.key, fun i H => H a = some (rawT a es ep) ∧ es.size ≤ i⟩
section
variable {X : Cx} {pins : List (Addr × Obj)} {σ : L2.St} {H : Hp} {s : Shared}
theorem raw_at (I : Inv X pins σ H s) {a : Addr} {es : Array DictEntry} {ep : Nat} (e : H a = some (rawT a es ep)) : (a == sysModules) = false ∧ ∃ o, s.heap.get? a = some o ∧ o.ExactDict ∧ o.data = .dict es ep := by
  obtain ⟨⟨⟨o, h⟩, lo⟩, _, _⟩ := (show ObjOk X.prog X.w H s.heap a (rawT a es ep) from I.hok a _ e)
  exact ⟨lo, o, h⟩
end
/-- the entries' keys are references -/
def RefKeys (es : Array DictEntry) : Prop := ∀ en ∈ es.toList, ∃ b, en.key = .ref b
theorem DtR.refs {P : Program} {w : World} {K : PySem.W.Frag} {H : Hp} {S : Addr → Prop} {kvs : List (PyData × PyData)} {es : Array DictEntry} (h : DtR P w K H S kvs es) : RefKeys es ∧ es.size = kvs.length ∧ kvs.length ≤ sizeLine := by
  obtain ⟨l, xs, e, _, p⟩ := h
  refine ⟨fun en hen => ?_, ?_, l⟩
  · rw [e] at hen
    obtain ⟨x, _, rfl⟩ := List.mem_map.mp hen
    exact ⟨_, rfl⟩
  · rw [← Array.length_toList, e, List.length_map, Paired.length p]
theorem DtR.key {P : Program} {w : World} {K : PySem.W.Frag} {H : Hp} {S : Addr → Prop} {kvs : List (PyData × PyData)} {es : Array DictEntry} (h : DtR P w K H S kvs es) {i : Nat} {en : DictEntry} (e : es[i]? = some en) : ∃ kv b, kvs[i]? = some kv ∧ en.key = .ref b ∧ Rp K H (fun _ => False) (.ref b) kv.1 := by
  obtain ⟨l, xs, ex, _, p⟩ := h
  rw [← Array.getElem?_toList, ex, List.getElem?_map] at e
  obtain ⟨x, hx, rfl⟩ := Option.map_eq_some_iff.mp e
  obtain ⟨kv, hk, h1, h2, h3, _⟩ := pgetR p hx
  exact ⟨kv, _, hk, rfl, h3⟩
section
variable {P : Program} {w : World} {K : PySem.W.Frag} {tg : Expr} {d : Addr} {es : Array DictEntry} {ep : Nat}
theorem turn_raw (it : Addr) (rk : RefKeys es) : Turn P w K tg (Itx d es ep) [it] it (fun i h => h.IsKeyIter it d i es.size ep) where
  mem := by simp
  obj := fun i h st b hb => by
    have e : b = it := by simpa using hb
    subst e
    obtain ⟨oi, e, c, dd⟩ := st
    exact ⟨oi, e, fun v z => by rw [dd] at z; cases z⟩
  keep := fun i h h' st k => st.at fun oi e => k it (by simp) oi e
  item := by
    intro X hP hw hK hc i pins s σ H E I hf st hg
    subst hP hw hK
    obtain ⟨hd, hi⟩ := hg
    obtain ⟨f0, f1, f2, f3, f4, f5⟩ := hf it (by simp)
    obtain ⟨lo, o, hgd, hx, hdt⟩ := raw_at I hd
    have hen : es[i]? = some es[i] := Array.getElem?_eq_getElem hi
    obtain ⟨b, eb⟩ := rk es[i] (by simp)
    refine next_key_item st hgd hdt rfl hen fun h' st' sb => ?_
    have I1 : Inv X pins σ H { s with heap := h' } := I.turned (t' := s.toks) (fun b ob hb e => (sb.2 b hb).trans e) f0 f1 f3 f4 f5
    obtain ⟨oi, e, c, dd⟩ := id st'
    exact ⟨es[i].key, rfl, go_of (s := { s with heap := h' }) e c dd (by decide) ⟨.ref b, H, I1, eb, ⟨rfl, es[i], hen, eb⟩, st', fun b hb => (hf b hb).1⟩⟩
  done := by
    intro X hP hw hK hc i pins s σ H E I hf st hg
    subst hP hw hK
    obtain ⟨hd, hi⟩ := hg
    obtain ⟨f0, f1, f2, f3, f4, f5⟩ := hf it (by simp)
    obtain ⟨lo, o, hgd, hx, hdt⟩ := raw_at I hd
    exact next_key_end (I.ok.hd hc) st hgd hdt rfl hi fun h' eb => ⟨rfl, I.turned (t' := s.toks) (fun b ob hb e => eb b ob hb e) f0 f1 f3 f4 f5⟩
  self := fun A i s Q E st h => wpAny_pyIter_keyiter st h
end
/-- for k in d -/
def iRaw (td : TE) : TI := fun σ H R => td σ H fun x H1 => ∃ a es ep, x = .ref a ∧ H1 a = some (rawT a es ep) ∧ RefKeys es ∧ R (Itx a es ep) H1
section
variable {X : Cx} {tg e : Expr} {td : TE} {pos : Pos}
theorem pi_raw (he : PE X e td) : PI X tg e (iRaw td) := by
  refine ⟨fun pins s σ H R I h => ?_⟩
  refine thn (he.run pins s σ H _ I h) fun u s1 ⟨x, H1, I1, rx, d, es, ep, ex, hd, rk, q⟩ => ?_
  subst ex
  obtain rfl : u = Value.ref d := rx
  obtain ⟨lo, o, hgd, hx, hdt⟩ := raw_at I1 hd
  exact iter_keys lo hgd hx hdt (pi_one (tk := s1.toks) I1 _ (turn_raw _ rk) ⟨_, Heap.get?_push_size _ rfl, rfl, rfl⟩ q)
end
/-- the keys as a list takes them up -/
theorem kdl_raw {P : Program} {w : World} {d : Addr} {es : Array DictEntry} {ep : Nat} (lo : (d == sysModules) = false) : PySem.W.KdlSrc P w "dict" d d es.size (fun i v => ∃ en, es[i]? = some en ∧ en.key = v) (fun h => ∃ o, h.get? d = some o ∧ o.ExactDict ∧ o.data = .dict es ep) where
  type := fun _ ⟨o, ho, hc, _⟩ => ⟨o, ho, hc.1⟩
  there := fun _ ⟨o, ho, _⟩ => ⟨Heap.lt_size ho, Heap.lt_size ho⟩
  keep := fun _ _ ⟨o, ho, r⟩ hk => ⟨o, hk d (.inl rfl) o ho, r⟩
  notList := by decide
  notTuple := by decide
  hint := fun _ _ _ _ ⟨o, ho, hc, _⟩ hq => PySem.W.kdl_hint_dict ⟨o, ho, hc.1⟩ hq
  iter := fun A s hh ⟨o, ho, hc, hd⟩ => ⟨_, fun i h => h.IsKeyIter s.heap.objs.size d i es.size ep ∧ ∃ o, h.get? d = some o ∧ o.ExactDict ∧ o.data = .dict es ep, (fun _ _ hq => iter_keys lo ho hc hd hq), {
      sub := fun b hb => by simp at hb; simp [hb]
      frame := fun _ _ _ st hk => ⟨st.1.at fun o e => hk _ (by simp) o e, let ⟨o, ho, r⟩ := st.2; ⟨o, hk d (by simp) o ho, r⟩⟩
      item := fun i s1 Q E hi st hQ => by
        obtain ⟨st1, o1, ho1, hc1, hd1⟩ := st
        have hen : es[i]? = some es[i] := Array.getElem?_eq_getElem hi
        have hne : d ≠ s.heap.objs.size := Nat.ne_of_lt (Heap.lt_size ho)
        refine next_key_item st1 ho1 hd1 rfl hen fun h' st' sb => ?_
        exact hQ _ h' s1.toks ⟨_, hen, rfl⟩ ⟨st', o1, (sb.2 d hne).trans ho1, hc1, hd1⟩ fun b ob hb e => (sb.2 b fun z => hb (by simp [z])).trans e
      done := fun s1 Q E st hQ => by
        obtain ⟨st1, o1, ho1, hc1, hd1⟩ := st
        exact next_key_end hh st1 ho1 hd1 rfl (Nat.le_refl _) fun h' he' => hQ h' s1.toks fun b o hb e => he' b o (fun h => hb (by simp [h])) e
      self := fun _ _ _ _ st hQ => wpAny_pyIter_keyiter st.1 hQ }, ⟨⟨_, Heap.get?_push_size _ rfl, rfl, rfl⟩, o, Heap.get?_push_of_some _ ho, hc, hd⟩⟩
end DE
end

section
set_option Elab.async false
set_option linter.all false
set_option maxRecDepth 100000
/-! DE10c: sorted. -/
namespace DE
open PySem PySem.Spec PyProof.Rows L2

section
variable {X : Cx} {pins : List (Addr × Obj)} {σ : L2.St} {H : Hp} {s : Shared} {S : Addr → Prop}
theorem sortOk_al {ds : List PyData} (h : sortOk ds = true) : PySem.W.AllAlike ds ∧ PySem.W.Sortable ds ∧ ds.length ≤ sizeLine ∧ ∀ d ∈ ds, d.depth ≤ 32 := by
  unfold sortOk at h
  simp only [Bool.and_eq_true] at h
  obtain ⟨⟨⟨h1, h2⟩, h3⟩, h4⟩ := h
  refine ⟨fun d hd d' hd' => List.all_eq_true.mp (List.all_eq_true.mp h1 d hd) d' hd', ?_, fits_line h3, fun d hd => of_decide_eq_true (List.all_eq_true.mp h4 d hd)⟩
  rcases Bool.or_eq_true_iff.mp h2 with h | h
  · refine .inl fun d hd => ?_
    have := List.all_eq_true.mp h d hd
    split at this
    · exact ⟨_, _, rfl⟩
    · cases this
  · refine .inr fun d hd => ?_
    have := List.all_eq_true.mp h d hd
    split at this
    · cases this
    · cases this
    · rename_i h1 h2
      exact ⟨fun e => h2 e, fun xs e => h1 xs e⟩
theorem each_out {R : Value → PyData → Prop} {K : PySem.W.Frag} (hR : ∀ u d, R u d → ∃ v, RelV v u ∧ Rp K H S v d) : ∀ {us : List Value} {ds : List PyData}, PySem.W.EachIs R us ds → ∃ vs, Vals vs us ∧ RpL K H S vs ds
  | [], [], _ => ⟨[], .nil, .nil⟩
  | _ :: _, _ :: _, .cons h t => by
    obtain ⟨v, r, p⟩ := hR _ _ h
    obtain ⟨vs, rs, ps⟩ := each_out hR t
    exact ⟨v :: vs, .cons r rs, .cons p ps⟩
theorem each_in {K : PySem.W.Frag} : ∀ {vs : List V} {us : List Value} {ds : List PyData}, Vals vs us → RpL K H S vs ds → PySem.W.EachIs (fun u d => ∃ v, RelV v u ∧ Rp K H S v d) us ds
  | [], [], [], .nil, .nil => .nil
  | _ :: _, _ :: _, _ :: _, .cons r rs, .cons p ps => .cons ⟨_, r, p⟩ (each_in rs ps)
theorem each_reads (I : Inv X pins σ H s) {h' : Heap} (k : ∀ b o, s.heap.get? b = some o → h'.get? b = some o) : ∀ {vs : List V} {us : List Value} {ds : List PyData}, Vals vs us → RpL X.K H S vs ds → PySem.W.EachIs (fun u d => ∃ as, PySem.Reads h' u d as) us ds
  | [], [], [], .nil, .nil => .nil
  | _ :: _, _ :: _, _ :: _, .cons r rs, .cons p ps => by
    obtain ⟨as, rd⟩ := Dp.reads I _ _ _ p.dp r
    exact .cons ⟨as, PyProof.Rows.Reads.keeps k rd⟩ (each_reads I k rs ps)
/-- a new list is sorted in its place -/
theorem sort_core (I : Inv X pins σ H s) {h1 : Heap} {tk : Nat} {rev : Bool} (k1 : ∀ b o, s.heap.get? b = some o → h1.get? b = some o) (hs1 : s.heap.objs.size ≤ h1.objs.size) {vs : List V} {us : List Value} {ds : List PyData} (rv : Vals vs us) (rp : RpL X.K H S vs ds) (ok : sortOk ds = true)
    (hu : X.A.units + 65 < cLine) {Q : VK} (q : ∀ p vs', H p = none → RpL X.K H S vs' (sortL rev ds) → Q (.ref p) (upd H p (.lst vs'))) {P : Value → Shared → Prop} (fin : ∀ out, EP X pins σ Q (.ref h1.objs.size) { s with heap := sortedHeap (h1.push (seqObj "list" us.toArray 0)) h1.objs.size us (List.toArray out), toks := tk } → P .none { s with heap := sortedHeap (h1.push (seqObj "list" us.toArray 0)) h1.objs.size us (List.toArray out), toks := tk })
    {E : Value → Shared → Prop} {kw : List (Str × Value)} (hkw : (rev = false ∧ kw = []) ∨ kw = [(Str.ofString "reverse", .bool rev)]) :
    wpAny (model X.prog X.w) X.A.in1 (call (.builtin "list.sort") [.ref h1.objs.size] kw) P E { s with heap := h1.push (seqObj "list" us.toArray 0), toks := tk } := by
  obtain ⟨hal, hk, hL, hdp⟩ := sortOk_al ok
  have ho : (h1.push (seqObj "list" us.toArray 0)).get? h1.objs.size = some (seqObj "list" us.toArray 0) := Heap.get?_push_size _ rfl
  have kk : ∀ b o, s.heap.get? b = some o → (PySem.W.sortingHeap (h1.push (seqObj "list" us.toArray 0)) h1.objs.size us).get? b = some o := fun b o e => by
    have hlt := Heap.lt_size (k1 b o e)
    exact PySem.W.sortingHeap_old (Nat.ne_of_lt hlt) (Heap.get?_push_of_some _ (k1 b o e))
  have er := each_reads I kk rv rp
  have ein := each_in rv rp
  have hlen : us.length = ds.length := by rw [← rv.length, rp.length]
  have S0 := PySem.W.SortsAt.data (prog := X.prog) (w := X.w) (A := X.A.in1.in1) (s := { s with heap := PySem.W.sortingHeap (h1.push (seqObj "list" us.toArray 0)) h1.objs.size us, toks := tk }) er hal hk fun d hd => by
    have := hdp d hd
    show X.A.in1.in1.units + d.depth < cLine
    simp only [Around.in1_units]
    omega
  have out := PySem.W.sortVals_data (enc := fun d : PyData => d) (R := fun u d => ∃ v, RelV v u ∧ Rp X.K H S v d) rev ein (by simpa using er) (by simpa using hal)
  simp only [List.map_id'] at out
  obtain ⟨vs', rv', rp'⟩ := each_out (fun u d h => h) out
  have last : P .none { s with heap := sortedHeap (h1.push (seqObj "list" us.toArray 0)) h1.objs.size us (List.toArray (PySem.W.sortVals (PySem.W.dataKind (PySem.W.sortingHeap (h1.push (seqObj "list" us.toArray 0)) h1.objs.size us) ds) rev us us)), toks := tk } := by
    refine fin _ ?_
    have hn : H h1.objs.size = none := I.hok.fresh hs1
    obtain ⟨e, he⟩ := PyProof.Rows.sortedHeap_at (vs := us) (out := List.toArray (PySem.W.sortVals (PySem.W.dataKind (PySem.W.sortingHeap (h1.push (seqObj "list" us.toArray 0)) h1.objs.size us) ds) rev us us)) ho
    refine ⟨.ref h1.objs.size, _, I.laid (a := h1.objs.size) (o := .lst vs') (t' := tk) (fun b o e => ?_) hs1 ⟨?_, _, e, rv', he⟩, rfl, q _ _ hn rp'⟩
    · have hlt := Heap.lt_size (k1 b o e)
      rw [PyProof.Rows.sortedHeap_old (Nat.ne_of_lt hlt) (by rw [size_push']; exact Nat.lt_succ_of_lt hlt)]
      exact Heap.get?_push_of_some _ (k1 b o e)
    · rw [rp'.length]
      rw [List.length_mergeSort]; exact hL
  rcases hkw with ⟨e1, e2⟩ | e2
  · subst e1 e2
    exact wpAny_call_entry slot_list_sort ⟨_, ho, rfl⟩ entry_list_sort (PySem.W.list_sort_vals ho S0 (by rw [hlen]; exact hL) ⟨.none, rfl, last⟩) (args_list_sort _)
  · subst e2
    exact wpAny_call_entry_kw slot_list_sort ⟨_, ho, rfl⟩ entry_list_sort (PySem.W.list_sort_rev_vals ho S0 (by rw [hlen]; exact hL) ⟨.none, rfl, last⟩) (args_list_sort_rev _ _)
/-- sorted of what can be taken up -/
theorem sorted_from {prog : Program} {w : World} {A : Around} {s : Shared} {E : Value → Shared → Prop} {x : Value} {kw : List (Str × Value)} {Q : Value → Shared → Prop} (ha1 : argsOk "sorted" ⟨[x], kw⟩)
    (h : wpAny (model prog w) A.in1 (collect x) (fun us s1 => us.length ≤ sizeLine ∧ wpAny (model prog w) A.in1 (call (.builtin "list.sort") [.ref s1.heap.objs.size] kw) (fun _ s2 => Q (.ref s1.heap.objs.size) s2) E { s1 with heap := s1.heap.push (seqObj "list" us.toArray 0) }) E s) :
    wpAny (model prog w) A (call (.builtin "sorted") [x] kw) Q E s := by
  refine call_function_entry_kw kind_sorted plain_sorted entry_sorted ha1 ?_
  unfold Builtin.«sorted»
  refine wpAny_bind (m := checkCount "sorted" 1 1 _) (wpAny_pure ?_)
  refine wpAny_bind (thn h fun us s1 ⟨hl, hg⟩ => ?_)
  refine wpAny_bind (wpAny_newList ?_ hl)
  refine wpAny_bind (wpAny_holding (wpAny_mono hg (fun _ s' x => ?_) fun _ _ e => e))
  exact wpAny_pure ⟨_, rfl, x⟩
theorem args_srt (rev : Bool) (kw : List (Str × Value)) (v : Value) (hkw : (rev = false ∧ kw = []) ∨ kw = [(Str.ofString "reverse", .bool rev)]) : argsOk "sorted" ⟨[v], kw⟩ := by
  rcases hkw with ⟨_, e⟩ | e
  · subst e; exact args_sorted1 _
  · subst e; exact args_sorted_rev _ _
/-- sorted(x), x a list or a tuple -/
theorem sorted_seq (I : Inv X pins σ H s) {rev : Bool} {a : Addr} {p : PyData} {ds : List PyData} (hp : Rp X.K H S (.ref a) p) (pd : p = .list ds ∨ p = .tuple ds) (ok : sortOk ds = true) (hu : X.A.units + 65 < cLine) {Q : VK} (q : ∀ p vs', H p = none → RpL X.K H S vs' (sortL rev ds) → Q (.ref p) (upd H p (.lst vs')))
    {kw : List (Str × Value)} (hkw : (rev = false ∧ kw = []) ∨ kw = [(Str.ofString "reverse", .bool rev)]) : wpAny (model X.prog X.w) X.A (call (.builtin "sorted") [.ref a] kw) (EP X pins σ Q) X.xe s := by
  obtain ⟨vs, us, T, o, n, hT, ho, hc, hd, rv, rp⟩ : ∃ (vs : List V) (us : List Value) (T : String) (o : Obj) (n : Nat), (T = "list" ∨ T = "tuple") ∧ s.heap.get? a = some o ∧ o.cls = .type T ∧ o.data = .seq us.toArray n ∧ Vals vs us ∧ RpL X.K H S vs ds := by
    rcases pd with e | e
    · subst e
      obtain ⟨a', vs, e, ha, ra⟩ := hp.list_inv
      cases e
      obtain ⟨its, rv, pl, _⟩ := I.list ha.seq
      obtain ⟨o, e1, e2, n, e3⟩ := pl.isList
      exact ⟨vs, its, "list", o, n, .inl rfl, e1, e2, e3, rv, ra⟩
    · subst e
      obtain ⟨a', vs, e, ha, ra⟩ := hp.tuple_inv
      cases e
      obtain ⟨its, rv, ⟨o, e1, e2, n, e3⟩, _⟩ := I.tuple ha.sq
      exact ⟨vs, its, "tuple", o, n, .inr rfl, e1, e2, e3, rv, ra⟩
  have hlen : us.length = ds.length := by rw [← rv.length, rp.length]
  have hL := (sortOk_al ok).2.2.1
  refine sorted_from (args_srt rev kw _ hkw) (wpAny_collect_seq (A := X.A.in1) a hT ho hc hd (fun h1 k1 => ?_) (by rw [List.size_toArray, hlen]; exact hL))
  refine ⟨by rw [List.toList_toArray, hlen]; exact hL, ?_⟩
  have I1 : Inv X pins σ H { s with heap := h1 } := I.kept (t' := s.toks) k1
  exact sort_core (s := { s with heap := h1 }) (tk := s.toks) I1 (fun _ _ e => e) (Nat.le_refl _) rv rp ok hu q (fun out h => h) hkw
/-- sorted(d), d of tuple keys -/
theorem sorted_raw (hc : X.calm = true) (I : Inv X pins σ H s) {a : Addr} {es : Array DictEntry} {ep : Nat} {kvs : List (PyData × PyData)} {S : Addr → Prop} (ha : H a = some (rawT a es ep)) (dr : DtR X.prog X.w X.K H S kvs es) (ok : sortOk (kvs.map (·.1)) = true) (hu : X.A.units + 65 < cLine) {Q : VK}
    (q : ∀ p vs', H p = none → RpL X.K H (fun _ => False) vs' (sortL false (kvs.map (·.1))) → Q (.ref p) (upd H p (.lst vs'))) : wpAny (model X.prog X.w) X.A (call (.builtin "sorted") [.ref a]) (EP X pins σ Q) X.xe s := by
  obtain ⟨lo, o, ho, hx, hd⟩ := raw_at I ha
  obtain ⟨_, hsz, hl⟩ := dr.refs
  refine sorted_from (args_sorted1 _) (PySem.W.kdu_collect (A := X.A.in1) (kdl_raw (P := X.prog) (w := X.w) (d := a) (es := es) (ep := ep) lo) (I.ok.hd hc) ⟨o, ho, hx, hd⟩ (by rw [hsz]; exact hl) fun h1 tk acc k1 hacc => ?_)
  have hlen : acc.toList.length = kvs.length := by rw [Array.length_toList, hacc.1, hsz]
  refine ⟨by rw [hlen]; exact hl, ?_⟩
  have I1 : Inv X pins σ H { s with heap := h1, toks := tk } := I.kept k1
  have each : ∀ (n : Nat) (us : List Value) (ks : List (PyData × PyData)), us.length = ks.length → (∀ (j : Nat) (u : Value), us[j]? = some u → ∃ kv b, ks[j]? = some kv ∧ u = .ref b ∧ Rp X.K H (fun _ => False) (.ref b) kv.1) → ∃ vs : List V, Vals vs us ∧ RpL X.K H (fun _ => False) vs (ks.map (·.1)) := by
    intro n us
    induction us with
    | nil => intro ks hl _; cases ks with
      | nil => exact ⟨[], .nil, .nil⟩
      | cons _ _ => simp at hl
    | cons u us ih => intro ks hl h; cases ks with
      | nil => simp at hl
      | cons k ks =>
        obtain ⟨vs, h1, h2⟩ := ih ks (by simpa using hl) fun j u e => by simpa using h (j + 1) u (by simpa using e)
        obtain ⟨kv, b, e1, e2, e3⟩ := h 0 u rfl
        simp at e1
        subst e1 e2
        exact ⟨.ref b :: vs, .cons rfl h1, .cons e3 h2⟩
  obtain ⟨vs, rv, rp⟩ := each 0 acc.toList kvs hlen fun j u e => by
    obtain ⟨en, e1, e2⟩ := hacc.2 j u (by rw [← Array.getElem?_toList]; exact e)
    obtain ⟨kv, b, e3, e4, e5⟩ := dr.key e1
    exact ⟨kv, b, e3, by rw [← e2, e4], e5⟩
  exact sort_core (s := { s with heap := h1, toks := tk }) (tk := tk) I1 (fun _ _ e => e) (Nat.le_refl _) rv rp ok hu q (fun out h => h) (.inl ⟨rfl, rfl⟩)
end
section
variable {X : Cx}
theorem cb_sorted (hu : X.A.units + 65 < cLine) : CallR X (.builtin "sorted") (rBiF X.K (sortD false)) := by
  intro pins s σ H xs us Q I r ⟨S, ps, d, hp, hd, hQ⟩
  have go : ∀ {p : PyData} {ds : List PyData}, ps = [p] → (p = .list ds ∨ p = .tuple ds) → sortOk ds = true → d = dl (sortL false ds) → wpAny (model X.prog X.w) X.A (call (.builtin "sorted") us) (EP X pins σ Q) X.xe s := fun {p ds} e pd ok ed => by
    subst e
    obtain ⟨v, rfl, rv⟩ := hp.one
    obtain ⟨a, rfl⟩ : ∃ a, v = .ref a := by
      rcases pd with e | e
      · subst e; obtain ⟨a, _, e, _⟩ := rv.list_inv; exact ⟨a, e⟩
      · subst e; obtain ⟨a, _, e, _⟩ := rv.tuple_inv; exact ⟨a, e⟩
    rw [Vals.ref1 r]
    exact sorted_seq I rv pd ok hu (fun p vs' hn rp' => hQ _ _ (by rw [ed]; exact Mk.list hn rp')) (.inl ⟨rfl, rfl⟩)
  unfold sortD at hd
  split at hd
  · split at hd
    · rename_i ok
      exact go rfl (.inl rfl) ok (Option.some.inj hd).symm
    · cases hd
  · split at hd
    · rename_i ok
      exact go rfl (.inr rfl) ok (Option.some.inj hd).symm
    · cases hd
  · cases hd
/-- sorted(x, reverse=True) -/
theorem cb_sortedR (hu : X.A.units + 65 < cLine) : CallRK X (.builtin "sorted") [(Str.ofString "reverse")] (fun xs zs H Q => zs = [.bl true] ∧ rBiF X.K (sortD true) xs H Q) := by
  intro pins s σ H xs zs us ws Q I r rz ⟨ez, S, ps, d, hp, hd, hQ⟩
  subst ez
  cases rz with
  | cons rz rr =>
  cases rr
  cases (show _ = Value.bool true from rz)
  have go : ∀ {p : PyData} {ds : List PyData}, ps = [p] → (p = .list ds ∨ p = .tuple ds) → sortOk ds = true → d = dl (sortL true ds) → wpAny (model X.prog X.w) X.A (call (.builtin "sorted") us ([(Str.ofString "reverse")].zip [Value.bool true])) (EP X pins σ Q) X.xe s := fun {p ds} e pd ok ed => by
    subst e
    obtain ⟨v, rfl, rv⟩ := hp.one
    obtain ⟨a, rfl⟩ : ∃ a, v = .ref a := by
      rcases pd with e | e
      · subst e; obtain ⟨a, _, e, _⟩ := rv.list_inv; exact ⟨a, e⟩
      · subst e; obtain ⟨a, _, e, _⟩ := rv.tuple_inv; exact ⟨a, e⟩
    rw [Vals.ref1 r]
    exact sorted_seq I rv pd ok hu (fun p vs' hn rp' => hQ _ _ (by rw [ed]; exact Mk.list hn rp')) (.inr rfl)
  unfold sortD at hd
  split at hd
  · split at hd
    · rename_i ok
      exact go rfl (.inl rfl) ok (Option.some.inj hd).symm
    · cases hd
  · split at hd
    · rename_i ok
      exact go rfl (.inr rfl) ok (Option.some.inj hd).symm
    · cases hd
  · cases hd
/-- sorted of a dict's keys -/
def rSrtD (P : Program) (w : World) (K : PySem.W.Frag) : List V → Hp → VK → Prop := fun xs H Q => ∃ (a : Addr) (es : Array DictEntry) (ep : Nat) (kvs : List (PyData × PyData)) (S : Addr → Prop), xs = [.ref a] ∧ H a = some (rawT a es ep) ∧ DtR P w K H S kvs es ∧ sortOk (kvs.map (·.1)) = true ∧
  ∀ p vs', H p = none → RpL K H (fun _ => False) vs' (sortL false (kvs.map (·.1))) → Q (.ref p) (upd H p (.lst vs'))
theorem cb_sortedD (hc : X.calm = true) (hu : X.A.units + 65 < cLine) : CallR X (.builtin "sorted") (rSrtD X.prog X.w X.K) := by
  intro pins s σ H xs us Q I r ⟨a, es, ep, kvs, S, e, ha, dr, ok, q⟩
  subst e
  rw [Vals.ref1 r]
  exact sorted_raw hc I ha dr ok hu q
end
end DE
end

section
set_option Elab.async false
set_option linter.all false
/-! DE11: places, and what changes a list at a place. -/
namespace DE
open PySem PySem.Spec PyProof.Rows L2

theorem slot_lt {ρ : Env} {i : Nat} (h : slot ρ i ≠ .dead) : i < ρ.length := by
  by_cases l : i < ρ.length
  · exact l
  · exact absurd (by simp [slot, List.getD, List.getElem?_eq_none (Nat.le_of_not_lt l)]) h
theorem getS_nil (d : D) : getS d [] = some d := by cases d <;> rfl
theorem putS_nil (d y : D) : putS d [] y = some y := by cases d <;> rfl
theorem live_slot {ρ : Env} {i : Nat} {sel : List Sel} {x : D} (h : getS (slot ρ i) sel = some x) (hx : x ≠ .dead) : slot ρ i ≠ .dead := fun e => by
  rw [e] at h
  cases sel with
  | nil => rw [getS_nil] at h; cases h; exact hx rfl
  | cons a r => simp [getS] at h
section
variable {K : Kx} {mg : Str → Option Value} {G : List Fn} {W : WX} {σ : L2.St} {Bz Fz0 Fz Fz1 Fz2 : Addr → Prop} {pu p q : Bool} {H0 H H1 H2 : Hp} {f0 f r f1 r1 f2 g : Addr → Nat} {ρ ρ1 ρ2 : Env}
theorem Rv.lst_inv {v : V} {xs : List D} {f : Addr → Nat} (h : Rv K H Fz Bz v (.lst xs) f) : ∃ a vs g, v = .ref a ∧ H a = some (.lst vs) ∧ RvL K H Fz Bz vs xs g ∧ ∀ b, f b = g b + if b = a then 1 else 0 := by
  cases h with | lst h1 h2 h3 => exact ⟨_, _, _, rfl, h1, h2, h3⟩
theorem RvL.cons_inv {vs : List V} {d : D} {ds : List D} {f : Addr → Nat} (h : RvL K H Fz Bz vs (d :: ds) f) : ∃ v ws g g', vs = v :: ws ∧ Rv K H Fz Bz v d g ∧ RvL K H Fz Bz ws ds g' ∧ ∀ b, f b = g b + g' b := by
  cases h with | cons r t q => exact ⟨_, _, _, _, rfl, r, t, q⟩
theorem RvL.nil_inv {vs : List V} {f : Addr → Nat} (h : RvL K H Fz Bz vs [] f) : vs = [] ∧ ∀ b, f b = 0 := by
  cases h with | nil z => exact ⟨rfl, z⟩
theorem RvL.one_inv {vs : List V} {d : D} {f : Addr → Nat} (h : RvL K H Fz Bz vs [d] f) : ∃ v g, vs = [v] ∧ Rv K H Fz Bz v d g ∧ ∀ b, f b = g b := by
  obtain ⟨v, ws, g, g', rfl, r, t, q⟩ := h.cons_inv
  obtain ⟨rfl, z⟩ := t.nil_inv
  exact ⟨v, g, rfl, r, fun b => by rw [q, z]; omega⟩
/-- a live place stands in the heap -/
theorem Re.pathV {i : Nat} {sel : List Sel} {x : D} (re : Re K H Fz Bz σ ρ f) (hg : getS (slot ρ i) sel = some x) (hx : x ≠ .dead) : ∃ v u, σ[i]? = some (some v) ∧ PathV H v sel u := by
  have nd := live_slot hg hx
  obtain ⟨o, fi, g, eo, rs, hf, rest⟩ := re.split (slot_lt nd)
  rcases rs with ⟨e, _⟩ | ⟨v, e, n, rv⟩
  · exact (nd e).elim
  · subst e
    obtain ⟨u, fx, g', hp, _⟩ := rv.path sel hg n
    exact ⟨v, u, eo, hp⟩
/-- .. what it owns, what stands beside it -/
theorem Re.place {i : Nat} {sel : List Sel} {x : D} {v u : V} (re : Re K H Fz Bz σ ρ f) (hv : σ[i]? = some (some v)) (hp : PathV H v sel u) (hg : getS (slot ρ i) sel = some x) (hx : x ≠ .dead) :
    ∃ (fx g : Addr → Nat), Rv K H Fz Bz u x fx ∧ x.ntr = true ∧ (∀ b, f b = fx b + g b) ∧ i < ρ.length ∧
      ∀ (H' : Hp) (Fz' : Addr → Prop), (∀ b o, H b = some o → (Fz b ∨ Bz b ∨ ¬ Ow o) → H' b = some o) → (∀ b, Fz b → Fz' b) → (∀ b o, H b = some o → 1 ≤ g b → H' b = some o) →
        ∀ (x' : D) (fx' : Addr → Nat), Rv K H' Fz' Bz u x' fx' → x'.ntr = true → ∃ d', putS (slot ρ i) sel x' = some d' ∧ Re K H' Fz' Bz σ (ρ.set i d') (fun b => fx' b + g b) := by
  have nd := live_slot hg hx
  have l := slot_lt nd
  obtain ⟨o, fi, g0, eo, rs, hf, rest⟩ := re.split l
  rcases rs with ⟨e, _⟩ | ⟨w, e, n, rv⟩
  · exact (nd e).elim
  · subst e
    rw [hv] at eo
    cases eo
    obtain ⟨u', fx, g', hp', ru, nx, hs, ctx⟩ := rv.path sel hg n
    have eu := PathV.fun hp hp'
    subst eu
    refine ⟨fx, fun b => g' b + g0 b, ru, nx, fun b => by show f b = fx b + (g' b + g0 b); rw [hf, hs]; omega, l, fun H' Fz' k m kg x' fx' rx' nx' => ?_⟩
    obtain ⟨d', e', n', r'⟩ := ctx H' Fz' k m (fun b o e h => kg b o e (by show 1 ≤ g' b + g0 b; omega)) x' fx' rx' nx'
    refine ⟨d', e', ?_⟩
    have rest' := rest.keep k m fun b o e h => kg b o e (by show 1 ≤ g' b + g0 b; omega)
    exact Re.put' rest' l hv (.inr ⟨v, rfl, n', r'⟩) fun b => by show fx' b + (g' b + g0 b) = (fx' b + g' b) + g0 b; omega

theorem RvL.vals {ps : List V} {ds : List D} {f : Addr → Nat} (h : RvL K H Fz Bz ps ds f) : ps.length = ds.length := h.length
/-- an owned object at a place is written -/
theorem write_at {q : Nat × List Sel} {a : Addr} {v : V} {x : D} {o : HO} {rr : Addr → Nat} (re : Re K H Fz Bz σ ρ f) (t : At Bz p H0 Fz0 f0 H Fz f rr) (hv : σ[q.1]? = some (some v)) (hp : PathV H v q.2 (.ref a)) (hg : getS (slot ρ q.1) q.2 = some x) (hx : x ≠ .dead) (ha : H a = some o) (hw : Ow o) (h1 : ∀ fx, Rv K H Fz Bz (.ref a) x fx → 1 ≤ fx a) :
    ∃ fx, Rv K H Fz Bz (.ref a) x fx ∧ x.ntr = true ∧ (∀ b o', H b = some o' → (Fz b ∨ Bz b ∨ ¬ Ow o') → b ≠ a) ∧ (∀ b, fx b + rr b ≤ 1) ∧
      ∀ (o' : HO) (x' : D) (f' rr' : Addr → Nat), Ow o' → Rv K (upd H a o') Fz Bz (.ref a) x' f' → x'.ntr = true → (∀ b, f' b + rr' b ≤ fx b + rr b) → ∃ d' f2, putS (slot ρ q.1) q.2 x' = some d' ∧ Re K (upd H a o') Fz Bz σ (ρ.set q.1 d') f2 ∧ At Bz false H0 Fz0 f0 (upd H a o') Fz f2 rr' := by
  obtain ⟨fx, g, rx, nx, hs, l, ctx⟩ := re.place hv hp hg hx
  have wf := t.wf
  have lin : ∀ b, f b + rr b ≤ 1 := fun b => wf.lin b
  have one := h1 fx rx
  have nF : ∀ b o', H b = some o' → (Fz b ∨ Bz b ∨ ¬ Ow o') → b ≠ a := fun b o' eb z e => by
    subst e
    rcases z with z | z | z
    · have := (wf.fz b z).1; have := hs b; (try dsimp only at *); omega
    · have := (wf.bz b z).1; have := hs b; (try dsimp only at *); omega
    · rw [ha] at eb; cases eb; exact z hw
  refine ⟨fx, rx, nx, nF, fun b => by have := lin b; have := hs b; omega, fun o' x' f' rr' ow r' n' le => ?_⟩
  have up : ∀ b ob, b ≠ a → H b = some ob → (upd H a o') b = some ob := fun b ob n e => by rw [upd_ne n]; exact e
  obtain ⟨d', ed, re'⟩ := ctx (upd H a o') Fz (fun b ob e z => up b ob (nF b ob e z) e) (fun _ z => z) (fun b ob e z => up b ob (fun eq => by subst eq; have := lin b; have := hs b; omega) e) x' f' r' n'
  refine ⟨d', _, ed, re', ?_⟩
  exact t.write (o' := o') (g := fun b => f' b + g b) (r1 := rr') ha (by have := hs a; omega) ow fun b => by have := le b; have := hs b; (try dsimp only); omega

/-- what must hold behind a place's run -/
def OutP (K : Kx) (mg : Str → Option Value) (Bz : Addr → Prop) (σ : L2.St) (pu : Bool) (H : Hp) (Fz : Addr → Prop) (f : Addr → Nat) (W : WX) (r : R (Nat × List Sel)) (Q : VK) : Prop :=
  match r with
  | .ok q ρ => ∀ u v x H' Fz' fρ, Re K H' Fz' Bz σ ρ fρ → At Bz pu H Fz f H' Fz' fρ (fun _ => 0) → σ[q.1]? = some (some v) → PathV H' v q.2 u → getS (slot ρ q.1) q.2 = some x → x ≠ .dead → Q u H'
  | .ex x ρ => ∀ cls dx H' Fz' fρ, Re K H' Fz' Bz σ ρ fρ → Ex K H' Fz' x cls dx → At Bz false H Fz f H' Fz' fρ (fun _ => 0) → W cls dx σ H'
  | .no => False
def LP (K : Kx) (mg : Str → Option Value) (G : List Fn) (W : WX) (p : P) : TE := fun σ H Q => ∃ ρ Fz Bz f, Re K H Fz Bz σ ρ f ∧ Wf H Fz Bz f ∧ OutP K mg Bz σ p.pure H Fz f W (evP G p ρ) Q
theorem LP.sub {e : P} {Q : VK} (re : Re K H Fz Bz σ ρ f) (t : At Bz p H0 Fz0 f0 H Fz f r)
    (hx : ∀ x ρ', evP G e ρ = .ex x ρ' → ∀ cls dx H' Fz' fρ, Re K H' Fz' Bz σ ρ' fρ → Ex K H' Fz' x cls dx → At Bz false H0 Fz0 f0 H' Fz' fρ (fun _ => 0) → W cls dx σ H')
    (hn : evP G e ρ ≠ .no)
    (hok : ∀ q ρ', evP G e ρ = .ok q ρ' → ∀ u v x H' Fz' fρ, Re K H' Fz' Bz σ ρ' fρ → Stp e.pure H Fz f H' Fz' fρ → At Bz (p && e.pure) H0 Fz0 f0 H' Fz' fρ r → σ[q.1]? = some (some v) → PathV H' v q.2 u → getS (slot ρ' q.1) q.2 = some x → x ≠ .dead → Q u H') :
    LP K mg G W e σ H Q := by
  refine ⟨ρ, Fz, Bz, f, re, t.env, ?_⟩
  cases h : evP G e ρ with
  | ok q ρ' =>
    intro u v x H' Fz' fρ re' a hv hp hg hx
    have a' := t.step a.stp a.wf
    exact hok q ρ' h u v x H' Fz' fρ re' (a.stp.cong (fun _ => rfl) fun b => by omega) (a'.cong fun b => by omega) hv hp hg hx
  | ex x ρ' =>
    intro cls dx H' Fz' fρ re' ex a
    refine hx x ρ' h cls dx H' Fz' fρ re' ex ?_
    have a' := t.step a.stp a.wf
    rw [Bool.and_false] at a'
    exact a'.less fun b => by omega
  | no => exact (hn h).elim
theorem LP.one {a : P} {k : Nat × List Sel → Env → R D} {Q : VK} {R1 : V → Hp → Prop} (re : Re K H Fz Bz σ ρ f) (t : At Bz p H0 Fz0 f0 H Fz f r) (out : Out K mg Bz σ pu H0 Fz0 f0 W ((evP G a ρ).bind k) Q)
    (fin : ∀ q ρ1 u v x H1 Fz1 fρ, Re K H1 Fz1 Bz σ ρ1 fρ → Stp a.pure H Fz f H1 Fz1 fρ → At Bz (p && a.pure) H0 Fz0 f0 H1 Fz1 fρ r → σ[q.1]? = some (some v) → PathV H1 v q.2 u → getS (slot ρ1 q.1) q.2 = some x → x ≠ .dead → Out K mg Bz σ pu H0 Fz0 f0 W (k q ρ1) Q → R1 u H1) :
    LP K mg G W a σ H R1 := by
  refine LP.sub re t ?_ ?_ ?_
  · intro x ρ' e; rw [e] at out; exact out
  · intro e; rw [e] at out; exact out
  · intro q ρ' e u v x H' Fz' fρ re' s a hv hp hg hx
    rw [e] at out
    exact fin q ρ' u v x H' Fz' fρ re' s a hv hp hg hx out
theorem isLive_some {o : Option D} (h : isLive o = true) : ∃ x, o = some x ∧ x ≠ .dead := by
  cases o with
  | none => cases h
  | some x => exact ⟨x, rfl, fun e => by subst e; cases h⟩
theorem PathV.last : ∀ {v w : V} {sel : List Sel} {k : Sel}, PathV H v (sel ++ [k]) w → ∃ u, PathV H v sel u ∧ StepV H u k w
  | _, _, [], _, .cons h1 h3 => by cases h3; exact ⟨_, .nil, h1⟩
  | _, _, i :: sel, k, .cons h1 h3 => by
    obtain ⟨u, p, z⟩ := PathV.last (sel := sel) h3
    exact ⟨u, .cons h1 p, z⟩
theorem selD_ix {o : Option D} {d : PyData} {i : Int} (h : selD o d = some (.ix i)) : d = .int i := by
  unfold selD at h
  split at h
  · cases h; rfl
  · obtain ⟨k, _, e⟩ := Option.map_eq_some_iff.mp h
    cases e
  · cases h
theorem selD_key {o : Option D} {d : PyData} {k : L2.Key} (h : selD o d = some (.key k)) : keyE d = some k := by
  unfold selD at h
  split at h
  · cases h
  · obtain ⟨k, h1, e⟩ := Option.map_eq_some_iff.mp h
    cases e
    exact h1
  · cases h
theorem selD_fld {o : Option D} {d : PyData} {f : Str} (h : selD o d = some (.fld f)) : False := by
  unfold selD at h
  split at h
  · cases h
  · obtain ⟨k, h1, e⟩ := Option.map_eq_some_iff.mp h
    cases e
  · cases h
/-- an item's step, as the subscript's rule has it -/
theorem step_ix {K : PySem.W.Frag} {H : Hp} {S : Addr → Prop} {u w y : V} {sl : Sel} {o : Option D} {d : PyData} {Q : VK} (h : StepV H u sl w) (e : selD o d = some sl) (r : Rp K H S y d) (q : Q w H) : rIxO u y H Q ∨ rIxK u y H Q := by
  cases h with
  | ix h1 h2 =>
    have e := selD_ix e
    subst e
    have := r.int_inv; subst this
    exact .inl ⟨_, _, _, _, rfl, rfl, h1, h2, q⟩
  | key h1 h2 =>
    have e := selD_key e
    have := keyE_V e r; subst this
    exact .inr ⟨_, _, _, _, rfl, rfl, h1, h2, q⟩
  | fld h1 h2 => exact (selD_fld e).elim
end

section
variable {X : Cx} {xz : Xs} {G : List Fn} {W : WX} {pos : Pos}
theorem lp_root {i : Nat} {x : Str} (h : PE X (.Name x pos) (tVar i)) : PE X (.Name x pos) (LP (kx X xz) X.mg G W (.root i)) := by
  refine PE.imp h fun σ H Q ⟨ρ, Fz, Bz, f, re, wf, out⟩ => ?_
  simp only [evP] at out
  have nd : slot ρ i ≠ .dead := fun e => by rw [e] at out; exact out
  obtain ⟨v, u, hv, hp⟩ := re.pathV (getS_nil (slot ρ i)) nd
  refine ⟨v, hv, ?_⟩
  have out' : OutP (kx X xz) X.mg Bz σ true H Fz f W (.ok (i, []) ρ) Q := by
    cases e : slot ρ i with
    | dead => exact (nd e).elim
    | _ => rw [e] at out; exact out
  exact out' v v (slot ρ i) H Fz f re (At.start wf) hv .nil (getS_nil _) nd
theorem lp_idx (hu : X.A.units + 65 < cLine) {p : P} {e : E} {ep ei : Expr} (ha : PE X ep (LP (kx X xz) X.mg G W p)) (hi : PE X ei (LE (kx X xz) X.mg G W e)) (hs : PlainIx ei) : PE X (.Subscript ep ei pos) (LP (kx X xz) X.mg G W (.idx p e)) := by
  refine PE.imp (pe_ix (IxR.or ix_own (ix_dct hu)) ha hi hs) fun σ H Q ⟨ρ, Fz, Bz, f, re, wf, out⟩ => ?_
  simp only [evP] at out
  refine LP.sub re (At.start wf) ?_ ?_ ?_
  · intro x ρ' e; rw [e] at out; exact out
  · intro e; rw [e] at out; exact out
  · intro q ρ1 e1 u v x H1 Fz1 fρ1 re1 s1 t1 hv hp hg hx
    rw [e1] at out
    simp only [R.bind] at out
    by_cases he : e.pure = true
    · rw [if_pos he] at out
      refine LE.sub (k := fun d ρ => R.ok d ρ) re1 t1 ?_ ?_ ?_
      · intro x ρ' e; rw [e] at out; exact out
      · intro e; rw [e] at out; exact out
      · intro y ρ2 e2 w H2 Fz2 fρ2 fd2 re2 rv2 s2 t2
        rw [e2] at out
        simp only at out
        split at out
        · rename_i d
          split at out
          · rename_i sl es
            split at out
            · rename_i hl
              obtain ⟨z, ez, nz⟩ := isLive_some hl
              cases rv2 with
              | dat rp _ =>
                obtain ⟨v', w, hv', hpw⟩ := re2.pathV ez nz
                rw [hv] at hv'
                cases hv'
                obtain ⟨u', hpa, st⟩ := hpw.last
                have hp2 : PathV H2 v q.2 u := hp.same fun b o e => s2.keep b o e (.inr he)
                have eu := PathV.fun hp2 hpa
                subst eu
                exact step_ix st es rp (out w v z H2 Fz2 fρ2 re2 ((t2.less fun b => by omega).weak fun h => by simpa [P.pure] using h) hv hpw ez nz)
            · exact out.elim
          · exact out.elim
        · exact out.elim
    · rw [if_neg he] at out
      exact out.elim
/-- a field; hc: what the classes say -/
theorem lp_fld {p : P} {fn : Str} {ep : Expr} (hc : ∀ C ∈ xz.cl, ∀ c, X.mg C = some (.ref c) → Cls X.K c ∧ NoAttr X.K c fn) (ha : PE X ep (LP (kx X xz) X.mg G W p)) (hb : attributeBase ep fn X.env (eval ep X.env) = eval ep X.env) : PE X (.Attribute ep fn pos) (LP (kx X xz) X.mg G W (.fld p fn)) := by
  refine PE.imp (pe_fld ha hb) fun σ H Q ⟨ρ, Fz, Bz, f, re, wf, out⟩ => ?_
  simp only [evP] at out
  refine LP.sub re (At.start wf) ?_ ?_ ?_
  · intro x ρ' e; rw [e] at out; exact out
  · intro e; rw [e] at out; exact out
  · intro q ρ1 e1 u v x H1 Fz1 fρ1 re1 s1 t1 hv hp hg hx
    rw [e1] at out
    simp only [R.bind] at out
    split at out
    · rename_i hl
      obtain ⟨z, ez, nz⟩ := isLive_some hl
      obtain ⟨v', w, hv', hpw⟩ := re1.pathV ez nz
      rw [hv] at hv'
      cases hv'
      obtain ⟨u', hpa, st⟩ := hpw.last
      have eu := PathV.fun hp hpa
      subst eu
      -- the instance at the place
      have gi : ∃ C fs, x = .ins C fs := by
        have : ∀ (d : D) (sel : List Sel) (y z : D), getS d sel = some y → getS d (sel ++ [.fld fn]) = some z → ∃ C fs, y = .ins C fs := by
          intro d sel
          induction sel generalizing d with
          | nil =>
            intro y z h1 h2
            rw [getS_nil] at h1
            cases h1
            cases d <;> simp [getS] at h2
            exact ⟨_, _, rfl⟩
          | cons a sel ih =>
            intro y z h1 h2
            cases d <;> cases a <;> simp only [getS, List.cons_append] at h1 h2 <;> try contradiction
            · split at h1
              · rename_i e0
                rw [e0] at h2
                exact ih _ _ _ h1 h2
              · cases h1
            · split at h1
              · rename_i e0
                rw [e0] at h2
                exact ih _ _ _ h1 h2
              · cases h1
            · split at h1
              · rename_i e0
                rw [e0] at h2
                exact ih _ _ _ h1 h2
              · cases h1
        exact this _ _ _ _ hg ez
      obtain ⟨C, fs, rfl⟩ := gi
      obtain ⟨fx, g, rx, _, _, _, _⟩ := re1.place hv hp hg hx
      cases rx with
      | ins i1 i2 i3 i4 i5 =>
        cases st with
        | fld h1 h2 =>
          obtain ⟨k1, k2⟩ := hc C i2.1 _ i2.2
          rw [i1] at h1
          cases h1
          exact ⟨_, _, _, _, _, rfl, i1, k1, k2, by rw [lookup_aGet]; exact h2, out w v z H1 Fz1 fρ1 re1 (t1.weak fun h => by simpa [P.pure] using h) hv hpw ez nz⟩
    · exact out.elim
theorem le_rd {p : P} {ep : Expr} (ha : PE X ep (LP (kx X xz) X.mg G W p)) : PE X ep (LE (kx X xz) X.mg G W (.rd p)) := by
  refine PE.imp ha fun σ H Q ⟨ρ, Fz, Bz, f, re, wf, out⟩ => ?_
  simp only [evE] at out
  refine LP.one re (At.start wf) out ?_
  intro q ρ1 u v x H1 Fz1 fρ re1 s1 t1 hv hp hg hx out1
  split at out1
  · rename_i d e
    rw [hg] at e
    cases e
    obtain ⟨fx, g, rv, nx, hs, l, ctx⟩ := re1.place hv hp hg hx
    cases rv with
    | dat rp z => exact out1.made (S := Fz1) re1 t1 (fun h => by simpa [E.pure] using h) (.old rp) fun _ h => h
  · exact out1.elim
theorem le_bp {p : P} {ep : Expr} (ha : PE X ep (LP (kx X xz) X.mg G W p)) : PE X ep (LE (kx X xz) X.mg G W (.bp p)) := by
  refine PE.imp ha fun σ H Q ⟨ρ, Fz, Bz, f, re, wf, out⟩ => ?_
  simp only [evE] at out
  refine LP.one re (At.start wf) out ?_
  intro q ρ1 u v x H1 Fz1 fρ re1 s1 t1 hv hp hg hx out1
  split at out1
  · rename_i x' e
    rw [hg] at e
    cases e
    cases hw : x.view with
    | none => rw [hw] at out1; exact out1.elim
    | some d =>
      rw [hw] at out1
      obtain ⟨fx, g, rv, nx, hs, l, ctx⟩ := re1.place hv hp hg hx
      exact out1 u H1 Fz1 fρ (fun _ => 0) re1 (.tr (rv.look hw) fun _ => rfl) (t1.weak fun h => by simpa [E.pure] using h)
  · exact out1.elim

theorem isLst_some {o : Option D} (h : isLst o = true) : ∃ xs, o = some (.lst xs) := by
  cases o with
  | none => cases h
  | some x => cases x <;> first | exact ⟨_, rfl⟩ | cases h
/-- a method that changes a list at a place; vR: the change of the values, as the rule has it -/
theorem pm_core {m : Pm} {p : P} {es : Es} {σ : L2.St} {H : Hp} {Q : VK} {R2' : V → List V → Hp → Prop} (h : LE (kx X xz) X.mg G W (.pm m p es) σ H Q)
    (fin : ∀ (a : Addr) (vs ys : List V) (xs ds xs' : List D) (y : D) (H2 : Hp) (Fz2 Bz : Addr → Prop) (fx fy : Addr → Nat), H2 a = some (.lst vs) → RvL (kx X xz) H2 Fz2 Bz vs xs fx → RvL (kx X xz) H2 Fz2 Bz ys ds fy → D.ntrL xs = true → pmD m xs ds = some (xs', y) →
      (∀ (vs' : List V) (v' : V) (fx' fd : Addr → Nat), RvL (kx X xz) H2 Fz2 Bz vs' xs' fx' → D.ntrL xs' = true → Rv (kx X xz) H2 Fz2 Bz v' y fd → y.ntr = true → (∀ b, fx' b + fd b ≤ fx b + fy b) → Q v' (upd H2 a (.lst vs'))) → R2' (.ref a) ys H2) :
    LP (kx X xz) X.mg G W p σ H fun u H1 => tyV X.K "list" u H1 ∧ LEs (kx X xz) X.mg G W es σ H1 fun ys H2 => R2' u ys H2 := by
  obtain ⟨ρ, Fz, Bz, f, re, wf, out⟩ := h
  simp only [evE] at out
  refine LP.one re (At.start wf) out ?_
  intro q ρ1 u v x H1 Fz1 fρ1 re1 s1 t1 hv hp hg hx out1
  by_cases hc : (isLst (getS (slot ρ1 q.1) q.2) && (q.2.isEmpty || es.pure)) = true
  · rw [if_pos hc] at out1
    rw [Bool.and_eq_true] at hc
    obtain ⟨xs1, e1⟩ := isLst_some hc.1
    rw [hg] at e1
    cases e1
    obtain ⟨fx1, g1, rv1, _, _, _, _⟩ := re1.place hv hp hg hx
    have ty : tyV X.K "list" u H1 := by
      cases rv1 with
      | lst h1 _ _ => exact .inl ⟨rfl, _, SqL.of h1⟩
    refine ⟨ty, LEs.one re1 t1 out1 ?_⟩
    intro ds ρ2 ys H2 Fz2 fρ2 fd2 re2 rvs s2 t2 out2
    split at out2
    · rename_i xs e2
      cases hd : pmD m xs ds with
      | none => rw [hd] at out2; exact out2.elim
      | some w =>
        obtain ⟨xs', y⟩ := w
        rw [hd] at out2
        simp only at out2
        have nd : D.lst xs ≠ .dead := fun z => by cases z
        have hp2 : PathV H2 v q.2 u := by
          rcases (Bool.or_eq_true _ _).mp hc.2 with z | z
          · have e : q.2 = [] := by simpa using z
            rw [e] at hp ⊢
            cases hp
            exact .nil
          · exact hp.same fun b o e => s2.keep b o e (.inr z)
        obtain ⟨fx, g, rv, nx, hs, l, ctx⟩ := re2.place hv hp2 e2 nd
        obtain ⟨a, vs, g0, rfl, h1, h2, h3⟩ := rv.lst_inv
        · simp only [D.ntr] at nx
          refine fin a vs ys xs ds xs' y H2 Fz2 Bz g0 fd2 h1 h2 rvs nx hd fun vs' v' fx' fd r' n' ry ny le => ?_
          -- the write
          have fxa : 1 ≤ fx a := by rw [h3, if_pos rfl]; omega
          have wf2 := t2.wf
          have own1 : ∀ b, fρ2 b + (0 + fd2 b) ≤ 1 := fun b => wf2.lin b
          have tot : ∀ b, fρ2 b = g0 b + (if b = a then 1 else 0) + g b := fun b => by rw [hs, h3]
          have na : ∀ b, 1 ≤ g b → b ≠ a := fun b z e => by subst e; have := own1 b; have := tot b; rw [if_pos rfl] at this; omega
          have nF : ∀ b o, H2 b = some o → (Fz2 b ∨ Bz b ∨ ¬ Ow o) → b ≠ a := fun b o eb z e => by
            subst e
            rcases z with z | z | z
            · have := (wf2.fz b z).1; have := tot b; rw [if_pos rfl] at this; omega
            · have := (wf2.bz b z).1; have := tot b; rw [if_pos rfl] at this; omega
            · rw [h1] at eb; cases eb; exact z trivial
          have nF' : ∀ b, 1 ≤ fx' b + fd b → b ≠ a := fun b z e => by
            subst e
            have := own1 b; have := tot b; rw [if_pos rfl] at this; have := le b; omega
          have up : ∀ b o, b ≠ a → H2 b = some o → (upd H2 a (.lst vs')) b = some o := fun b o n e => by rw [upd_ne n]; exact e
          have r2 : RvL (kx X xz) (upd H2 a (.lst vs')) Fz2 Bz vs' xs' fx' := r'.keep (fun b o e z => up b o (nF b o e z) e) (fun _ z => z) n' fun b o e z => up b o (nF' b (by omega)) e
          have ry2 : Rv (kx X xz) (upd H2 a (.lst vs')) Fz2 Bz v' y fd := ry.keep (fun b o e z => up b o (nF b o e z) e) (fun _ z => z) ny fun b o e z => up b o (nF' b (by omega)) e
          have nl : (D.lst xs').ntr = true := by simpa [D.ntr] using n'
          obtain ⟨d', ed, re3⟩ := ctx (upd H2 a (.lst vs')) Fz2 (fun b o e z => up b o (nF b o e z) e) (fun _ z => z) (fun b o e z => up b o (na b z) e) (.lst xs') (fun b => fx' b + if b = a then 1 else 0) (.lst upd_same r2 fun b => rfl) nl
          rw [ed] at out2
          simp only at out2
          have t3 := t2.write (o' := .lst vs') (g := fun b => fx' b + (if b = a then 1 else 0) + g b) (r1 := fd) h1 (by have := tot a; rw [if_pos rfl] at this; omega) trivial fun b => by have := le b; have := tot b; omega
          exact out2 v' _ Fz2 _ fd re3 ry2 (t3.weak fun h => by simp [E.pure] at h)
    · exact out2.elim
  · rw [if_neg hc] at out1
    exact out1.elim
theorem ntrL_append : ∀ {l m : List D}, D.ntrL l = true → D.ntrL m = true → D.ntrL (l ++ m) = true
  | [], _, _, h => h
  | c :: l, m, h, h' => by
    rw [D.ntrL, Bool.and_eq_true] at h
    rw [List.cons_append, D.ntrL, h.1, ntrL_append h.2 h']; rfl
theorem ntrL_erase : ∀ {l : List D} {i : Nat}, D.ntrL l = true → D.ntrL (l.eraseIdx i) = true
  | [], _, _ => rfl
  | c :: l, 0, h => by
    rw [D.ntrL, Bool.and_eq_true] at h
    exact h.2
  | c :: l, i + 1, h => by
    rw [D.ntrL, Bool.and_eq_true] at h
    rw [List.eraseIdx_cons_succ, D.ntrL, h.1, ntrL_erase h.2]; rfl
variable {apos cpos : Pos} {ep : Expr}
theorem le_append {p : P} {es : Es} {e : Expr} {as : List Expr} (hp : PE X ep (LP (kx X xz) X.mg G W p)) (ha : PA X (e :: as) (LEs (kx X xz) X.mg G W es)) (hbase : attributeBase ep "append" X.env (eval ep X.env) = eval ep X.env)
    (hfew : ((backTo cpos (starEach (e :: as) X.env)).all (fun x => !x.1) && (backToKw cpos (keywordEach [] X.env)).all (fun x => x.1.isSome)
      && decide ((e :: as).length + ([] : List Keyword).length + (if ([] : List Keyword).isEmpty then 0 else 1) < 30)) = true)
    (hline : (apos.endLine == cpos.line) = true) (hs : starEach (e :: as) X.env = (false, eval e X.env) :: starEach as X.env) (hplain : (backTo cpos (starEach as X.env)).any (·.1) = false) :
    PE X (.Call (.Attribute ep "append" apos) (e :: as) [] cpos) (LE (kx X xz) X.mg G W (.pm .append p es)) := by
  refine PE.imp (pe_bm PySem.F.plainAttrs_list PySem.F.slot_list_append PySem.F.type_list_append mt_append hp ha hbase hfew hline hs hplain) fun σ H Q h => ?_
  refine pm_core h fun a vs ys xs ds xs' y H2 Fz2 Bz fx fy ha rx ry nx hd k => ?_
  unfold pmD at hd
  split at hd <;> try first | contradiction | cases hd
  · split at hd
    · rename_i hl
      split at hd
      · rename_i ho
        cases hd
        obtain ⟨w, f0, rfl, r1, q1⟩ := ry.one_inv
        · · refine ⟨a, vs, w, rfl, rfl, ha, by rw [rx.length, sizeLine_eq]; exact of_decide_eq_true hl, k (vs ++ [w]) .non (fun b => fx b + f0 b) (fun _ => 0) (rx.append (.cons r1 (.nil fun _ => rfl) fun b => rfl) fun b => by show _ = fx b + (f0 b + 0); omega) ?_ (.dat .non fun _ => rfl) rfl fun b => ?_⟩
            · exact ntrL_append nx (by rw [D.ntrL, ntr_of_own ho]; rfl)
            · rw [q1]; omega
      · cases hd
    · cases hd
theorem le_extend {p : P} {es : Es} {e : Expr} {as : List Expr} (hp : PE X ep (LP (kx X xz) X.mg G W p)) (ha : PA X (e :: as) (LEs (kx X xz) X.mg G W es)) (hbase : attributeBase ep "extend" X.env (eval ep X.env) = eval ep X.env)
    (hfew : ((backTo cpos (starEach (e :: as) X.env)).all (fun x => !x.1) && (backToKw cpos (keywordEach [] X.env)).all (fun x => x.1.isSome)
      && decide ((e :: as).length + ([] : List Keyword).length + (if ([] : List Keyword).isEmpty then 0 else 1) < 30)) = true)
    (hline : (apos.endLine == cpos.line) = true) (hs : starEach (e :: as) X.env = (false, eval e X.env) :: starEach as X.env) (hplain : (backTo cpos (starEach as X.env)).any (·.1) = false) :
    PE X (.Call (.Attribute ep "extend" apos) (e :: as) [] cpos) (LE (kx X xz) X.mg G W (.pm .extend p es)) := by
  refine PE.imp (pe_bm PySem.F.plainAttrs_list PySem.F.slot_list_extend PySem.F.type_list_extend mt_extend hp ha hbase hfew hline hs hplain) fun σ H Q h => ?_
  refine pm_core h fun a vs ys xs ds xs' y H2 Fz2 Bz fx fy ha rx ry nx hd k => ?_
  unfold pmD at hd
  split at hd <;> try first | contradiction | cases hd
  · split at hd
    · rename_i ys0 hl
      cases hd
      rw [Bool.and_eq_true] at hl
      obtain ⟨w, f0, rfl, r1, q1⟩ := ry.one_inv
      obtain ⟨b, zs, g0, rfl, hb, rb, qb⟩ := r1.lst_inv
      · · · have len := fits_line hl.1
            rw [← rx.length, ← rb.length] at len
            refine ⟨a, b, vs, zs, rfl, rfl, ha, hb, len, k (vs ++ zs) .non (fun c => fx c + g0 c) (fun _ => 0) (rx.append rb fun c => rfl) (ntrL_append nx (ntrL_of_own hl.2)) (.dat .non fun _ => rfl) rfl fun c => ?_⟩
            rw [q1, qb]
            omega
    · cases hd
theorem le_popAt {p : P} {es : Es} {e : Expr} {as : List Expr} (hp : PE X ep (LP (kx X xz) X.mg G W p)) (ha : PA X (e :: as) (LEs (kx X xz) X.mg G W es)) (hbase : attributeBase ep "pop" X.env (eval ep X.env) = eval ep X.env)
    (hfew : ((backTo cpos (starEach (e :: as) X.env)).all (fun x => !x.1) && (backToKw cpos (keywordEach [] X.env)).all (fun x => x.1.isSome)
      && decide ((e :: as).length + ([] : List Keyword).length + (if ([] : List Keyword).isEmpty then 0 else 1) < 30)) = true)
    (hline : (apos.endLine == cpos.line) = true) (hs : starEach (e :: as) X.env = (false, eval e X.env) :: starEach as X.env) (hplain : (backTo cpos (starEach as X.env)).any (·.1) = false) :
    PE X (.Call (.Attribute ep "pop" apos) (e :: as) [] cpos) (LE (kx X xz) X.mg G W (.pm .popAt p es)) := by
  refine PE.imp (pe_bm PySem.F.plainAttrs_list PySem.F.slot_list_pop PySem.F.type_list_pop mt_popAt hp ha hbase hfew hline hs hplain) fun σ H Q h => ?_
  refine pm_core h fun a vs ys xs ds xs' y H2 Fz2 Bz fx fy ha rx ry nx hd k => ?_
  unfold pmD at hd
  split at hd <;> try first | contradiction | cases hd
  · split at hd
    · rename_i i _ hl
      have hl := rngOk_b hl
      obtain ⟨j, ej, e1⟩ := Option.bind_eq_some_iff.mp hd
      obtain ⟨z, ez, e2⟩ := Option.map_eq_some_iff.mp e1
      cases e2
      obtain ⟨w, fi, g, hw, rw', q, _, er⟩ := rx.split ez
      obtain ⟨w1, f0, rfl, r1, q1⟩ := ry.one_inv
      · · cases r1 with
          | dat rp _ =>
            have e := rp.int_inv; subst e
            rw [← rx.length] at ej
            exact ⟨a, vs, i, j, w, rfl, rfl, ha, by omega, by omega, (ixN_seq ej).1, hw, k (vs.eraseIdx j) w g fi er (ntrL_erase nx) rw' (ntrL_get nx ez) fun b => by rw [q]; omega⟩
    · cases hd
theorem le_pop {p : P} (hp : PE X ep (LP (kx X xz) X.mg G W p)) (hbase : attributeBase ep "pop" X.env (eval ep X.env) = eval ep X.env)
    (hline : (apos.endLine == cpos.line) = true) :
    PE X (.Call (.Attribute ep "pop" apos) [] [] cpos) (LE (kx X xz) X.mg G W (.pm .pop p .nil)) := by
  refine PE.imp (pe_bm0 PySem.F.plainAttrs_list PySem.F.slot_list_pop PySem.F.type_list_pop mt_pop hp hbase hline) fun σ H Q h => ?_
  have h' := pm_core (R2' := fun u ys H2 => ys = [] ∧ rPop u [] H2 Q) h fun a vs ys xs ds xs' y H2 Fz2 Bz fx fy ha rx ry nx hd k => by
    unfold pmD at hd
    split at hd <;> try first | contradiction | cases hd
    · obtain ⟨z, ez, e2⟩ := Option.map_eq_some_iff.mp hd
      cases e2
      obtain ⟨rfl, _⟩ := ry.nil_inv
      obtain ⟨w, fi, g, hw, rw', q, _, er⟩ := rx.split ez
      have dl : ∀ {α : Type} (l : List α), l.eraseIdx (l.length - 1) = l.dropLast := fun l => by
        rw [List.eraseIdx_eq_take_drop_succ]
        rcases l with _ | ⟨c, l⟩
        · rfl
        · rw [List.dropLast_eq_take]
          simp
      rw [← rx.length] at er
      rw [dl vs] at er
      rw [rx.length, dl] at er
      exact ⟨rfl, a, vs, w, rfl, rfl, ha, by rw [rx.length]; exact hw, k vs.dropLast w g fi er (by rw [← dl]; exact ntrL_erase nx) rw' (ntrL_get nx ez) fun b => by rw [q]; omega⟩
  obtain ⟨ρ, Fz, Bz, f, re, wf, out⟩ := h'
  refine ⟨ρ, Fz, Bz, f, re, wf, ?_⟩
  revert out
  cases evP G p ρ with
  | no => exact id
  | ex x ρ' => exact id
  | ok q ρ' =>
    intro out u v x H' Fz' fρ re' t hv hp hg hx
    obtain ⟨ty, hl⟩ := out u v x H' Fz' fρ re' t hv hp hg hx
    exact ⟨ty, (nil_imp hl).2⟩
end
end DE
end

section
set_option Elab.async false
set_option linter.all false
/-! DE11b: dicts in expressions. -/
namespace DE
open PySem PySem.Spec PyProof.Rows L2

section
variable {K : Kx} {H : Hp} {Fz Bz : Addr → Prop}
theorem Rv.dtt_inv {v : V} {kvs : List (PyData × PyData)} {f : Addr → Nat} (h : Rv K H Fz Bz v (.dtt kvs) f) : ∃ a es ep, v = .ref a ∧ H a = some (rawT a es ep) ∧ DtR K.P K.w K.K H Fz kvs es ∧ ∀ b, f b = if b = a then 1 else 0 := by
  cases h with | dtt h1 h2 h3 => exact ⟨_, _, _, rfl, h1, h2, h3⟩
theorem Rv.dct_inv {v : V} {kvs : List (L2.Key × D)} {f : Addr → Nat} (h : Rv K H Fz Bz v (.dct kvs) f) : ∃ a ps g, v = .ref a ∧ H a = some (.dK ps) ∧ (ps.map (·.1) = kvs.map (·.1) ∧ (kvs.map (·.1)).Nodup) ∧ RvL K H Fz Bz (ps.map (·.2)) (kvs.map (·.2)) g ∧ ∀ b, f b = g b + if b = a then 1 else 0 := by
  cases h with | dct h1 h2 h3 h4 => exact ⟨_, _, _, rfl, h1, h2, h3, h4⟩
theorem Rv.ins_inv {v : V} {C : Str} {fs : List (Str × D)} {f : Addr → Nat} (h : Rv K H Fz Bz v (.ins C fs) f) : ∃ a c dx vs g, v = .ref a ∧ H a = some (.ins c dx vs) ∧ (C ∈ K.xs.cl ∧ K.mg C = some (.ref c)) ∧ vs.map (·.1) = fs.map (·.1) ∧ RvL K H Fz Bz (vs.map (·.2)) (fs.map (·.2)) g ∧ ∀ b, f b = g b + if b = a then 1 else 0 := by
  cases h with | ins h1 h2 h3 h4 h5 => exact ⟨_, _, _, _, _, rfl, h1, h2, h3, h4, h5⟩
/-- data of a dict's item -/
theorem RvL.datAt {ps : List (L2.Key × V)} {kvs : List (L2.Key × D)} {g : Addr → Nat} {k : L2.Key} {d : PyData} (r : RvL K H Fz Bz (ps.map (·.2)) (kvs.map (·.2)) g) (e : ps.map (·.1) = kvs.map (·.1)) (h : aGet kvs k = some (.dat d)) : ∃ w, aGet ps k = some w ∧ Rp K.K H Fz w d := by
  obtain ⟨j, h1, h2, _, _⟩ := aGet_ix e h
  obtain ⟨v, fi, g', hv, rv, _, _, _⟩ := r.split h1
  cases rv with
  | dat rp _ => exact ⟨v, h2 v hv, rp⟩
theorem some_iff {ps : List (L2.Key × V)} {kvs : List (L2.Key × D)} {k : L2.Key} {g : Addr → Nat} (r : RvL K H Fz Bz (ps.map (·.2)) (kvs.map (·.2)) g) (e : ps.map (·.1) = kvs.map (·.1)) : (aGet ps k).isSome = (aGet kvs k).isSome := by
  cases h : aGet kvs k with
  | none => rw [(aGet_no e h).1]; rfl
  | some x =>
    obtain ⟨j, h1, h2, _, _⟩ := aGet_ix e h
    obtain ⟨v, fi, g', hv, rv, _, _, _⟩ := r.split h1
    rw [h2 v hv]; rfl
end

section
variable {X : Cx} {xz : Xs} {G : List Fn} {W : WX} {pos : Pos}
theorem path_on' {H H1 : Hp} {Fz Fz1 : Addr → Prop} {f f1 : Addr → Nat} {q : Nat × List Sel} {b : Bool} {v u : V} (hp : PathV H v q.2 u) (hc : (q.2.isEmpty || b) = true) (s : Stp b H Fz f H1 Fz1 f1) : PathV H1 v q.2 u := by
  rcases (Bool.or_eq_true _ _).mp hc with z | z
  · have e : q.2 = [] := by simpa using z
    rw [e] at hp ⊢
    cases hp
    exact .nil
  · exact hp.same fun b o e => s.keep b o e (.inr z)
/-- d[k], keys tuples -/
theorem le_dget (hu : X.A.units + 65 < cLine) {p : P} {k : E} {ep ek : Expr} (ha : PE X ep (LP (kx X xz) X.mg G W p)) (hk : PE X ek (LE (kx X xz) X.mg G W k)) (hs : PlainIx ek) : PE X (.Subscript ep ek pos) (LE (kx X xz) X.mg G W (.dget p k)) := by
  refine PE.imp (pe_ix (ix_dtt hu) ha hk hs) fun σ H Q ⟨ρ, Fz, Bz, f, re, wf, out⟩ => ?_
  simp only [evE] at out
  refine LP.one re (At.start wf) out ?_
  intro q ρ1 u v x H1 Fz1 fρ re1 s1 t1 hv hp hg hx out1
  by_cases hc : (q.2.isEmpty || k.pure) = true
  · rw [if_pos hc] at out1
    refine LE.one re1 t1 out1 ?_
    intro y ρ2 w H2 Fz2 fρ2 fd re2 rv2 s2 t2 out2
    split at out2
    · rename_i kvs d e
      split at out2
      · rename_i tk
        cases hd : aGet kvs d with
        | none => rw [hd] at out2; exact out2.elim
        | some z =>
          rw [hd] at out2
          have hp2 := path_on' hp hc s2
          obtain ⟨fx, g, rx, _, _, _, _⟩ := re2.place hv hp2 e (fun z => by cases z)
          obtain ⟨a, es, ep', rfl, h1, h2, _⟩ := rx.dtt_inv
          cases rv2 with
          | dat rp _ => exact ⟨a, es, ep', kvs, Fz2, Fz2, d, z, rfl, h1, h2, rp, tk, hd, fun v' rv' => out2.made (S := Fz2) re2 (t2.less (g := fρ2) (r1 := fun _ => 0) fun b => by omega) (fun h => by simpa [E.pure] using h) (.old rv') fun _ h => h⟩
      · exact out2.elim
    · exact out2.elim
  · rw [if_neg hc] at out1
    exact out1.elim
/-- k in d -/
theorem inD_imp {neg : Bool} {k : E} {p : P} {σ : L2.St} {H : Hp} {Q : VK} (h : LE (kx X xz) X.mg G W (.inD neg k p) σ H Q) : tOp (rInD X.prog X.w X.K neg) (LE (kx X xz) X.mg G W k) (LP (kx X xz) X.mg G W p) σ H Q := by
  obtain ⟨ρ, Fz, Bz, f, re, wf, out⟩ := h
  simp only [evE] at out
  refine LE.one re (At.start wf) out ?_
  intro x ρ1 vk H1 Fz1 fρ fd re1 rv1 s1 t1 out1
  refine LP.one re1 t1 out1 ?_
  intro q ρ2 u v y H2 Fz2 fρ2 re2 s2 t2 hv hp hg hx out2
  split at out2
  · rename_i d
    rw [hg] at out2
    cases hd : dHas (some y) d with
    | none => rw [hd] at out2; exact out2.elim
    | some b =>
      rw [hd] at out2
      have rv2 := rv1.frame (.inl rfl) s2 (t1.wf.cong fun b => by omega)
      obtain ⟨fx, g, rx, _, _, _, _⟩ := re2.place hv hp hg hx
      cases rv2 with
      | dat rp _ =>
        have fin : Q (.bl (if neg then !b else b)) H2 := out2.made (S := Fz2) re2 t2 (fun h => by simpa [E.pure] using h) (.old (.bl _)) fun _ h => h
        unfold dHas at hd
        split at hd
        · rename_i kvs e
          cases e
          obtain ⟨kk, e1, e2⟩ := Option.map_eq_some_iff.mp hd
          obtain ⟨a, ps, g0, rfl, h1, h2, h3, _⟩ := rx.dct_inv
          exact ⟨a, b, rfl, .inl ⟨ps, kk, keyE_V e1 rp, h1, by rw [some_iff h3 h2.1]; exact e2⟩, fin⟩
        · rename_i kvs e
          cases e
          split at hd
          · rename_i tk
            cases hd
            obtain ⟨a, es, ep', rfl, h1, h2, _⟩ := rx.dtt_inv
            exact ⟨a, _, rfl, .inr ⟨es, ep', kvs, Fz2, Fz2, d, h1, h2, rp, tk, rfl⟩, fin⟩
          · cases hd
        · cases hd
  · exact out2.elim
theorem le_inD (hu : X.A.units + 65 < cLine) {k : E} {p : P} {ek ep : Expr} (hk : PE X ek (LE (kx X xz) X.mg G W k)) (hp : PE X ep (LP (kx X xz) X.mg G W p)) (hm : behindInMarks .In ep = false) : PE X (.Compare ek [.In] [ep] pos) (LE (kx X xz) X.mg G W (.inD false k p)) :=
  PE.imp (pe_cmpR (op_inD hu) hk hp hm) fun σ H Q h => inD_imp h
theorem le_notInD (hu : X.A.units + 65 < cLine) {k : E} {p : P} {ek ep : Expr} (hk : PE X ek (LE (kx X xz) X.mg G W k)) (hp : PE X ep (LP (kx X xz) X.mg G W p)) (hm : behindInMarks .NotIn ep = false) : PE X (.Compare ek [.NotIn] [ep] pos) (LE (kx X xz) X.mg G W (.inD true k p)) :=
  PE.imp (pe_cmpR (op_notInD hu) hk hp hm) fun σ H Q h => inD_imp h
theorem lt_inD (hu : X.A.units + 65 < cLine) {k : E} {p : P} {ek ep : Expr} (hk : PE X ek (LE (kx X xz) X.mg G W k)) (hp : PE X ep (LP (kx X xz) X.mg G W p)) (hm : behindInMarks .In ep = false) : PT X (.Compare ek [.In] [ep] pos) (LT (kx X xz) X.mg G W (.inD false k p)) :=
  PT.imp (pt_cmpR (op_inD hu) hk hp hm) fun σ H Q h => inD_imp h.le
theorem lt_notInD (hu : X.A.units + 65 < cLine) {k : E} {p : P} {ek ep : Expr} (hk : PE X ek (LE (kx X xz) X.mg G W k)) (hp : PE X ep (LP (kx X xz) X.mg G W p)) (hm : behindInMarks .NotIn ep = false) : PT X (.Compare ek [.NotIn] [ep] pos) (LT (kx X xz) X.mg G W (.inD true k p)) :=
  PT.imp (pt_cmpR (op_notInD hu) hk hp hm) fun σ H Q h => inD_imp h.le
/-- a dict, whatever its keys -/
def IsDX (H : Hp) (u : V) : Prop := ∃ a, u = .ref a ∧ ((∃ ps, H a = some (.dK ps)) ∨ ∃ es ep, H a = some (rawT a es ep))
theorem isDX_at {pins : List (Addr × Obj)} {σ : L2.St} {H : Hp} {s : Shared} {u : V} {v : Value} (I : Inv X pins σ H s) (r : RelV u v) (d : IsDX H u) : s.TypeIs v "dict" ∧ ∀ a, v = .ref a → ∃ ob, s.heap.get? a = some ob ∧ ob.dict = none := by
  obtain ⟨a, rfl, d⟩ := d
  cases r
  rcases d with ⟨ps, e⟩ | ⟨es, ep, e⟩
  · obtain ⟨_, hd, vs, _, dd⟩ := dk_rd I.hok (.inl e)
    refine ⟨dd.typeIs, fun b q => ?_⟩
    cases q
    obtain ⟨ob, _, _, h1, h2, _⟩ := dd
    exact ⟨ob, h1, h2.2.1⟩
  · obtain ⟨lo, o, h1, h2, _⟩ := raw_at I e
    refine ⟨⟨o, h1, h2.1⟩, fun b q => ?_⟩
    cases q
    exact ⟨o, h1, h2.2.1⟩
theorem isDX_of {K : Kx} {H : Hp} {Fz Bz : Addr → Prop} {u : V} {x : D} {f : Addr → Nat} (r : Rv K H Fz Bz u x f) (h : isDct (some x) = true) : IsDX H u := by
  cases x <;> simp [isDct] at h
  · obtain ⟨a, ps, _, e, h1, _⟩ := r.dct_inv
    exact ⟨a, e, .inl ⟨ps, h1⟩⟩
  · obtain ⟨a, es, ep, e, h1, _⟩ := r.dtt_inv
    exact ⟨a, e, .inr ⟨es, ep, h1⟩⟩
def tBMD (r : V → List V → Hp → VK → Prop) (to : TE) (t : TA) : TE := fun σ H Q => to σ H fun x H1 => IsDX H1 x ∧ t σ H1 fun xs H2 => r x xs H2 Q
variable {apos cpos : Pos} {ep : Expr}
theorem pe_bmD {r : V → List V → Hp → VK → Prop} {to : TE} {t : TA} {o e : Expr} {es : List Expr} {name : Str} {id : String} (pa : PlainAttrs "dict") (slot : Slot "dict" name id) (hty : typeOf (.builtin id) = pure (.type "method_descriptor")) (hm : MtR X id r) (ho : PE X o to) (ha : PA X (e :: es) t)
    (hbase : attributeBase o name X.env (eval o X.env) = eval o X.env)
    (hfew : ((backTo cpos (starEach (e :: es) X.env)).all (fun x => !x.1) && (backToKw cpos (keywordEach [] X.env)).all (fun x => x.1.isSome)
      && decide ((e :: es).length + ([] : List Keyword).length + (if ([] : List Keyword).isEmpty then 0 else 1) < 30)) = true)
    (hline : (apos.endLine == cpos.line) = true) (hs : starEach (e :: es) X.env = (false, eval e X.env) :: starEach es X.env) (hplain : (backTo cpos (starEach es X.env)).any (·.1) = false) :
    PE X (.Call (.Attribute o name apos) (e :: es) [] cpos) (tBMD r to t) := by
  refine ⟨fun pins s σ H Q I h => ?_⟩
  refine wpAny_Call_method_late hbase hfew hline rfl (thn (ho.run pins s σ H _ I h) fun v s1 ⟨x, H1, I1, r1, ty, q1⟩ => ?_)
  obtain ⟨h1, h2⟩ := isDX_at I1 r1 ty
  refine ⟨"dict", id, pa, slot, hty, h1, h2, ?_⟩
  have hA := ha.run cpos pins s1 σ H1 _ I1 q1
  rw [hs] at hA ⊢
  refine Calls.callWith_builtin (by show (false || (backTo cpos (starEach es X.env)).any (·.1)) = false; rw [hplain] <;> rfl) (Calls.evalArgs_plain ?_)
  exact thn hA fun us s2 ⟨vs, H2, I2, r2, q2⟩ => hm pins s2 σ H2 x vs v us Q I2 r1 r2 q2
/-- d.get(k, z) -/
theorem get2_imp {p : P} {k d : E} {σ : L2.St} {H : Hp} {Q : VK} (h : LE (kx X xz) X.mg G W (.get2 p k d) σ H Q) : tBMD (rGet2 X.prog X.w X.K) (LP (kx X xz) X.mg G W p) (tCons (LE (kx X xz) X.mg G W k) (tCons (LE (kx X xz) X.mg G W d) tNil)) σ H Q := by
  obtain ⟨ρ, Fz, Bz, f, re, wf, out⟩ := h
  simp only [evE] at out
  refine LP.one re (At.start wf) out ?_
  intro q ρ1 u v x H1 Fz1 fρ re1 s1 t1 hv hp hg hx out1
  by_cases hc : (isDct (getS (slot ρ1 q.1) q.2) && (q.2.isEmpty || (k.pure && d.pure))) = true
  · rw [if_pos hc] at out1
    rw [Bool.and_eq_true] at hc
    rw [hg] at hc
    obtain ⟨fx, g, rx, _, _, _, _⟩ := re1.place hv hp hg hx
    refine ⟨isDX_of rx hc.1, ?_⟩
    refine LE.one re1 t1 out1 ?_
    intro y ρ2 w H2 Fz2 fρ2 fd re2 rv2 s2 t2 out2
    refine LE.one re2 t2 out2 ?_
    intro z ρ3 w3 H3 Fz3 fρ3 fd3 re3 rv3 s3 t3 out3
    split at out3
    · rename_i yd zd
      have hp3 : PathV H3 v q.2 u := by
        rcases (Bool.or_eq_true _ _).mp hc.2 with z | z
        · have e : q.2 = [] := by simpa using z
          rw [e] at hp ⊢
          cases hp
          exact .nil
        · rw [Bool.and_eq_true] at z
          exact (hp.same fun b o e => s2.keep b o e (.inr z.1)).same fun b o e => s3.keep b o e (.inr z.2)
      have rv2' := rv2.frame (.inl rfl) s3 (t2.wf.cong fun b => by omega)
      cases hd : dGet2 (getS (slot ρ3 q.1) q.2) yd zd with
      | none => rw [hd] at out3; exact out3.elim
      | some r =>
        rw [hd] at out3
        have fin : ∀ v', Rp X.K H3 Fz3 v' r → Q v' H3 := fun v' rp => out3.made (S := Fz3) re3 (t3.less (g := fρ3) (r1 := fun _ => 0) fun b => by omega) (fun h => by simpa [E.pure, Bool.and_assoc] using h) (.old rp) fun _ h => h
        cases rv2' with
        | dat rpk _ =>
        cases rv3 with
        | dat rpz _ =>
        unfold dGet2 at hd
        split at hd
        · rename_i kvs e
          obtain ⟨fx3, g3, rx3, _, _, _, _⟩ := re3.place hv hp3 e (fun z => by cases z)
          obtain ⟨a, ps, g0, rfl, h1, h2, h3, _⟩ := rx3.dct_inv
          obtain ⟨kk, e1, e2⟩ := Option.bind_eq_some_iff.mp hd
          refine ⟨a, w, w3, rfl, rfl, .inl ⟨ps, kk, keyE_V e1 rpk, h1, ?_⟩⟩
          split at e2
          · rename_i val e3
            cases e2
            obtain ⟨w', e4, e5⟩ := h3.datAt h2.1 e3
            rw [e4]
            exact fin w' e5
          · cases e2
          · rename_i e3
            cases e2
            rw [(aGet_no h2.1 e3).1]
            exact fin w3 rpz
        · rename_i kvs e
          obtain ⟨fx3, g3, rx3, _, _, _, _⟩ := re3.place hv hp3 e (fun z => by cases z)
          obtain ⟨a, es, ep', rfl, h1, h2, _⟩ := rx3.dtt_inv
          split at hd
          · rename_i tk
            cases hd
            refine ⟨a, w, w3, rfl, rfl, .inr ⟨es, ep', kvs, Fz3, Fz3, Fz3, yd, zd, h1, h2, rpk, tk, rpz, fun d' e' v' rp' => fin v' (by rw [e']; exact rp'), fun e' => fin w3 (by rw [e']; exact rpz)⟩⟩
          · cases hd
        · cases hd
    · exact out3.elim
  · rw [if_neg hc] at out1
    exact out1.elim
/-- {} of tuple keys -/
theorem le_dtE : PE X (.Dict [] [] pos) (LE (kx X xz) X.mg G W .dtE) := by
  refine PE.imp pe_dnewR fun σ H Q ⟨ρ, Fz, Bz, f, re, wf, out⟩ p hn => ?_
  simp only [evE] at out
  have up : ∀ b o, H b = some o → (upd H p (rawT p #[] 0)) b = some o := fun b o e => by rw [upd_ne (ne_of_none e hn)]; exact e
  exact out _ _ Fz f (fun b => if b = p then 1 else 0) (re.keep (fun b o e _ => up b o e) (fun _ z => z) fun b o e _ => up b o e) (.dtt upd_same dtR_nil fun b => rfl) ((At.start wf).new (o := rawT p #[] 0) (r1 := fun b => if b = p then 1 else 0) hn trivial fun b => by simp)
/-- {k: v} -/
theorem le_dt1 (hu : X.A.units + 65 < cLine) {k v : E} {ek ev : Expr} (hk : PE X ek (LE (kx X xz) X.mg G W k)) (hv : PE X ev (LE (kx X xz) X.mg G W v)) : PE X (.Dict [some ek] [ev] pos) (LE (kx X xz) X.mg G W (.dt1 k v)) := by
  refine PE.imp (pe_disp1 hu hk hv) fun σ H Q ⟨ρ, Fz, Bz, f, re, wf, out⟩ p hn => ?_
  simp only [evE] at out
  have up : ∀ b o, H b = some o → (upd H p (rawT p #[] 0)) b = some o := fun b o e => by rw [upd_ne (ne_of_none e hn)]; exact e
  have re0 := re.keep (H' := upd H p (rawT p #[] 0)) (fun b o e _ => up b o e) (fun _ z => z) fun b o e _ => up b o e
  have t0 := (At.start wf).new (o := rawT p #[] 0) (r1 := fun b => if b = p then 1 else 0) hn trivial fun b => by simp
  refine LE.one re0 t0 out ?_
  intro x ρ1 w1 H1 Fz1 fρ1 fd1 re1 rv1 s1 t1 out1
  refine LE.one re1 t1 out1 ?_
  intro y ρ2 w2 H2 Fz2 fρ2 fd2 re2 rv2 s2 t2 out2
  split at out2
  · rename_i xd yd
    split at out2
    · rename_i tk
      have rv1' := rv1.frame (.inl rfl) s2 (t1.wf.le fun b => by (try dsimp only); omega)
      have z0 : f p = 0 := by
        by_cases h : 1 ≤ f p
        · obtain ⟨o', e, _⟩ := wf.own p h; rw [hn] at e; cases e
        · omega
      have e1 : H1 p = some (rawT p #[] 0) := s1.keep p _ upd_same (.inl z0)
      have lin1 : fρ1 p = 0 := by have := t1.wf.lin p; simp at this; omega
      have e2 : H2 p = some (rawT p #[] 0) := s2.keep p _ e1 (.inl lin1)
      cases rv1' with
      | dat rpk _ =>
      cases rv2 with
      | dat rpv _ =>
      refine ⟨w1, w2, rfl, e2, Fz2, Fz2, xd, yd, rpk, tk, rpv, fun es ep dr => ?_⟩
      have wf2 := t2.wf
      have nF : ∀ b o, H2 b = some o → (Fz2 b ∨ Bz b ∨ ¬ Ow o) → b ≠ p := fun b o eb z e => by
        subst e
        rcases z with z | z | z
        · have := (wf2.fz b z).1; simp at this
        · have := (wf2.bz b z).1; simp at this
        · rw [e2] at eb; cases eb; exact z trivial
      have up2 : ∀ b o, b ≠ p → H2 b = some o → (upd H2 p (rawT p es ep)) b = some o := fun b o n e => by rw [upd_ne n]; exact e
      have lin2 : fρ2 p = 0 := by have := wf2.lin p; simp at this; omega
      have t3 := t2.write (o := rawT p #[] 0) (o' := rawT p es ep) (g := fρ2) (r1 := fun b => if b = p then 1 else 0) e2 (by simp; omega) trivial fun b => by simp; omega
      have t3' : At Bz (true && k.pure && v.pure) H Fz f (upd H2 p (rawT p es ep)) Fz2 fρ2 (fun b => if b = p then 1 else 0) := by
        refine ⟨t3.wf, ?_⟩
        have a := t2.stp
        refine ⟨fun b o e h => ?_, fun b o e => ?_, fun b h => ?_, fun b h => ?_, a.mono⟩
        · have hb : b ≠ p := ne_of_none e hn
          rw [upd_ne hb]; exact a.keep b o e h
        · by_cases hb : b = p
          · subst hb; exact ⟨_, upd_same⟩
          · rw [upd_ne hb]; exact a.there b o e
        · exact a.own b (by (try dsimp only at h ⊢); omega)
        · exact a.fz b h
      refine out2 _ _ Fz2 fρ2 (fun b => if b = p then 1 else 0) (re2.keep (fun b o e z => up2 b o (nF b o e z) e) (fun _ z => z) fun b o e z => up2 b o (fun eq => by subst eq; omega) e) (.dtt upd_same (dr.keep (fun b o e z => up2 b o (nF b o e (z.elim .inl fun z => .inr (.inr z))) e) fun _ z => z) fun b => rfl) (t3'.weak fun h => by simpa [E.pure] using h)
    · exact out2.elim
  · exact out2.elim
/-- sorted(d) -/
theorem le_srtD {x : Str} {p2 : Pos} {p : P} {ep : Expr} (hc : X.calm = true) (hu : X.A.units + 65 < cLine) (hg : Gl X x) (hm : X.mg x = none) (hx : x = ("sorted" : Str)) (hp : PE X ep (LP (kx X xz) X.mg G W p)) (hs : starEach [ep] X.env = [(false, eval ep X.env)]) : PE X (.Call (.Name x p2) [ep] [] pos) (LE (kx X xz) X.mg G W (.srtD p)) := by
  subst hx
  refine PE.imp (pe_callB (cb_sortedD hc hu) hg hm (by decide +kernel) (pa_cons hp pa_nil hs) (by decide) (by decide) hs rfl) fun σ H Q ⟨ρ, Fz, Bz, f, re, wf, out⟩ => ?_
  simp only [evE] at out
  refine LP.one re (At.start wf) out ?_
  intro q ρ1 u v x H1 Fz1 fρ re1 s1 t1 hv hp hg hx out1
  split at out1
  · rename_i kvs e
    obtain ⟨fx, g, rx, _, _, _, _⟩ := re1.place hv hp e (fun z => by cases z)
    obtain ⟨a, es, ep', rfl, h1, h2, _⟩ := rx.dtt_inv
    unfold sortD at out1
    simp only at out1
    split at out1
    · rename_i ok
      exact ⟨a, es, ep', kvs, Fz1, rfl, h1, h2, ok, fun p vs' hn rp => out1.made (S := Fz1) re1 t1 (fun h => by simpa [E.pure] using h) (Mk.list hn (rp.mono fun _ z => z.elim)) fun _ h => h⟩
    · exact out1.elim
  · exact out1.elim
/-! {'a': x, ..}: keys written -/
theorem Out.mono {K : Kx} {mg : Str → Option Value} {Bz : Addr → Prop} {σ : L2.St} {pu : Bool} {H : Hp} {Fz : Addr → Prop} {f : Addr → Nat} {r : R D} {Q Q' : VK} (h : Out K mg Bz σ pu H Fz f W r Q) (m : ∀ v H, Q v H → Q' v H) : Out K mg Bz σ pu H Fz f W r Q' := by
  cases r with
  | ok d ρ => exact fun v H' Fz' fρ fd re rv t => m _ _ (h v H' Fz' fρ fd re rv t)
  | ex x ρ => exact h
  | no => exact h
theorem LE.mono {K : Kx} {mg : Str → Option Value} {e : E} {σ : L2.St} {H : Hp} {Q Q' : VK} (h : LE K mg G W e σ H Q) (m : ∀ v H, Q v H → Q' v H) : LE K mg G W e σ H Q' := by
  obtain ⟨ρ, Fz, Bz, f, re, wf, out⟩ := h
  exact ⟨ρ, Fz, Bz, f, re, wf, out.mono m⟩
def trsOf (K : Kx) (mg : Str → Option Value) (G : List Fn) (W : WX) : List L2.Key → Es → List (TE × TE)
  | k :: ks, .cons e es => (tC (kV k), LE K mg G W e) :: trsOf K mg G W ks es
  | _, _ => []
def Es.len : Es → Nat
  | .nil => 0
  | .cons _ r => r.len + 1
theorem pairs_imp {K : Kx} {mg : Str → Option Value} : ∀ (ks : List L2.Key) (es : Es) {σ : L2.St} {H : Hp} {Q : List (V × V) → Hp → Prop}, es.len = ks.length → LEs K mg G W es σ H (fun vs H2 => Q ((ks.zip vs).map fun kv => (kV kv.1, kv.2)) H2) → tPairs (trsOf K mg G W ks es) σ H Q
  | [], .nil, σ, H, Q, _, h => nil_imp h
  | [], .cons _ _, _, _, _, hl, _ => by simp [Es.len] at hl
  | k :: ks, .nil, _, _, _, hl, _ => by simp [Es.len] at hl
  | k :: ks, .cons e es, σ, H, Q, hl, h => by
    have h2 := cons_imp h
    show (tC (kV k)) σ H fun x H1 => LE K mg G W e σ H1 fun y H2 => tPairs (trsOf K mg G W ks es) σ H2 fun ps H3 => Q ((x, y) :: ps) H3
    exact LE.mono h2 fun v H1 h3 => pairs_imp ks es (Q := fun ps H3 => Q ((kV k, v) :: ps) H3) (by simpa [Es.len] using hl) h3
theorem merge_nodup : ∀ (kvs acc : List (L2.Key × V)), ((acc ++ kvs).map (·.1)).Nodup → mergeK acc kvs = acc ++ kvs
  | [], acc, _ => by simp [mergeK]
  | p :: r, acc, n => by
    show mergeK (putK acc p.1 p.2) r = _
    have nn : aGet acc p.1 = none := by
      have h1 : p.1 ∉ acc.map (·.1) := fun z => by
        rw [List.map_append, List.nodup_append] at n
        exact n.2.2 _ z _ (by simp) rfl
      have : ∀ l : List (L2.Key × V), p.1 ∉ l.map (·.1) → aGet l p.1 = none := by
        intro l
        induction l with
        | nil => intro _; rfl
        | cons q l ih =>
          intro h
          rw [List.map_cons, List.mem_cons, not_or] at h
          obtain ⟨q1, q2⟩ := q
          simp only [aGet]
          rw [if_neg fun e => h.1 e.symm, ih h.2]
      exact this acc h1
    rw [putK_new p.2 (by rw [valV_aGet]; exact nn)]
    have := merge_nodup r (acc ++ [(p.1, p.2)]) (by simpa using n)
    rw [this]; simp
/-- the values -/
inductive PPsE (X : Cx) (K : Kx) (mg : Str → Option Value) (G : List Fn) (W : WX) : Es → List Expr → Prop
  | nil : PPsE X K mg G W .nil []
  | cons {e : E} {es : Es} {a : Expr} {as : List Expr} : PE X a (LE K mg G W e) → PPsE X K mg G W es as → PPsE X K mg G W (.cons e es) (a :: as)
/-- the keys of a display as they are written -/
def keysB : List L2.Key → List (Option Expr) → Bool
  | [], [] => true
  | .inl i :: ks, some (.Constant (.int j) _ _) :: es => decide (i = j) && keysB ks es
  | .inr x :: ks, some (.Constant (.str y) _ _) :: es => decide (x = y) && keysB ks es
  | _, _ => false
theorem keysB_pps : ∀ {ks : List L2.Key} {keys : List (Option Expr)} {es : Es} {vals : List Expr}, keysB ks keys = true → es.len = ks.length → PPsE X (kx X xz) X.mg G W es vals → PPs X pos keys vals (trsOf (kx X xz) X.mg G W ks es) ∧ keys.all (·.isSome) = true ∧ keys.length = vals.length ∧ keys.length = ks.length
  | [], [], .nil, [], _, _, _ => ⟨pps_nil, rfl, rfl, rfl⟩
  | [], [], .cons _ _, _, _, hl, _ => by simp [Es.len] at hl
  | [], _ :: _, _, _, h, _, _ => by simp [keysB] at h
  | k :: ks, keys, .nil, _, _, hl, _ => by simp [Es.len] at hl
  | k :: ks, keys, .cons e es, vals, h, hl, hp => by
    cases hp with
    | cons p ps =>
      cases k with
      | inl i =>
        unfold keysB at h
        split at h
        · rename_i e2; cases e2
        · rename_i e1
          cases e1
          rw [Bool.and_eq_true, decide_eq_true_eq] at h
          obtain ⟨e, h⟩ := h
          subst e
          obtain ⟨q1, q2, q3, q4⟩ := keysB_pps h (by simpa [Es.len] using hl) ps
          exact ⟨pps_cons pe_int p q1, by simpa using q2, by simpa using q3, by simpa using q4⟩
        · rename_i e1; cases e1
        · cases h
      | inr i =>
        unfold keysB at h
        split at h
        · rename_i e2; cases e2
        · rename_i e1; cases e1
        · rename_i e1
          cases e1
          rw [Bool.and_eq_true, decide_eq_true_eq] at h
          obtain ⟨e, h⟩ := h
          subst e
          obtain ⟨q1, q2, q3, q4⟩ := keysB_pps h (by simpa [Es.len] using hl) ps
          exact ⟨pps_cons pe_str p q1, by simpa using q2, by simpa using q3, by simpa using q4⟩
        · cases h
/-- .. itself -/
theorem le_dcK {ks : List L2.Key} {keys : List (Option Expr)} {es : Es} {vals : List Expr} (h15 : ks.length ≤ 15) (hk : keysB ks keys = true) (hl : es.len = ks.length) (hv : PPsE X (kx X xz) X.mg G W es vals) : PE X (.Dict keys vals pos) (LE (kx X xz) X.mg G W (.dcK ks es)) := by
  cases ks with
  | nil =>
    cases keys with
    | cons _ _ => simp [keysB] at hk
    | nil =>
      cases hv with
      | cons _ _ => simp [Es.len] at hl
      | nil =>
        refine PE.imp pe_dnewK fun σ H Q ⟨ρ, Fz, Bz, f, re, wf, out⟩ p hn => ?_
        simp only [evE, evEs, R.bind] at out
        have up : ∀ b o, H b = some o → (upd H p (.dK [])) b = some o := fun b o e => by rw [upd_ne (ne_of_none e hn)]; exact e
        have out' : Out (kx X xz) X.mg Bz σ true H Fz f W (.ok (.dct []) ρ) Q := out
        exact out' _ _ Fz f (fun b => if b = p then 1 else 0) (re.keep (fun b o e _ => up b o e) (fun _ z => z) fun b o e _ => up b o e) (.dct (g := fun _ => 0) upd_same ⟨rfl, .nil⟩ (.nil fun _ => rfl) fun b => by simp) ((At.start wf).new (o := .dK []) (r1 := fun b => if b = p then 1 else 0) hn trivial fun b => by simp)
  | cons k ks =>
    obtain ⟨pp, q2, q3, q4⟩ := keysB_pps (X := X) (xz := xz) (G := G) (W := W) (pos := pos) hk hl hv
    · refine PE.imp (pe_disp pp q2 q3 (fun e => by rw [e] at q4; simp at q4) (by rw [q4]; exact h15)) fun σ H Q ⟨ρ, Fz, Bz, f, re, wf, out⟩ p hn => ?_
      simp only [evE] at out
      have up : ∀ b o, H b = some o → (upd H p (.dK [])) b = some o := fun b o e => by rw [upd_ne (ne_of_none e hn)]; exact e
      have re0 := re.keep (H' := upd H p (.dK [])) (fun b o e _ => up b o e) (fun _ z => z) fun b o e _ => up b o e
      have t0 := (At.start wf).new (o := .dK []) (r1 := fun b => if b = p then 1 else 0) hn trivial fun b => by simp
      refine pairs_imp (k :: ks) es hl ?_
      refine LEs.one re0 t0 out ?_
      intro xs ρ1 vs H1 Fz1 fρ1 fd1 re1 rv1 s1 t1 out1
      split at out1
      · rename_i hc
        simp only [Bool.and_eq_true, decide_eq_true_eq] at hc
        obtain ⟨⟨⟨hlen, _⟩, hnd⟩, hnt⟩ := hc
        have z0 : f p = 0 := by
          by_cases h : 1 ≤ f p
          · obtain ⟨o', e, _⟩ := wf.own p h; rw [hn] at e; cases e
          · omega
        have e1 : H1 p = some (.dK []) := s1.keep p _ upd_same (.inl z0)
        have lv : vs.length = (k :: ks).length := by rw [rv1.length, hlen]
        have m1 : ((k :: ks).zip vs).map (·.1) = k :: ks := List.map_fst_zip (by omega)
        have m2 : ((k :: ks).zip vs).map (·.2) = vs := List.map_snd_zip (by omega)
        have m3 : ((k :: ks).zip xs).map (·.1) = k :: ks := List.map_fst_zip (by omega)
        have m4 : ((k :: ks).zip xs).map (·.2) = xs := List.map_snd_zip (by omega)
        refine ⟨e1, (k :: ks).zip vs, rfl, by rw [List.length_zip]; omega, ?_⟩
        rw [merge_nodup _ _ (by rw [List.nil_append, m1]; exact hnd), List.nil_append]
        have wf1 := t1.wf
        have nF : ∀ b o, H1 b = some o → (Fz1 b ∨ Bz b ∨ ¬ Ow o) → b ≠ p := fun b o eb z e => by
          subst e
          rcases z with z | z | z
          · have := (wf1.fz b z).1; simp at this
          · have := (wf1.bz b z).1; simp at this
          · rw [e1] at eb; cases eb; exact z trivial
        have up2 : ∀ b o, b ≠ p → H1 b = some o → (upd H1 p (.dK ((k :: ks).zip vs))) b = some o := fun b o n e => by rw [upd_ne n]; exact e
        have lin : ∀ b, fρ1 b + ((if b = p then 1 else 0) + fd1 b) ≤ 1 := fun b => wf1.lin b
        have t2 := t1.write (o := .dK []) (o' := .dK ((k :: ks).zip vs)) (g := fρ1) (r1 := fun b => fd1 b + if b = p then 1 else 0) e1 (by simp; omega) trivial fun b => by simp; omega
        have t3 : At Bz (true && es.pure) H Fz f (upd H1 p (.dK ((k :: ks).zip vs))) Fz1 fρ1 (fun b => fd1 b + if b = p then 1 else 0) := by
          refine ⟨t2.wf, ?_⟩
          have a := t1.stp
          refine ⟨fun b o e h => ?_, fun b o e => ?_, fun b h => ?_, fun b h => ?_, a.mono⟩
          · have hb : b ≠ p := ne_of_none e hn
            rw [upd_ne hb]; exact a.keep b o e h
          · by_cases hb : b = p
            · subst hb; exact ⟨_, upd_same⟩
            · rw [upd_ne hb]; exact a.there b o e
          · exact a.own b (by (try dsimp only at h ⊢); omega)
          · exact a.fz b h
        have rv2 : RvL (kx X xz) (upd H1 p (.dK ((k :: ks).zip vs))) Fz1 Bz vs xs fd1 := rv1.keep (fun b o e z => up2 b o (nF b o e z) e) (fun _ z => z) hnt fun b o e z => up2 b o (fun eq => by subst eq; have := lin b; rw [if_pos rfl] at this; omega) e
        refine out1 _ _ Fz1 fρ1 _ (re1.keep (fun b o e z => up2 b o (nF b o e z) e) (fun _ z => z) fun b o e z => up2 b o (fun eq => by subst eq; have := lin b; rw [if_pos rfl] at this; omega) e) (.dct upd_same (by rw [m1, m3]; exact ⟨rfl, hnd⟩) (by rw [m2, m4]; exact rv2) fun b => rfl) (t3.weak fun h => by simpa [E.pure] using h)
      · exact out1.elim
/-- xs[i], i run behind the place -/
theorem le_rdx (hu : X.A.units + 65 < cLine) {p : P} {e : E} {ep ei : Expr} (ha : PE X ep (LP (kx X xz) X.mg G W p)) (hi : PE X ei (LE (kx X xz) X.mg G W e)) (hs : PlainIx ei) : PE X (.Subscript ep ei pos) (LE (kx X xz) X.mg G W (.rdx p e)) := by
  refine PE.imp (pe_ix (IxR.or ix_own (ix_dct hu)) ha hi hs) fun σ H Q ⟨ρ, Fz, Bz, f, re, wf, out⟩ => ?_
  simp only [evE] at out
  refine LP.one re (At.start wf) out ?_
  intro q ρ1 u v x H1 Fz1 fρ re1 s1 t1 hv hp hg hx out1
  by_cases hc : (q.2.isEmpty || e.pure) = true
  · rw [if_pos hc] at out1
    refine LE.one re1 t1 out1 ?_
    intro y ρ2 w H2 Fz2 fρ2 fd re2 rv2 s2 t2 out2
    split at out2
    · rename_i d
      split at out2
      · rename_i sl es
        split at out2
        · rename_i z ez
          obtain ⟨v', w', hv', hpw⟩ := re2.pathV ez (fun z => by cases z)
          rw [hv] at hv'
          cases hv'
          obtain ⟨u', hpa, st⟩ := hpw.last
          have hp2 := path_on' hp hc s2
          have eu := PathV.fun hp2 hpa
          subst eu
          obtain ⟨fx, g, rx, _, _, _, _⟩ := re2.place hv hpw ez (fun z => by cases z)
          cases rv2 with
          | dat rp _ =>
          cases rx with
          | dat rz _ => exact step_ix st es rp (out2.made (S := Fz2) re2 (t2.less (g := fρ2) (r1 := fun _ => 0) fun b => by omega) (fun h => by simpa [E.pure] using h) (.old rz) fun _ h => h)
        · exact out2.elim
      · exact out2.elim
    · exact out2.elim
  · rw [if_neg hc] at out1
    exact out1.elim
theorem le_fldE {e : E} {fn : Str} {ee : Expr} (hc : ∀ C ∈ xz.cl, ∀ c, X.mg C = some (.ref c) → Cls X.K c ∧ NoAttr X.K c fn) (ha : PE X ee (LE (kx X xz) X.mg G W e)) (hb : attributeBase ee fn X.env (eval ee X.env) = eval ee X.env) : PE X (.Attribute ee fn pos) (LE (kx X xz) X.mg G W (.fldE e fn)) := by
  refine PE.imp (pe_fld ha hb) fun σ H Q ⟨ρ, Fz, Bz, f, re, wf, out⟩ => ?_
  simp only [evE] at out
  refine LE.one re (At.start wf) out ?_
  intro x ρ1 v H1 Fz1 fρ fd re1 rv s t out1
  split at out1
  · rename_i C fs
    split at out1
    · rename_i d ex
      split at out1
      · cases rv with
        | ins i1 i2 i3 i4 i5 =>
          obtain ⟨j, gj, gv, _, _⟩ := aGet_ix i3 ex
          obtain ⟨w, f1, g1, hw, r1, q1, dead, _⟩ := i4.split gj
          obtain ⟨k1, k2⟩ := hc C i2.1 _ i2.2
          refine ⟨_, _, _, _, w, rfl, i1, k1, k2, by rw [lookup_aGet]; exact gv w hw, ?_⟩
          exact out1 w H1 Fz1 fρ f1 re1 r1 ((t.less (g := fρ) (r1 := f1) fun b => by have := i5 b; have := q1 b; omega).weak fun h => by simpa [E.pure] using h)
      · exact out1.elim
    · exact out1.elim
  · exact out1.elim
end
end DE
end

section
set_option Elab.async false
set_option linter.all false
/-! DE11c: items, of dicts too. -/
namespace DE
open PySem PySem.Spec PyProof.Rows L2
section
variable {X : Cx} {xz : Xs} {G : List Fn} {W : WX} {pos : Pos}
/-- items -/
theorem le_ix (hu : X.A.units + 65 < cLine) {a i : E} {ea ei : Expr} (ha : PE X ea (LE (kx X xz) X.mg G W a)) (hi : PE X ei (LE (kx X xz) X.mg G W i)) (hs : PlainIx ei) : PE X (.Subscript ea ei pos) (LE (kx X xz) X.mg G W (.ix a i)) := by
  refine PE.imp (pe_ix (IxR.or (IxR.or ix_data ix_own) (ix_dct hu)) ha hi hs) fun σ H Q ⟨ρ, Fz, Bz, f, re, wf, out⟩ => ?_
  simp only [evE] at out
  refine LE.two re wf out (fun x h => by simpa using h) ?_
  intro x y ρ2 v1 v2 H2 Fz2 fρ f1 f2 re2 rv1 rv2 t out2
  split at out2
  · rename_i y
    cases rv2 with
    | dat rp2 z2 =>
    unfold ixV at out2
    split at out2
    · rename_i i
      have e := rp2.int_inv; subst e
      split at out2
      · rename_i d
        cases hd : ixD d i with
        | none => rw [hd] at out2; exact out2.elim
        | some w =>
          rw [hd] at out2
          cases rv1 with
          | dat rp1 z1 => exact .inl (.inl ⟨_, d, w, i, rfl, rp1, hd, fun v r => out2.made (S := Fz2) re2 t (fun h => by simpa [E.pure] using h) (.old r) fun _ h => h⟩)
      · rename_i d
        cases hd : ixD d i with
        | none => rw [hd] at out2; exact out2.elim
        | some w =>
          rw [hd] at out2
          cases rv1 with
          | bor rp1 z1 => exact .inl (.inl ⟨_, d, w, i, rfl, rp1, hd, fun v r => out2 v H2 Fz2 fρ (fun _ => 0) re2 (.bor r fun _ => rfl) ((t.less fun b => by omega).weak fun h => by simpa [E.pure] using h)⟩)
      · rename_i d
        cases hd : ixD d i with
        | none => rw [hd] at out2; exact out2.elim
        | some w =>
          rw [hd] at out2
          cases rv1 with
          | tr rp1 z1 => exact .inl (.inl ⟨_, d, w, i, rfl, rp1, hd, fun v r => out2 v H2 Fz2 fρ (fun _ => 0) re2 (.tr r fun _ => rfl) ((t.less fun b => by omega).weak fun h => by simpa [E.pure] using h)⟩)
      · rename_i xs
        cases hd : L2.atI xs i with
        | none => rw [hd] at out2; exact out2.elim
        | some w =>
          rw [hd] at out2
          cases rv1 with
          | lst h1 h2 h3 =>
            rename_i a vs g0
            obtain ⟨j, ej, gj⟩ := atI_ix hd
            obtain ⟨u, fi, g1, hw, r1, q1, _, _⟩ := h2.split gj
            have ewv : L2.atI vs i = some u := by
              unfold L2.atI
              rw [h2.length, ej]
              exact hw
            exact .inl (.inr ⟨a, vs, i, u, rfl, rfl, h1, ewv, out2 u H2 Fz2 fρ fi re2 r1 ((t.less fun b => by rw [h3, q1]; omega).weak fun h => by simpa [E.pure] using h)⟩)
      · exact out2.elim
    · rename_i k
      have e := rp2.str_inv; subst e
      split at out2
      · rename_i kvs
        split at out2
        · rename_i d hd
          cases rv1 with
          | dct h1 h2 h3 h4 =>
            obtain ⟨w, hw, rw'⟩ := RvL.datAt h3 h2.1 hd
            exact .inr ⟨_, _, .inr k, w, rfl, rfl, h1, hw, out2.made (S := Fz2) re2 (t.less (g := fρ) (r1 := fun _ => 0) fun b => by omega) (fun h => by simpa [E.pure] using h) (.old rw') fun _ h => h⟩
        · exact out2.elim
      · exact out2.elim
    · exact out2.elim
  · exact out2.elim
end
end DE
end

section
set_option Elab.async false
set_option linter.all false
/-! DE12: calls of own functions. -/
namespace DE
open PySem PySem.Spec PyProof.Rows L2

section
variable {K : Kx} {mg : Str → Option Value} {G : List Fn} {W : WX} {σ : L2.St} {Bz Bz' Fz0 Fz Fz1 Fz2 : Addr → Prop} {pu p q : Bool} {H0 H H' H1 H2 : Hp} {f0 f r f1 r1 f2 g : Addr → Nat} {ρ ρ1 ρ2 : Env}
mutual
theorem Rv.bmono (m : ∀ b, Bz b → Bz' b) : ∀ {v : V} {d : D} {f : Addr → Nat}, Rv K H Fz Bz v d f → Rv K H Fz Bz' v d f
  | _, _, _, .dat h z => .dat h z
  | _, _, _, .bor h z => .bor (h.mono fun b q => q.elim .inl fun q => .inr (m b q)) z
  | _, _, _, .tr h z => .tr h z
  | _, _, _, .lst h r q => .lst h (RvL.bmono m r) q
  | _, _, _, .dct h e r q => .dct h e (RvL.bmono m r) q
  | _, _, _, .dtt h r q => .dtt h r q
  | _, _, _, .ins h c e r q => .ins h c e (RvL.bmono m r) q
  | _, _, _, .exc x c r z => .exc x c r z
  | _, _, _, .dead z => .dead z
theorem RvL.bmono (m : ∀ b, Bz b → Bz' b) : ∀ {vs : List V} {ds : List D} {f : Addr → Nat}, RvL K H Fz Bz vs ds f → RvL K H Fz Bz' vs ds f
  | _, _, _, .nil z => .nil z
  | _, _, _, .cons r t q => .cons (Rv.bmono m r) (RvL.bmono m t) q
end
mutual
/-- a look, told where it leans on -/
theorem Rv.lookS : ∀ {v : V} {d : D} {f : Addr → Nat} {p : PyData}, Rv K H Fz Bz v d f → d.ntr = true → d.view = some p → Rp K.K H (fun a => Fz a ∨ Bz a ∨ 1 ≤ f a) v p
  | _, _, _, _, .dat h _, _, e => by simp only [D.view, Option.some.injEq] at e; subst e; exact h.mono fun _ q => .inl q
  | _, _, _, _, .bor h _, _, e => by simp only [D.view, Option.some.injEq] at e; subst e; exact h.mono fun _ q => q.elim .inl fun q => .inr (.inl q)
  | _, _, _, _, .tr h _, n, e => by simp [D.ntr] at n
  | _, _, _, _, .lst h r q, n, e => by
    simp only [D.view] at e
    obtain ⟨ps, e1, e2⟩ := Option.map_eq_some_iff.mp e
    subst e2
    exact .lst (.inl ⟨h, .inr (.inr (by rw [q, if_pos rfl]; omega))⟩) ((RvL.lookS r (by simpa [D.ntr] using n) e1).mono fun b z => z.imp id fun z => z.imp id fun z => by rw [q]; omega)
  | _, _, _, _, .dct _ _ _ _, _, e => by simp [D.view] at e
  | _, _, _, _, .dtt _ _ _, _, e => by simp [D.view] at e
  | _, _, _, _, .ins _ _ _ _ _, _, e => by simp [D.view] at e
  | _, _, _, _, .exc _ _ _ _, _, e => by simp [D.view] at e
  | _, _, _, _, .dead _, _, e => by simp [D.view] at e
theorem RvL.lookS : ∀ {vs : List V} {ds : List D} {f : Addr → Nat} {ps : List PyData}, RvL K H Fz Bz vs ds f → D.ntrL ds = true → D.viewL ds = some ps → RpL K.K H (fun a => Fz a ∨ Bz a ∨ 1 ≤ f a) vs ps
  | _, _, _, _, .nil _, _, e => by simp only [D.viewL, Option.some.injEq] at e; subst e; exact .nil
  | _, _, _, _, .cons (d := d) (ds := ds) r t q, n, e => by
    rw [D.ntrL, Bool.and_eq_true] at n
    rw [D.viewL] at e
    cases h1 : d.view with
    | none => rw [h1] at e; simp at e
    | some a =>
      cases h2 : D.viewL ds with
      | none => rw [h1, h2] at e; simp at e
      | some b =>
        rw [h1, h2] at e
        simp only [Option.some.injEq] at e
        subst e
        exact .cons ((Rv.lookS r n.1 h1).mono fun b z => z.imp id fun z => z.imp id fun z => by rw [q]; omega) ((RvL.lookS t n.2 h2).mono fun b z => z.imp id fun z => z.imp id fun z => by rw [q]; omega)
end
theorem Rp.bor {v : V} {p : PyData} (h : Rp K.K H (fun a => Fz a ∨ Bz a) v p) : Rv K H Fz Bz v (borD p) (fun _ => 0) := by
  cases h with
  | non => exact .dat .non fun _ => rfl
  | bl b => exact .dat (.bl b) fun _ => rfl
  | int i => exact .dat (.int i) fun _ => rfl
  | str x => exact .dat (.str x) fun _ => rfl
  | lst h r => exact .bor (.lst h r) fun _ => rfl
  | tup h r => exact .bor (.tup h r) fun _ => rfl
theorem ntr_borD (p : PyData) : (borD p).ntr = true := by cases p <;> rfl
theorem flat_borD (p : PyData) : (borD p).flat = true := by cases p <;> rfl
theorem RvL.flat : ∀ {vs : List V} {ds : List D} {f : Addr → Nat}, RvL K H Fz Bz vs ds f → ds.all D.flat = true → ∀ b, f b = 0
  | _, _, _, .nil z, _, b => z b
  | _, _, _, .cons r t q, h, b => by
    rw [List.all_cons, Bool.and_eq_true] at h
    have ht := RvL.flat t h.2 b
    rw [q, ht]
    cases r with
    | dat _ z => rw [z]
    | bor _ z => rw [z]
    | tr _ z => simp [D.flat] at h
    | lst _ _ _ => simp [D.flat] at h
    | dct _ _ _ _ => simp [D.flat] at h
    | dtt _ _ _ => simp [D.flat] at h
    | ins _ _ _ _ _ => simp [D.flat] at h
    | exc _ _ _ _ => simp [D.flat] at h
    | dead _ => simp [D.flat] at h

/-- without exceptions at hand -/
abbrev Kx.bare (K : Kx) : Kx := ⟨K.K, K.mg, ⟨K.xs.ex, [], K.xs.cl⟩, K.P, K.w⟩
/-- the same but for the exceptions at hand -/
structure SameX (K K' : Kx) : Prop where
  eK : K'.K = K.K
  mg : K'.mg = K.mg
  ex : K'.xs.ex = K.xs.ex
  cl : K'.xs.cl = K.xs.cl
  P : K'.P = K.P
  w : K'.w = K.w
theorem DtR.sameX {K K' : Kx} (e : SameX K K') {kvs : List (PyData × PyData)} {es : Array DictEntry} (h : DtR K.P K.w K.K H Fz kvs es) : DtR K'.P K'.w K'.K H Fz kvs es := by
  rw [e.P, e.w, e.eK]; exact h
mutual
theorem Rv.nexK {K K' : Kx} (e : SameX K K') : ∀ {v : V} {d : D} {f : Addr → Nat}, Rv K H Fz Bz v d f → d.nex = true → Rv K' H Fz Bz v d f
  | _, _, _, .dat h z, _ => .dat (by rw [e.eK]; exact h) z
  | _, _, _, .bor h z, _ => .bor (by rw [e.eK]; exact h) z
  | _, _, _, .tr h z, _ => .tr (by rw [e.eK]; exact h) z
  | _, _, _, .lst h r q, n => .lst h (RvL.nexK e r (by simpa only [D.nex] using n)) q
  | _, _, _, .dct h k r q, n => .dct h k (RvL.nexK e r (by rw [← nexK_map]; simpa only [D.nex] using n)) q
  | _, _, _, .dtt h r q, n => .dtt h (r.sameX e) q
  | _, _, _, .ins h c k r q, n => .ins h (by rw [e.cl, e.mg]; exact c) k (RvL.nexK e r (by rw [← nexF_map]; simpa only [D.nex] using n)) q
  | _, _, _, .exc _ _ _ _, n => by simp [D.nex] at n
  | _, _, _, .dead z, _ => .dead z
theorem RvL.nexK {K K' : Kx} (e : SameX K K') : ∀ {vs : List V} {ds : List D} {f : Addr → Nat}, RvL K H Fz Bz vs ds f → D.nexL ds = true → RvL K' H Fz Bz vs ds f
  | _, _, _, .nil z, _ => .nil z
  | _, _, _, .cons r t q, n => by
    rw [D.nexL, Bool.and_eq_true] at n
    exact .cons (Rv.nexK e r n.1) (RvL.nexK e t n.2) q
end
mutual
theorem Rv.xmono {K K' : Kx} (e : SameX K K') (hx : ∀ q ∈ K.xs.l, q ∈ K'.xs.l) : ∀ {v : V} {d : D} {f : Addr → Nat}, Rv K H Fz Bz v d f → Rv K' H Fz Bz v d f
  | _, _, _, .dat h z => .dat (by rw [e.eK]; exact h) z
  | _, _, _, .bor h z => .bor (by rw [e.eK]; exact h) z
  | _, _, _, .tr h z => .tr (by rw [e.eK]; exact h) z
  | _, _, _, .lst h r q => .lst h (RvL.xmono e hx r) q
  | _, _, _, .dct h k r q => .dct h k (RvL.xmono e hx r) q
  | _, _, _, .dtt h r q => .dtt h (r.sameX e) q
  | _, _, _, .ins h c k r q => .ins h (by rw [e.cl, e.mg]; exact c) k (RvL.xmono e hx r) q
  | _, _, _, .exc x c r z => .exc (hx _ x) (by rw [e.mg, e.ex]; exact c) (by rw [e.eK]; exact r) z
  | _, _, _, .dead z => .dead z
theorem RvL.xmono {K K' : Kx} (e : SameX K K') (hx : ∀ q ∈ K.xs.l, q ∈ K'.xs.l) : ∀ {vs : List V} {ds : List D} {f : Addr → Nat}, RvL K H Fz Bz vs ds f → RvL K' H Fz Bz vs ds f
  | _, _, _, .nil z => .nil z
  | _, _, _, .cons r t q => .cons (Rv.xmono e hx r) (RvL.xmono e hx t) q
end
theorem Re.nexK {K K' : Kx} (e : SameX K K') : ∀ {s : L2.St} {r : Env} {f : Addr → Nat}, Re K H Fz Bz s r f → D.nexL r = true → Re K' H Fz Bz s r f
  | _, _, _, .nil z, _ => .nil z
  | _, _, _, .cons r t q, n => by
    rw [D.nexL, Bool.and_eq_true] at n
    refine .cons ?_ (Re.nexK e t n.2) q
    rcases r with h | ⟨v, e', k, r⟩
    · exact .inl h
    · exact .inr ⟨v, e', k, r.nexK e n.1⟩
theorem Re.xmono {K K' : Kx} (e : SameX K K') (hx : ∀ q ∈ K.xs.l, q ∈ K'.xs.l) : ∀ {s : L2.St} {r : Env} {f : Addr → Nat}, Re K H Fz Bz s r f → Re K' H Fz Bz s r f
  | _, _, _, .nil z => .nil z
  | _, _, _, .cons r t q => by
    refine .cons ?_ (Re.xmono e hx t) q
    rcases r with h | ⟨v, e', k, r⟩
    · exact .inl h
    · exact .inr ⟨v, e', k, r.xmono e hx⟩
theorem Kx.toBare (K : Kx) : SameX K K.bare := ⟨rfl, rfl, rfl, rfl, rfl, rfl⟩
theorem Kx.ofBare (K : Kx) : SameX K.bare K := ⟨rfl, rfl, rfl, rfl, rfl, rfl⟩
/-- arguments as they were looked at -/
inductive ArOk (K : Kx) (H : Hp) (Fz Bz : Addr → Prop) (σ : L2.St) : List Ar → List V → (Addr → Nat) → Prop
  | nil {f : Addr → Nat} : (∀ b, f b = 0) → ArOk K H Fz Bz σ [] [] f
  | val {v : V} {d : D} {vs : List V} {as : List Ar} {f g h : Addr → Nat} : Rv K H Fz Bz v d f → d.ntr = true → ArOk K H Fz Bz σ as vs g → (∀ b, h b = f b + g b) → ArOk K H Fz Bz σ (.val d :: as) (v :: vs) h
  | ref {v u : V} {i : Nat} {sel : List Sel} {vs : List V} {as : List Ar} {g : Addr → Nat} : σ[i]? = some (some v) → PathV H v sel u → ArOk K H Fz Bz σ as vs g → ArOk K H Fz Bz σ (.ref i sel :: as) (u :: vs) g
  | look {v u : V} {i : Nat} {sel : List Sel} {vs : List V} {as : List Ar} {g : Addr → Nat} : σ[i]? = some (some v) → PathV H v sel u → ArOk K H Fz Bz σ as vs g → ArOk K H Fz Bz σ (.look i sel :: as) (u :: vs) g

theorem ArOk.same (k : ∀ b o, H b = some o → H' b = some o) : ∀ {as : List Ar} {vs : List V} {g : Addr → Nat}, ArOk K H Fz Bz σ as vs g → ArOk K H' Fz Bz σ as vs g
  | _, _, _, .nil z => .nil z
  | _, _, _, .val r n t q => .val (r.same k fun _ z => z) n (ArOk.same k t) q
  | _, _, _, .ref h p t => .ref h (p.same k) (ArOk.same k t)
  | _, _, _, .look h p t => .look h (p.same k) (ArOk.same k t)
/-- the arguments are taken out of the env; behind the call what comes back is put in -/
theorem take_ok : ∀ {as : List Ar} {vs : List V} {g : Addr → Nat} {ρ : Env} {fρ : Addr → Nat} {ds : List D} {bs : List (Option Back)} {ρ1 : Env}, ArOk K H Fz Bz σ as vs g → Re K H Fz Bz σ ρ fρ → takeAs as ρ = some (ds, bs, ρ1) →
    ∃ f1 fa fb : Addr → Nat, Re K H Fz Bz σ ρ1 f1 ∧ RvL K H Fz (fun a => Bz a ∨ 1 ≤ f1 a) vs ds fa ∧ D.ntrL ds = true ∧ (∀ b, fρ b + g b = f1 b + fa b + fb b) ∧
      ∀ (H' : Hp) (Fz' : Addr → Prop), (∀ b o, H b = some o → (Fz b ∨ Bz b ∨ ¬ Ow o) → H' b = some o) → (∀ b, Fz b → Fz' b) → (∀ b o, H b = some o → 1 ≤ fb b → H' b = some o) →
        ∀ (outs : List D) (fo : Addr → Nat) (Bz'' : Addr → Prop), RvL K H' Fz' Bz'' vs outs fo → ∀ (ρ'' : Env) (f'' : Addr → Nat), Re K H' Fz' Bz σ ρ'' f'' → ∀ ρ2, putBack bs outs ρ'' = some ρ2 → ∃ f2 : Addr → Nat, Re K H' Fz' Bz σ ρ2 f2 ∧ ∀ b, f2 b ≤ f'' b + fb b + fo b
  | _, _, _, _, fρ, _, _, _, .nil z, re, e => by
    simp only [takeAs, Option.some.injEq, Prod.mk.injEq] at e
    obtain ⟨rfl, rfl, rfl⟩ := e
    refine ⟨fρ, fun _ => 0, fun _ => 0, re, .nil fun _ => rfl, rfl, fun b => by rw [z]; rfl, fun H' Fz' k m kg outs fo Bz'' ro ρ'' f'' re'' ρ2 e2 => ?_⟩
    cases ro with
    | nil z' =>
      simp only [putBack, Option.some.injEq] at e2
      subst e2
      exact ⟨f'', re'', fun b => by omega⟩
  | _, _, _, ρ, fρ, _, _, _, .val (d := d) (as := as) (f := fd) (g := g') rv n t q, re, e => by
    simp only [takeAs] at e
    split at e
    · rename_i ds' bs' ρ' e1
      simp only [Option.some.injEq, Prod.mk.injEq] at e
      obtain ⟨rfl, rfl, rfl⟩ := e
      obtain ⟨f1, fa, fb, re1, rvl, nl, hs, back⟩ := take_ok t re e1
      refine ⟨f1, fun b => fd b + fa b, fb, re1, .cons (rv.bmono fun _ h => .inl h) rvl fun _ => rfl, by rw [D.ntrL, n, nl]; rfl, fun b => by show _ = f1 b + (fd b + fa b) + fb b; have := hs b; rw [q]; omega, fun H' Fz' k m kg outs fo Bz'' ro ρ'' f'' re'' ρ2 e2 => ?_⟩
      cases ro with
      | cons r0 r1 q1 =>
        simp only [putBack] at e2
        obtain ⟨f2, re2, le⟩ := back H' Fz' k m kg _ _ Bz'' r1 ρ'' f'' re'' ρ2 e2
        exact ⟨f2, re2, fun b => by have := le b; rw [q1]; omega⟩
    · cases e
  | _, _, _, ρ, fρ, _, _, _, .look (v := v) (u := u) (i := i) (sel := sel) (as := as) (g := g') hv hp t, re, e => by
    simp only [takeAs] at e
    split at e
    · rename_i ds' bs' ρ' e1
      split at e
      · rename_i x ex
        split at e
        · rename_i d ed
          simp only [Option.some.injEq, Prod.mk.injEq] at e
          obtain ⟨rfl, rfl, rfl⟩ := e
          obtain ⟨f1, fa, fb, re1, rvl, nl, hs, back⟩ := take_ok t re e1
          have nx : x ≠ .dead := fun z => by subst z; simp [D.view] at ed
          obtain ⟨fx, g2, rx, ntx, sx, _, _⟩ := re1.place hv hp ex nx
          have rb : Rp K.K H (fun a => Fz a ∨ (Bz a ∨ 1 ≤ f1 a)) u d := (rx.lookS ntx ed).mono fun a h => h.imp id fun h => h.imp id fun h => by rw [sx]; omega
          refine ⟨f1, fa, fb, re1, .cons (f := fun _ => 0) rb.bor rvl (fun b => by simp), by rw [D.ntrL, ntr_borD, nl]; rfl, hs, fun H' Fz' k m kg outs fo Bz'' ro ρ'' f'' re'' ρ2 e2 => ?_⟩
          cases ro with
          | cons r0 r1 q1 =>
            simp only [putBack] at e2
            obtain ⟨f2, re2, le⟩ := back H' Fz' k m kg _ _ Bz'' r1 ρ'' f'' re'' ρ2 e2
            exact ⟨f2, re2, fun b => by have := le b; rw [q1]; omega⟩
        · cases e
      · cases e
    · cases e
  | _, _, _, ρ, fρ, _, _, _, .ref (v := v) (u := u) (i := i) (sel := sel) (as := as) (g := g') hv hp t, re, e => by
    simp only [takeAs] at e
    split at e
    · cases e
    · rename_i x nd0 ex
      split at e
      · rename_i ds' bs' ρ' e1
        simp only [Option.some.injEq, Prod.mk.injEq] at e
        obtain ⟨rfl, rfl, rfl⟩ := e
        have nx : x ≠ .dead := fun z => by subst z; exact nd0 rfl
        have ns := live_slot ex nx
        have l := slot_lt ns
        obtain ⟨o, fi, g0, eo, rs, hf, rest⟩ := re.split l
        rcases rs with ⟨z, _⟩ | ⟨w, z, n, rv⟩
        · exact (ns z).elim
        · subst z
          rw [hv] at eo
          cases eo
          obtain ⟨u', fx, gx, hp', ru, ntx, hsx, ctx⟩ := rv.path sel ex n
          have eu := PathV.fun hp hp'
          subst eu
          obtain ⟨f1, fa, fb, re1, rvl, nl, hs, back⟩ := take_ok t rest e1
          refine ⟨f1, fun b => fx b + fa b, fun b => gx b + fb b, re1, .cons (ru.bmono fun _ h => .inl h) rvl fun _ => rfl, by rw [D.ntrL, ntx, nl]; rfl, fun b => by show _ = f1 b + (fx b + fa b) + (gx b + fb b); have := hs b; rw [hf, hsx]; omega, fun H' Fz' k m kg outs fo Bz'' ro ρ'' f'' re'' ρ2 e2 => ?_⟩
          cases ro with
          | cons r0 r1 q1 =>
            rename_i o0 os fo0 fo1
            simp only [putBack] at e2
            split at e2
            · rename_i ho
              split at e2
              · rename_i d' ed
                split at e2
                · rename_i lr
                  obtain ⟨d2, ed2, n2, r2⟩ := ctx H' Fz' k m (fun b o e h => kg b o e (by show 1 ≤ gx b + fb b; omega)) o0 _ (r0.unbor ho) (ntr_of_own ho)
                  rw [ed] at ed2
                  cases ed2
                  obtain ⟨o', fi', g'', eo', _, hf', rest'⟩ := re''.split lr
                  have re3 : Re K H' Fz' Bz σ (ρ''.set i d') (fun b => (fo0 b + gx b) + g'' b) := Re.put' rest' lr hv (.inr ⟨v, rfl, n2, r2⟩) fun b => rfl
                  obtain ⟨f2, re2, le⟩ := back H' Fz' k m (fun b o e h => kg b o e (by show 1 ≤ gx b + fb b; omega)) _ _ Bz'' r1 _ _ re3 ρ2 e2
                  exact ⟨f2, re2, fun b => by have := le b; show _ ≤ f'' b + (gx b + fb b) + _; have := q1 b; have := hf' b; (try dsimp only at *); omega⟩
                · cases e2
              · cases e2
            · cases e2
      · cases e
    · cases e

/-- what must hold behind the arguments' run -/
def OutA (K : Kx) (mg : Str → Option Value) (Bz : Addr → Prop) (σ : L2.St) (pu : Bool) (H : Hp) (Fz : Addr → Prop) (f : Addr → Nat) (W : WX) (r : R (List Ar)) (Q : List V → Hp → Prop) : Prop :=
  match r with
  | .ok as ρ => ∀ vs H' Fz' fρ g, Re K H' Fz' Bz σ ρ fρ → ArOk K H' Fz' Bz σ as vs g → At Bz pu H Fz f H' Fz' fρ g → Q vs H'
  | .ex x ρ => ∀ cls dx H' Fz' fρ, Re K H' Fz' Bz σ ρ fρ → Ex K H' Fz' x cls dx → At Bz false H Fz f H' Fz' fρ (fun _ => 0) → W cls dx σ H'
  | .no => False
def LA (K : Kx) (mg : Str → Option Value) (G : List Fn) (W : WX) (as : As) : TA := fun σ H Q => ∃ ρ Fz Bz f, Re K H Fz Bz σ ρ f ∧ Wf H Fz Bz f ∧ OutA K mg Bz σ as.pure H Fz f W (evAs G as ρ) Q
theorem LA.sub {e : As} {Q : List V → Hp → Prop} (re : Re K H Fz Bz σ ρ f) (t : At Bz p H0 Fz0 f0 H Fz f r)
    (hx : ∀ x ρ', evAs G e ρ = .ex x ρ' → ∀ cls dx H' Fz' fρ, Re K H' Fz' Bz σ ρ' fρ → Ex K H' Fz' x cls dx → At Bz false H0 Fz0 f0 H' Fz' fρ (fun _ => 0) → W cls dx σ H')
    (hn : evAs G e ρ ≠ .no)
    (hok : ∀ as ρ', evAs G e ρ = .ok as ρ' → ∀ vs H' Fz' fρ g, Re K H' Fz' Bz σ ρ' fρ → ArOk K H' Fz' Bz σ as vs g → Stp e.pure H Fz f H' Fz' (fun b => fρ b + g b) → At Bz (p && e.pure) H0 Fz0 f0 H' Fz' fρ (fun b => r b + g b) → Q vs H') :
    LA K mg G W e σ H Q := by
  refine ⟨ρ, Fz, Bz, f, re, t.env, ?_⟩
  cases h : evAs G e ρ with
  | ok d ρ' =>
    intro vs H' Fz' fρ g re' rv a
    have a' := t.step a.stp a.wf
    exact hok d ρ' h vs H' Fz' fρ g re' rv a.stp (a'.cong fun b => by omega)
  | ex x ρ' =>
    intro cls dx H' Fz' fρ re' ex a
    refine hx x ρ' h cls dx H' Fz' fρ re' ex ?_
    have a' := t.step a.stp a.wf
    rw [Bool.and_false] at a'
    exact a'.less fun b => by omega
  | no => exact (hn h).elim
theorem la_nil_imp {Q : List V → Hp → Prop} (h : LA K mg G W .nil σ H Q) : tNil σ H Q := by
  obtain ⟨ρ, Fz, Bz, f, re, wf, out⟩ := h
  simp only [evAs] at out
  exact out [] H Fz f (fun _ => 0) re (.nil fun _ => rfl) (At.start wf)
theorem la_val_imp {e : E} {es : As} {Q : List V → Hp → Prop} (h : LA K mg G W (.val e es) σ H Q) : tCons (LE K mg G W e) (LA K mg G W es) σ H Q := by
  obtain ⟨ρ, Fz, Bz, f, re, wf, out⟩ := h
  simp only [evAs] at out
  refine LE.sub (k := fun d ρ => R.ok d ρ) re (At.start wf) ?_ ?_ ?_
  · intro x ρ' e; rw [e] at out; exact out
  · intro e; rw [e] at out; exact out
  · intro x ρ1 e1 v H1 Fz1 fρ1 fd1 re1 rv1 s1 t1
    rw [e1] at out
    simp only [R.bind] at out
    by_cases hs : x.ntr = true
    · rw [if_pos hs] at out
      refine LA.sub re1 t1 ?_ ?_ ?_
      · intro x ρ' e; rw [e] at out; exact out
      · intro e; rw [e] at out; exact out
      · intro xs ρ2 e2 vs H2 Fz2 fρ2 g2 re2 ao s2 t2
        rw [e2] at out
        have rv1' := rv1.frame (.inl hs) s2 (t1.wf.cong fun b => by omega)
        exact out (v :: vs) H2 Fz2 fρ2 (fun b => fd1 b + g2 b) re2 (.val rv1' hs ao fun _ => rfl) ((t2.weak fun h => by simpa [As.pure] using h).cong fun b => by omega)
    · rw [if_neg hs] at out
      exact out.elim
theorem path_on {q : Nat × List Sel} {b : Bool} {v u : V} (hp : PathV H v q.2 u) (hc : (q.2.isEmpty || b) = true) (s : Stp b H Fz f H1 Fz1 f1) : PathV H1 v q.2 u := by
  rcases (Bool.or_eq_true _ _).mp hc with z | z
  · have e : q.2 = [] := by simpa using z
    rw [e] at hp ⊢
    cases hp
    exact .nil
  · exact hp.same fun b o e => s.keep b o e (.inr z)
theorem la_ref_imp {e : P} {es : As} {Q : List V → Hp → Prop} (h : LA K mg G W (.ref e es) σ H Q) : tCons (LP K mg G W e) (LA K mg G W es) σ H Q := by
  obtain ⟨ρ, Fz, Bz, f, re, wf, out⟩ := h
  simp only [evAs] at out
  refine LP.sub re (At.start wf) ?_ ?_ ?_
  · intro x ρ' e; rw [e] at out; exact out
  · intro e; rw [e] at out; exact out
  · intro q ρ1 e1 u v x H1 Fz1 fρ1 re1 s1 t1 hv hp hg hx
    rw [e1] at out
    simp only [R.bind] at out
    by_cases hs : (q.2.isEmpty || es.pure) = true
    · rw [if_pos hs] at out
      refine LA.sub re1 t1 ?_ ?_ ?_
      · intro x ρ' e; rw [e] at out; exact out
      · intro e; rw [e] at out; exact out
      · intro xs ρ2 e2 vs H2 Fz2 fρ2 g2 re2 ao s2 t2
        rw [e2] at out
        exact out (u :: vs) H2 Fz2 fρ2 g2 re2 (.ref hv (path_on hp hs s2) ao) ((t2.weak fun h => by simp [As.pure] at h).cong fun b => by omega)
    · rw [if_neg hs] at out
      exact out.elim
theorem la_look_imp {e : P} {es : As} {Q : List V → Hp → Prop} (h : LA K mg G W (.look e es) σ H Q) : tCons (LP K mg G W e) (LA K mg G W es) σ H Q := by
  obtain ⟨ρ, Fz, Bz, f, re, wf, out⟩ := h
  simp only [evAs] at out
  refine LP.sub re (At.start wf) ?_ ?_ ?_
  · intro x ρ' e; rw [e] at out; exact out
  · intro e; rw [e] at out; exact out
  · intro q ρ1 e1 u v x H1 Fz1 fρ1 re1 s1 t1 hv hp hg hx
    rw [e1] at out
    simp only [R.bind] at out
    by_cases hs : (q.2.isEmpty || es.pure) = true
    · rw [if_pos hs] at out
      refine LA.sub re1 t1 ?_ ?_ ?_
      · intro x ρ' e; rw [e] at out; exact out
      · intro e; rw [e] at out; exact out
      · intro xs ρ2 e2 vs H2 Fz2 fρ2 g2 re2 ao s2 t2
        rw [e2] at out
        exact out (u :: vs) H2 Fz2 fρ2 g2 re2 (.look hv (path_on hp hs s2) ao) ((t2.weak fun h => by simpa [As.pure] using h).cong fun b => by omega)
    · rw [if_neg hs] at out
      exact out.elim

/-- what must hold behind a def's run -/
def OutF (K : Kx) (mg : Str → Option Value) (Bz : Addr → Prop) (H : Hp) (Fz : Addr → Prop) (f : Addr → Nat) (r : FR) (vs : List V) (Q : VK) (E : XK) : Prop :=
  match r with
  | .ret d outs => ∀ v H' Fz' fo fd, RvL K H' Fz' Bz vs outs fo → d.own = true → Rv K H' Fz' Bz v d fd → At Bz false H Fz f H' Fz' fo fd → Q v H'
  | .ex x outs => ∀ cls dx H' Fz' fo, RvL K H' Fz' Bz vs outs fo → Ex K H' Fz' x cls dx → At Bz false H Fz f H' Fz' fo (fun _ => 0) → E cls dx H'
  | .no => False
/-- a def's promise by its run -/
def spF (K : Kx) (mg : Str → Option Value) (n : Nat) (F : Fn) : Sp := fun vs H Q E => vs.length = n ∧ ∃ ds Fz Bz f, RvL K H Fz Bz vs ds f ∧ D.ntrL ds = true ∧ Wf H Fz Bz f ∧ OutF K mg Bz H Fz f (F ds) vs Q E
theorem RvL.append_ntr : ∀ {a b : List D}, D.ntrL a = true → D.ntrL b = true → D.ntrL (a ++ b) = true
  | [], _, _, h => h
  | x :: a, b, h, h' => by
    rw [D.ntrL, Bool.and_eq_true] at h
    rw [List.cons_append, D.ntrL, h.1, RvL.append_ntr h.2 h']; rfl
/-- the callee's ground, and the way back; es: values ahead of the arguments -/
theorem call_core {xs : List Ar} {vs : List V} {es ds : List D} {ws : List V} {bs : List (Option Back)} {fρ fe : Addr → Nat} {pu' : Bool} (re1 : Re K H1 Fz1 Bz σ ρ1 fρ) (ao : ArOk K H1 Fz1 Bz σ xs vs g) (t1 : At Bz p H Fz f H1 Fz1 fρ (fun b => g b + fe b)) (rve : RvL K.bare H1 Fz1 Bz ws es fe) (nte : D.ntrL es = true)
    (et : takeAs xs ρ1 = some (ds, bs, ρ2)) (hpu : (pu' && !(es ++ ds).all D.flat) = false) (hnx : D.nexL ds = true) :
    ∃ (Bc : Addr → Prop) (fa : Addr → Nat), RvL K.bare H1 Fz1 Bc (ws ++ vs) (es ++ ds) fa ∧ D.ntrL (es ++ ds) = true ∧ Wf H1 Fz1 Bc fa ∧
      ∀ {H' : Hp} {Fz' : Addr → Prop} {fo fx fd : Addr → Nat} {outs : List D} {ρ3 : Env}, RvL K.bare H' Fz' Bc vs outs fo → At Bc false H1 Fz1 fa H' Fz' (fun b => fo b + fx b) fd → putBack bs outs ρ2 = some ρ3 →
        ∃ f2, Re K H' Fz' Bz σ ρ3 f2 ∧ At Bz (p && pu') H Fz f H' Fz' f2 (fun b => fx b + fd b) := by
  obtain ⟨f1, fa, fb, re2, rvl, nl, hs, back⟩ := take_ok ao re1 et
  have wf1 : Wf H1 Fz1 Bz (fun b => (fe b + fa b) + (f1 b + fb b)) := t1.wf.cong fun b => by have := hs b; (try dsimp only); omega
  generalize hB : (fun b => (∃ o, H1 b = some o) ∧ fe b + fa b = 0) = Bc
  have bIn : ∀ b, Bz b → Bc b := fun b h => by
    rw [← hB]
    exact ⟨(wf1.bz b h).2, by have := (wf1.bz b h).1; (try dsimp only at this); omega⟩
  have fIn : ∀ b, 1 ≤ f1 b → Bc b := fun b h => by
    rw [← hB]
    obtain ⟨o, e, _⟩ := wf1.own b (by (try dsimp only); omega)
    exact ⟨⟨o, e⟩, by have := wf1.lin b; (try dsimp only at this); omega⟩
  have wfc : Wf H1 Fz1 Bc (fun b => fe b + fa b) := ⟨fun b => by have := wf1.lin b; (try dsimp only at this ⊢); omega, fun b h => wf1.own b (by (try dsimp only at h ⊢); omega), fun b h => ⟨by have := (wf1.fz b h).1; (try dsimp only at this ⊢); omega, (wf1.fz b h).2⟩, fun b h => by rw [← hB] at h; exact ⟨h.2, h.1⟩⟩
  have rvc : RvL K.bare H1 Fz1 Bc vs ds fa := RvL.nexK (K := K) (K' := K.bare) K.toBare (rvl.bmono fun b h => h.elim (bIn b) (fIn b)) hnx
  have rva : RvL K.bare H1 Fz1 Bc (ws ++ vs) (es ++ ds) (fun b => fe b + fa b) := (rve.bmono bIn).append rvc fun b => rfl
  refine ⟨Bc, _, rva, RvL.append_ntr nte nl, wfc, fun {H' Fz' fo fx fd outs ρ3} ro0 tc eb => ?_⟩
  have ro := ro0.xmono (K := K.bare) (K' := K) K.ofBare fun _ h => by cases h
  have pst : Stp pu' H1 Fz1 (fun b => fe b + fa b) H' Fz' (fun b => (fo b + fx b) + fd b) := by
    cases hp : pu' with
    | false => exact tc.stp
    | true =>
      have z : ∀ b, fe b + fa b = 0 := rva.flat (by
        have hq := hpu
        rw [hp] at hq
        cases hz : (es ++ ds).all D.flat with
        | true => rfl
        | false => rw [hz] at hq; cases hq)
      exact ⟨fun b o e _ => tc.stp.keep b o e (.inl (z b)), tc.stp.there, tc.stp.own, tc.stp.fz, tc.stp.mono⟩
  have wfo : Wf H' Fz' Bz (fun b => (fo b + fx b) + fd b) := ⟨tc.wf.lin, tc.wf.own, tc.wf.fz, fun b h => tc.wf.bz b (bIn b h)⟩
  have t1' : At Bz p H Fz f H1 Fz1 (fun b => fe b + fa b) (fun b => f1 b + fb b) := t1.cong fun b => by have := hs b; (try dsimp only); omega
  have t2 := t1'.step pst wfo
  have wfr : Wf H1 Fz1 Bz (fun b => (fe b + fa b) + f1 b) := wf1.le fun b => by (try dsimp only); omega
  have re3 := re2.frame tc.stp wfr
  have kk : ∀ b o, H1 b = some o → (Fz1 b ∨ Bz b ∨ ¬ Ow o) → H' b = some o := fun b o e z => tc.stp.keep b o e (.inl (by
    rcases z with z | z | z
    · exact (wfc.fz b z).1
    · exact (wfc.bz b (bIn b z)).1
    · by_cases y : 1 ≤ fe b + fa b
      · obtain ⟨o', e', ow⟩ := wfc.own b y
        rw [e] at e'; cases e'
        exact absurd ow z
      · omega))
  obtain ⟨f2, re4, le⟩ := back H' Fz' kk tc.stp.mono (fun b o e z => tc.stp.keep b o e (.inl (by have := wf1.lin b; (try dsimp only at this); omega))) outs fo Bc ro ρ2 f1 re3 ρ3 eb
  exact ⟨f2, re4, t2.less fun b => by have := le b; (try dsimp only); omega⟩
/-- a call's end, by its run -/
theorem callF_ok {n m : Nat} {pu' : Bool} {pu0 : Bool} {xs : List Ar} {vs : List V} {fρ : Addr → Nat} {Q : VK} (re1 : Re K H1 Fz1 Bz σ ρ1 fρ) (ao : ArOk K H1 Fz1 Bz σ xs vs g) (t1 : At Bz p H Fz f H1 Fz1 fρ g) (hp : pu0 = true → (p && pu') = true) (hm : ∀ ds, fnAt G n ds ≠ .no → ds.length = m)
    (out : Out K mg Bz σ pu0 H Fz f W (callF (fnAt G n) pu' xs ρ1) Q) : spF K.bare mg m (fnAt G n) vs H1 Q (WE W σ) := by
  unfold callF at out
  split at out
  · exact out.elim
  · rename_i ds bs ρ2 et
    split at out
    · exact out.elim
    · rename_i hpu
      have hpu1 : (pu' && !ds.all D.flat) = false ∧ D.nexL ds = true := by
        rw [Bool.or_eq_true, not_or] at hpu
        exact ⟨by simpa using hpu.1, by simpa using hpu.2⟩
      obtain ⟨Bc, fa, rvc, nl, wfc, fin⟩ := call_core (es := []) (ws := []) (fe := fun _ => 0) (pu' := pu') re1 ao (t1.cong fun b => by simp) (.nil fun _ => rfl) rfl et hpu1.1 hpu1.2
      simp only [List.nil_append] at rvc nl
      have hlen : vs.length = m := by
        rw [rvc.length]
        refine hm ds fun z => ?_
        rw [z] at out; exact out
      refine ⟨hlen, ds, Fz1, Bc, fa, rvc, nl, wfc, ?_⟩
      cases hF : fnAt G n ds with
      | ret d outs =>
        rw [hF] at out
        simp only at out
        intro v H' Fz' fo fd ro own rd tc
        cases eb : putBack bs outs ρ2 with
        | none => rw [eb] at out; exact out.elim
        | some ρ3 =>
          rw [eb] at out
          obtain ⟨f2, re4, t4⟩ := fin (fo := fo) (fx := fun _ => 0) (fd := fd) ro (tc.cong fun b => by (try dsimp only); omega) eb
          exact out v H' Fz' f2 fd re4 ((rd.xmono (K := K.bare) (K' := K) K.ofBare fun _ h => by cases h).unbor own) ((t4.weak hp).cong fun b => by (try dsimp only); omega)
      | ex x outs =>
        rw [hF] at out
        simp only at out
        intro cls dx H' Fz' fo ro ex tc
        cases eb : putBack bs outs ρ2 with
        | none => rw [eb] at out; exact out.elim
        | some ρ3 =>
          rw [eb] at out
          obtain ⟨f2, re4, t4⟩ := fin (fo := fo) (fx := fun _ => 0) (fd := fun _ => 0) ro (tc.cong fun b => by simp) eb
          exact out cls dx H' Fz' f2 re4 ex ((t4.weak fun h => by cases h).cong fun b => by simp)
      | no => rw [hF] at out; exact out.elim
theorem call_imp {n m : Nat} {fn : Str} {pu : Bool} {as : As} {Q : VK} (h : LE K mg G W (.call n fn pu as) σ H Q) (hm : ∀ ds, fnAt G n ds ≠ .no → ds.length = m) : LA K mg G W as σ H fun vs H1 => spF K.bare mg m (fnAt G n) vs H1 Q (WE W σ) := by
  obtain ⟨ρ, Fz, Bz, f, re, wf, out⟩ := h
  simp only [evE] at out
  refine LA.sub re (At.start wf) ?_ ?_ ?_
  · intro x ρ' e; rw [e] at out; exact out
  · intro e; rw [e] at out; exact out
  · intro xs ρ1 e1 vs H1 Fz1 fρ g re1 ao s1 t1
    rw [e1] at out
    simp only [R.bind] at out
    exact callF_ok re1 ao (t1.cong fun b => by simp) (fun h => by simp only [E.pure, Bool.and_eq_true] at h; simp [h.1, h.2]) hm out
/-- an instance's method -/
theorem mcall_imp {n m : Nat} {C mn : Str} {p : P} {as : As} {Q : VK} (h : LE K mg G W (.mcall n C mn p as) σ H Q) (hm : ∀ ds, fnAt G n ds ≠ .no → ds.length = m) :
    LP K mg G W p σ H fun u H1 => (∃ a c dx fs, u = .ref a ∧ H1 a = some (.ins c dx fs) ∧ C ∈ K.xs.cl ∧ K.mg C = some (.ref c) ∧ fs.lookup mn = none) ∧ LA K mg G W as σ H1 fun vs H2 => spF K.bare mg m (fnAt G n) (u :: vs) H2 Q (WE W σ) := by
  obtain ⟨ρ, Fz, Bz, f, re, wf, out⟩ := h
  simp only [evE] at out
  refine LP.one re (At.start wf) out ?_
  intro q ρ1 u v x H1 Fz1 fρ1 re1 s1 t1 hv hp hg hx out1
  by_cases hc : (isIns C mn (getS (slot ρ1 q.1) q.2) && (q.2.isEmpty || as.pure)) = true
  · rw [if_pos hc] at out1
    rw [Bool.and_eq_true, hg] at hc
    obtain ⟨fx, g0, rx, _, _, _, _⟩ := re1.place hv hp hg hx
    refine ⟨?_, ?_⟩
    · cases x <;> simp [isIns] at hc
      obtain ⟨⟨e1, e2⟩, _⟩ := hc
      subst e1
      obtain ⟨a, c, dx, vs, _, e, h1, h2, h3, _⟩ := rx.ins_inv
      refine ⟨a, c, dx, vs, e, h1, h2.1, h2.2, ?_⟩
      rw [lookup_aGet]
      exact (aGet_no h3 (by simpa using e2)).1
    · refine LA.sub re1 t1 ?_ ?_ ?_
      · intro x ρ' e; rw [e] at out1; exact out1
      · intro e; rw [e] at out1; exact out1
      · intro xs ρ2 e2 vs H2 Fz2 fρ2 g2 re2 ao s2 t2
        rw [e2] at out1
        simp only [R.bind] at out1
        exact callF_ok re2 (.ref hv (path_on hp hc.2 s2) ao) (t2.cong fun b => by simp) (fun h => by simp [E.pure] at h) hm out1
  · rw [if_neg hc] at out1
    exact out1.elim
/-- a new instance -/
theorem new_imp {n m : Nat} {C : Str} {c : Addr} {as : As} {Q : VK} (hC : C ∈ K.xs.cl) (hc : K.mg C = some (.ref c)) (h : LE K mg G W (.new n C as) σ H Q) (hm : ∀ ds, fnAt G n ds ≠ .no → ds.length = m) :
    LA K mg G W as σ H fun vs H1 => ∀ x dx, H1 x = none → H1 dx = none → dx ≠ x → spF K.bare mg m (fnAt G n) (.ref x :: vs) (upd (upd H1 dx (.own x)) x (.ins c dx [])) (fun v H2 => v = .non ∧ Q (.ref x) H2) (WE W σ) := by
  obtain ⟨ρ, Fz, Bz, f, re, wf, out⟩ := h
  simp only [evE] at out
  refine LA.sub re (At.start wf) ?_ ?_ ?_
  · intro x ρ' e; rw [e] at out; exact out
  · intro e; rw [e] at out; exact out
  · intro xs ρ1 e1 vs H1 Fz1 fρ g re1 ao s1 t1 x dx hx hd ne
    rw [e1] at out
    simp only [R.bind] at out
    unfold newF at out
    split at out
    · exact out.elim
    · rename_i ds bs ρ2 et
      split at out
      · exact out.elim
      · rename_i hnx
        have hnx : D.nexL ds = true := by simpa using hnx
        have hx' : (upd H1 dx (.own x)) x = none := by rw [upd_ne (fun e => ne e.symm)]; exact hx
        have up : ∀ b o, H1 b = some o → (upd (upd H1 dx (.own x)) x (.ins c dx [])) b = some o := fun b o e => by rw [upd_ne (ne_of_none e hx), upd_ne (ne_of_none e hd)]; exact e
        have re1' : Re K (upd (upd H1 dx (.own x)) x (.ins c dx [])) Fz1 Bz σ ρ1 fρ := re1.keep (fun b o e _ => up b o e) (fun _ z => z) fun b o e _ => up b o e
        have ao' : ArOk K (upd (upd H1 dx (.own x)) x (.ins c dx [])) Fz1 Bz σ xs vs g := ao.same up
        have t2 := (t1.lay (o := .own x) hd).new (o := .ins c dx []) (r1 := fun b => g b + if b = x then 1 else 0) hx' trivial fun b => by simp
        have rve : RvL K.bare (upd (upd H1 dx (.own x)) x (.ins c dx [])) Fz1 Bz [.ref x] [.ins C []] (fun b => if b = x then 1 else 0) :=
          .cons (f := fun b => if b = x then 1 else 0) (g := fun _ => 0) (.ins (g := fun _ => 0) upd_same ⟨hC, hc⟩ rfl (.nil fun _ => rfl) fun b => by simp) (.nil fun _ => rfl) fun b => by simp
        obtain ⟨Bc, fa, rvc, nl, wfc, fin⟩ := call_core (es := [.ins C []]) (ws := [.ref x]) (pu' := false) re1' ao' t2 rve rfl et rfl hnx
        simp only [List.cons_append, List.nil_append] at rvc nl
        have hlen : (V.ref x :: vs).length = m := by
          rw [rvc.length]
          refine hm _ fun z => ?_
          rw [z] at out; exact out
        refine ⟨hlen, _, Fz1, Bc, fa, rvc, nl, wfc, ?_⟩
        cases hF : fnAt G n (.ins C [] :: ds) with
        | ret d outs =>
          rw [hF] at out
          split at out
          · rename_i o outs' e
            cases e
            split at out
            · rename_i ho
              intro v H' Fz' fo fd ro own rd tc
              obtain ⟨v0, ws0, f0, f0', ev, r0, rr, q0⟩ := ro.cons_inv
              cases ev
              cases eb : putBack bs outs' ρ2 with
              | none => rw [eb] at out; exact out.elim
              | some ρ3 =>
                rw [eb] at out
                obtain ⟨f2, re4, t4⟩ := fin (fo := f0') (fx := f0) (fd := fd) rr (tc.cong fun b => by have := q0 b; (try dsimp only); omega) eb
                cases rd with
                | dat rp _ => exact ⟨rp.none_inv, out _ H' Fz' f2 f0 re4 ((r0.xmono (K := K.bare) (K' := K) K.ofBare fun _ h => by cases h).unbor ho) ((t4.weak fun h => by simp [E.pure] at h).less fun b => by (try dsimp only); omega)⟩
            · exact out.elim
          · exact out.elim
        | ex x outs => rw [hF] at out; exact out.elim
        | no => rw [hF] at out; exact out.elim
end

/-- a def's promise where no repr is under way -/
structure FnG (P : Program) (w : World) (K : PySem.W.Frag) (mg : Str → Option Value) (base : Heap) (CX : CXT) (k : Nat) (f : Addr) (fd : FuncData) (ps : List Str) (sp : Sp) : Prop where
  len : ∀ vs H Q E, sp vs H Q E → vs.length = ps.length
  run : ∀ (A : Around) (outer : List PySem.Env) (s : Shared) (H : Hp) (args : Args) (us : List Value) (vs : List V) (Q : VK) (E : XK), A.guards = some [] → Room k A → Env0 P w K mg base A outer s H → BindsTo s fd args (ps.zip us) → Vals vs us →
    sp vs H Q E → codeAny (model P w) A (.call (.ref f) args) (CR CX outer P w H s Q E) s
section
variable {X : Cx} {xz : Xs} {G : List Fn} {W : WX} {pos : Pos}
theorem la_nil : PA X [] (LA (kx X xz) X.mg G W .nil) := PA.imp pa_nil fun σ H Q h => la_nil_imp h
theorem la_val {e : Expr} {es : List Expr} {a : E} {as : As} (ha : PE X e (LE (kx X xz) X.mg G W a)) (hr : PA X es (LA (kx X xz) X.mg G W as)) (hs : starEach (e :: es) X.env = (false, eval e X.env) :: starEach es X.env) : PA X (e :: es) (LA (kx X xz) X.mg G W (.val a as)) :=
  PA.imp (pa_cons ha hr hs) fun σ H Q h => la_val_imp h
theorem la_ref {e : Expr} {es : List Expr} {p : P} {as : As} (ha : PE X e (LP (kx X xz) X.mg G W p)) (hr : PA X es (LA (kx X xz) X.mg G W as)) (hs : starEach (e :: es) X.env = (false, eval e X.env) :: starEach es X.env) : PA X (e :: es) (LA (kx X xz) X.mg G W (.ref p as)) :=
  PA.imp (pa_cons ha hr hs) fun σ H Q h => la_ref_imp h
theorem la_look {e : Expr} {es : List Expr} {p : P} {as : As} (ha : PE X e (LP (kx X xz) X.mg G W p)) (hr : PA X es (LA (kx X xz) X.mg G W as)) (hs : starEach (e :: es) X.env = (false, eval e X.env) :: starEach es X.env) : PA X (e :: es) (LA (kx X xz) X.mg G W (.look p as)) :=
  PA.imp (pa_cons ha hr hs) fun σ H Q h => la_look_imp h
/-- the callee runs -/
theorem run_G {CX : CXT} {k : Nat} {f : Addr} {fd : FuncData} {ps : List Str} {sp : Sp} {E : XK} {pins : List (Addr × Obj)} {σ : L2.St} {H : Hp} {s : Shared} {Q : VK} {us : List Value} {vs : List V} (F : FnG X.prog X.w X.K X.mg X.base CX k f fd ps sp) (gd : X.A.guards = some [])
    (hr : Room k X.A) (hb : Binds X.K fd ps []) (hx : PassesAt CX X σ E) (I : Inv X pins σ H s) (rv : Vals vs us) (h : sp vs H Q E) : wpAny (model X.prog X.w) X.A (call (.ref f) us) (EP X pins σ Q) X.xe s := by
  have bd := hb s us I.kIn (by rw [List.append_nil, ← rv.length]; exact F.len _ _ _ _ h)
  rw [List.append_nil] at bd
  have ends : ∀ (r : Result) (s' : Shared), CR CX X.stack X.prog X.w H s Q E r s' → match r with
      | .ok (.ret u) => EP X pins σ Q u s'
      | .ok _ => False
      | .error e => X.xe e s' := fun r s' hq => by
    match r, hq with
    | .ok (.ret u), hq => exact I.after hq
    | .error e, hq => exact hx pins H s e s' I hq
  refine wpAny_call (codeAny_mono (F.run X.A X.stack s H ⟨us, []⟩ us vs Q E gd hr I.env0 bd rv h) fun r s' hq => ?_)
  have z := ends r s' hq
  match r, z with
  | .ok (.ret u), z => exact z
  | .error e, z => exact z
theorem pe_callG {CX : CXT} {k : Nat} {f : Addr} {fd : FuncData} {ps : List Str} {sp : Sp} {E : L2.St → XK} {x : Str} {p : Pos} {e : Expr} {es : List Expr} {t : TA} (F : FnG X.prog X.w X.K X.mg X.base CX k f fd ps sp) (gd : X.A.guards = some []) (hr : Room k X.A) (hg : Gl X x)
    (hm : X.mg x = some (.ref f)) (hk : PySem.W.keepIn X.K (.ref f) = true) (hb : Binds X.K fd ps []) (hx : ∀ σ, PassesAt CX X σ (E σ)) (ha : PA X (e :: es) t) (hdb : (x == ("__debug__" : Str)) = false)
    (he : starEach (e :: es) X.env = (false, eval e X.env) :: starEach es X.env) (hpl : (backTo pos (starEach es X.env)).any (·.1) = false) :
    PE X (.Call (.Name x p) (e :: es) [] pos) (fun σ H Q => t σ H fun vs H1 => sp vs H1 Q (E σ)) :=
  ⟨fun pins s σ H Q I h => wpAny_Call_Name_kw (ld_glob I hg hm (PySem.W.callWith_K (h₀ := X.base) I.ok.mod.kin hk (thn (ha.run pos pins s σ H _ I h) fun us s1 ⟨vs, H1, I1, r, q⟩ => ⟨I1.kIn, run_G F gd hr hb (hx σ) I1 r q⟩) he hpl) hdb)⟩
/-- a class's instance is made -/
theorem run_makeG {CX : CXT} {k : Nat} {f C : Addr} {fd : FuncData} {ps : List Str} {sp : Sp} {E : XK} {pins : List (Addr × Obj)} {σ : L2.St} {H : Hp} {s : Shared} {Q : VK} {us : List Value} {vs : List V} (M : L2.Mk X.K C f) (F : FnG X.prog X.w X.K X.mg X.base CX k f fd ps sp) (gd : X.A.guards = some [])
    (hr : Room (k + 1) X.A) (hb : Binds X.K fd ps []) (hx : PassesAt CX X σ E) (I : Inv X pins σ H s) (r : Vals vs us)
    (h : ∀ x dx, H x = none → H dx = none → dx ≠ x → sp (.ref x :: vs) (upd (upd H dx (.own x)) x (.ins C dx [])) (fun v H2 => v = .non ∧ Q (.ref x) H2) E) :
    wpAny (model X.prog X.w) X.A (call (.ref C) us) (EP X pins σ Q) X.xe s := by
  have hq := h (s.heap.objs.size + 1) s.heap.objs.size (I.hok.fresh (Nat.le_succ _)) (I.hok.fresh (Nat.le_refl _)) (Nat.ne_of_lt (Nat.lt_succ_self _))
  have I2 := Inv.made (C := C) I
  have r2 : Vals (V.ref (s.heap.objs.size + 1) :: vs) (Value.ref (s.heap.objs.size + 1) :: us) := .cons rfl r
  have hl : (Value.ref (s.heap.objs.size + 1) :: us).length = ps.length := by
    have e := r2.length
    rw [F.len _ _ _ _ hq] at e
    exact e.symm
  have bd := hb _ (Value.ref (s.heap.objs.size + 1) :: us) I2.kIn (by rw [List.append_nil]; exact hl)
  rw [List.append_nil] at bd
  have ends : ∀ (r : Result) (s' : Shared), CR CX X.stack X.prog X.w (upd (upd H s.heap.objs.size (.own (s.heap.objs.size + 1))) (s.heap.objs.size + 1) (.ins C s.heap.objs.size [])) { s with heap := (s.heap.push PySem.W.emptyDict).push (PySem.W.instObj C s.heap.objs.size) } (fun v H2 => v = .non ∧ Q (.ref (s.heap.objs.size + 1)) H2) E r s' → match r with
      | .ok (.ret v) => v = .none ∧ EP X pins σ Q (.ref (s.heap.objs.size + 1)) s'
      | .ok _ => False
      | .error e => X.xe e s' := fun r s' hq' => by
    match r, hq' with
    | .ok (.ret u), hq' =>
      obtain ⟨v, H', I3, rv, ev, q3⟩ := I2.after hq'
      subst ev
      exact ⟨rv, ⟨V.ref (s.heap.objs.size + 1), H', I3, rfl, q3⟩⟩
    | .error e, hq' => exact hx pins _ _ e s' I2 hq'
  refine wpAny_call (make_map (f := f) I.kIn M.makes M.init (beq_iff_eq.mp M.fn) (codeAny_mono (F.run _ X.stack _ _ ⟨Value.ref (s.heap.objs.size + 1) :: us, []⟩ (Value.ref (s.heap.objs.size + 1) :: us) _ _ E gd (hr.make C us [])
    (I2.env0.make C us []) bd r2 hq) fun r s' hq' => ?_))
  have z := ends r s' hq'
  match r, z with
  | .ok (.ret u), z => exact z
  | .error e, z => exact z
theorem le_new {n k : Nat} {f c : Addr} {fd : FuncData} {ps : List Str} {x C : Str} {p : Pos} {e : Expr} {es : List Expr} {as : As} (M : L2.Mk X.K c f) (F : FnG X.prog X.w X.K X.mg X.base (L2.CX X.prog X.w) k f fd ps (spF (kx X xz).bare X.mg ps.length (fnAt G n))) (gd : X.A.guards = some []) (hr : Room (k + 1) X.A) (hg : Gl X x) (hC : C ∈ xz.cl)
    (hm : X.mg x = some (.ref c)) (hx : x = C) (hb : Binds X.K fd ps []) (tk : Takes X W) (hF : ∀ ds, fnAt G n ds ≠ .no → ds.length = ps.length) (ha : PA X (e :: es) (LA (kx X xz) X.mg G W as)) (hdb : (x == ("__debug__" : Str)) = false)
    (he : starEach (e :: es) X.env = (false, eval e X.env) :: starEach es X.env) (hpl : (backTo pos (starEach es X.env)).any (·.1) = false) :
    PE X (.Call (.Name x p) (e :: es) [] pos) (LE (kx X xz) X.mg G W (.new n C as)) := by
  subst hx
  exact ⟨fun pins s σ H Q I h => wpAny_Call_Name_kw (ld_glob I hg hm (PySem.W.callWith_K (h₀ := X.base) I.ok.mod.kin M.kp (thn (ha.run pos pins s σ H _ I (new_imp hC hm h hF)) fun us s1 ⟨vs, H1, I1, r, q⟩ => ⟨I1.kIn, run_makeG M F gd hr hb (E := WE W σ) (passAt tk σ) I1 r q⟩) he hpl) hdb)⟩
theorem le_mcall {n k : Nat} {f c : Addr} {fd : FuncData} {ps : List Str} {C mn : Str} {apos : Pos} {o e : Expr} {es : List Expr} {p : P} {as : As} (cl : Cls X.K c) (hm : Meth X.K c mn f) (F : FnG X.prog X.w X.K X.mg X.base (L2.CX X.prog X.w) k f fd ps (spF (kx X xz).bare X.mg ps.length (fnAt G n))) (gd : X.A.guards = some []) (hr : Room k X.A)
    (hC : X.mg C = some (.ref c)) (hb : Binds X.K fd ps []) (tk : Takes X W) (hF : ∀ ds, fnAt G n ds ≠ .no → ds.length = ps.length) (ho : PE X o (LP (kx X xz) X.mg G W p)) (ha : PA X (e :: es) (LA (kx X xz) X.mg G W as))
    (hst : starEach (e :: es) X.env = (false, eval e X.env) :: starEach es X.env) (hpl : (backTo pos (starEach es X.env)).any (·.1) = false) {pl : Sem Bool}
    (ht : eval (.Call (.Attribute o mn apos) (e :: es) [] pos) X.env = (do
      let ov ← eval o X.env
      standAt apos.atName
      let (f, first) ← holding [ov] (getMethod ov mn pl)
      callWith pos f first (backTo pos (starEach (e :: es) X.env)) (backToKw pos (keywordEach [] X.env)))) :
    PE X (.Call (.Attribute o mn apos) (e :: es) [] pos) (LE (kx X xz) X.mg G W (.mcall n C mn p as)) := by
  refine ⟨fun pins s σ H Q I h => ?_⟩
  refine PySem.W.methodCall_KW (pl := pl) (thn (ho.run pins s σ H _ I (mcall_imp h hF)) fun u s1 ⟨x, H1, I1, rx, ⟨a, c', dx, fs, ex, ea, _, hc', l⟩, q⟩ => ?_) ht
  subst ex
  obtain rfl : u = Value.ref a := rx
  have ec : c' = c := by
    have := hC.symm.trans hc'
    cases this; rfl
  subst ec
  refine getmeth_ok I1 ea cl hm l ?_
  refine PySem.W.callWith_K (first := [.ref a]) (h₀ := X.base) I.ok.mod.kin hm.kp (thn (ha.run pos pins s1 σ H1 _ I1 q) fun us s2 ⟨vs, H2, I2, r, q2⟩ => ⟨I2.kIn, ?_⟩) hst hpl
  exact run_G (us := .ref a :: us) (vs := .ref a :: vs) F gd hr hb (passAt tk σ) I2 (.cons rfl r) q2
theorem le_mcall0 {n k : Nat} {f c : Addr} {fd : FuncData} {ps : List Str} {C mn : Str} {apos : Pos} {o : Expr} {p : P} (cl : Cls X.K c) (hm : Meth X.K c mn f) (F : FnG X.prog X.w X.K X.mg X.base (L2.CX X.prog X.w) k f fd ps (spF (kx X xz).bare X.mg ps.length (fnAt G n))) (gd : X.A.guards = some []) (hr : Room k X.A)
    (hC : X.mg C = some (.ref c)) (hb : Binds X.K fd ps []) (tk : Takes X W) (hF : ∀ ds, fnAt G n ds ≠ .no → ds.length = ps.length) (ho : PE X o (LP (kx X xz) X.mg G W p)) {pl : Sem Bool}
    (ht : eval (.Call (.Attribute o mn apos) [] [] pos) X.env = (do
      let ov ← eval o X.env
      standAt apos.atName
      let (f, first) ← holding [ov] (getMethod ov mn pl)
      callWith pos f first (backTo pos (starEach [] X.env)) (backToKw pos (keywordEach [] X.env)))) :
    PE X (.Call (.Attribute o mn apos) [] [] pos) (LE (kx X xz) X.mg G W (.mcall n C mn p .nil)) := by
  refine ⟨fun pins s σ H Q I h => ?_⟩
  refine PySem.W.methodCall_KW (pl := pl) (thn (ho.run pins s σ H _ I (mcall_imp h hF)) fun u s1 ⟨x, H1, I1, rx, ⟨a, c', dx, fs, ex, ea, _, hc', l⟩, q⟩ => ?_) ht
  subst ex
  obtain rfl : u = Value.ref a := rx
  have ec : c' = c := by
    have := hC.symm.trans hc'
    cases this; rfl
  subst ec
  refine getmeth_ok I1 ea cl hm l ?_
  exact PySem.W.callWith_K0 (first := [.ref a]) I1.kIn hm.kp (run_G (us := [.ref a]) (vs := [.ref a]) F gd hr hb (passAt tk σ) I1 (.cons rfl .nil) (la_nil_imp q))
theorem le_new0 {n k : Nat} {f c : Addr} {fd : FuncData} {ps : List Str} {x C : Str} {p : Pos} (M : L2.Mk X.K c f) (F : FnG X.prog X.w X.K X.mg X.base (L2.CX X.prog X.w) k f fd ps (spF (kx X xz).bare X.mg ps.length (fnAt G n))) (gd : X.A.guards = some []) (hr : Room (k + 1) X.A) (hg : Gl X x) (hC : C ∈ xz.cl)
    (hm : X.mg x = some (.ref c)) (hx : x = C) (hb : Binds X.K fd ps []) (tk : Takes X W) (hF : ∀ ds, fnAt G n ds ≠ .no → ds.length = ps.length) (hdb : (x == ("__debug__" : Str)) = false) :
    PE X (.Call (.Name x p) [] [] pos) (LE (kx X xz) X.mg G W (.new n C .nil)) := by
  subst hx
  exact ⟨fun pins s σ H Q I h => wpAny_Call_Name_kw (ld_glob I hg hm (PySem.W.callWith_K0 I.kIn M.kp (run_makeG (us := []) (vs := []) M F gd hr hb (E := WE W σ) (passAt tk σ) I .nil (la_nil_imp (new_imp hC hm h hF)))) hdb)⟩
end
end DE
end

section
set_option Elab.async false
set_option linter.all false
/-! DE13: targets, what is walked, comprehensions. -/
namespace DE
open PySem PySem.Spec PyProof.Rows L2

section
variable {K : Kx} {mg : Str → Option Value} {G : List Fn} {W : WX} {σ : L2.St} {Bz Bz' Fz0 Fz Fz1 Fz2 : Addr → Prop} {pu p q : Bool} {H0 H H1 H2 : Hp} {f0 f r f1 r1 f2 g : Addr → Nat} {ρ ρ1 ρ2 : Env}
/-- the slots set to a value -/
theorem Re.store {i : Nat} {x : D} {v : V} {fx : Addr → Nat} (re : Re K H Fz Bz σ ρ f) (l : i < ρ.length) (rv : Rv K H Fz Bz v x fx) (n : x.ntr = true) : ∃ f', Re K H Fz Bz (σ.set i (some v)) (ρ.set i x) f' ∧ ∀ b, f' b ≤ f b + fx b := by
  obtain ⟨o, fi, g, eo, rs, hf, rest⟩ := re.split l
  exact ⟨fun b => fx b + g b, rest.put l (.inr ⟨v, rfl, n, rv⟩) fun b => rfl, fun b => by show fx b + g b ≤ _; rw [hf]; omega⟩
/-- the reading of targets -/
def gNames : List Nat → TGs
  | [] => gNil
  | i :: r => gCons (gName i) (gNames r)
def TGt (K : PySem.W.Frag) : T → TG
  | .nm i => gName i
  | .tp is => gTup K is.length (gNames is)
theorem storeL_ok : ∀ {is : List Nat} {ds : List D} {vs : List V} {ρ ρ1 : Env} {σ : L2.St} {f : Addr → Nat}, storeT.storeL is ds ρ = some ρ1 → (∀ d ∈ ds, d.ntr = true) → (RvL K H Fz Bz vs ds fun _ => 0) → Re K H Fz Bz σ ρ f →
    ∀ Q : L2.St → Hp → Prop, (∀ σ1 f1, Re K H Fz Bz σ1 ρ1 f1 → (∀ b, f1 b ≤ f b) → (∀ j, j ∉ is → σ1[j]? = σ[j]?) → Q σ1 H) → gNames is vs σ H Q
  | [], [], _, _, _, σ, f, e, _, rv, re, Q, q => by
    simp only [storeT.storeL, Option.some.injEq] at e
    subst e
    obtain ⟨rfl, _⟩ := rv.nil_inv
    exact ⟨rfl, q σ f re (fun b => Nat.le_refl _) fun _ _ => rfl⟩
  | [], _ :: _, _, _, _, _, _, e, _, _, _, _, _ => by simp [storeT.storeL] at e
  | _ :: _, [], _, _, _, _, _, e, _, _, _, _, _ => by simp [storeT.storeL] at e
  | i :: is, d :: ds, _, ρ, ρ1, σ, f, e, n, rv, re, Q, q => by
    simp only [storeT.storeL] at e
    split at e
    · rename_i l
      obtain ⟨v, ws, g, g', rfl, r1, rt, q1⟩ := rv.cons_inv
      have zg : ∀ b, g b = 0 := fun b => by have := q1 b; omega
      have zg' : g' = fun _ => 0 := funext fun b => by have := q1 b; omega
      subst zg'
      obtain ⟨f', re', le⟩ := re.store l r1 (n d List.mem_cons_self)
      refine ⟨v, ws, rfl, ?_⟩
      refine storeL_ok e (fun d hd => n d (List.mem_cons_of_mem _ hd)) rt re' Q fun σ1 f1 re1 le1 out => ?_
      refine q σ1 f1 re1 (fun b => by have := le1 b; have := le b; have := zg b; omega) fun j hj => ?_
      simp only [List.mem_cons, not_or] at hj
      rw [out j hj.2, List.getElem?_set_ne (fun e => hj.1 e.symm)]
    · cases e
theorem RpL.bors {S : Addr → Prop} (hS : ∀ a, S a → Fz a ∨ Bz a) : ∀ {vs : List V} {ds : List PyData}, RpL K.K H S vs ds → RvL K H Fz Bz vs (ds.map borD) fun _ => 0
  | _, _, .nil => .nil fun _ => rfl
  | _, _, .cons r t => .cons (f := fun _ => 0) (g := fun _ => 0) (r.mono hS).bor (RpL.bors hS t) fun _ => rfl
/-- a value is stored -/
theorem store_ok' {t : T} {x : D} {v : V} {fx : Addr → Nat} {Q : L2.St → Hp → Prop} (e : storeT t x ρ = some ρ1) (hn : x.ntr = true) (rv : Rv K H Fz Bz v x fx) (re : Re K H Fz Bz σ ρ f)
    (q : ∀ σ1 f1, Re K H Fz Bz σ1 ρ1 f1 → (∀ b, f1 b ≤ f b + fx b) → (∀ j, j ∉ t.slots → σ1[j]? = σ[j]?) → Q σ1 H) : TGt K.K t v σ H Q := by
  cases t with
  | nm i =>
    simp only [storeT] at e
    split at e
    · rename_i l
      cases e
      obtain ⟨f', re', le⟩ := re.store l rv hn
      refine q _ f' re' le fun j hj => ?_
      rw [List.getElem?_set_ne (fun e => hj (by simp [T.slots, e]))]
    · cases e
  | tp is =>
    simp only [storeT] at e
    have len : ∀ {ds : List D} {ρ ρ1 : Env} {is : List Nat}, storeT.storeL is ds ρ = some ρ1 → ds.length = is.length := fun {ds ρ ρ1 is} => by
      induction is generalizing ds ρ with
      | nil => intro e; cases ds with
        | nil => rfl
        | cons _ _ => simp [storeT.storeL] at e
      | cons i is ih => intro e; cases ds with
        | nil => simp [storeT.storeL] at e
        | cons d ds =>
          simp only [storeT.storeL] at e
          split at e
          · rw [List.length_cons, List.length_cons, ih e]
          · cases e
    split at e
    · rename_i xs
      cases rv with
      | dat rp z =>
        obtain ⟨a, vs, rfl, ha, ra⟩ := rp.tuple_inv
        refine ⟨a, vs, rfl, ha.sq, by rw [ra.length]; simpa using len e, storeL_ok e (fun d hd => ?_) (RvL.dats ra) re Q fun σ1 f1 re1 le out => q σ1 f1 re1 (fun b => by have := le b; omega) out⟩
        obtain ⟨y, _, rfl⟩ := List.mem_map.mp hd
        rfl
    · rename_i xs
      cases rv with
      | bor rp z =>
        obtain ⟨a, vs, rfl, ha, ra⟩ := rp.tuple_inv
        refine ⟨a, vs, rfl, ha.sq, by rw [ra.length]; simpa using len e, storeL_ok e (fun d hd => ?_) (RpL.bors (fun _ h => h) ra) re Q fun σ1 f1 re1 le out => q σ1 f1 re1 (fun b => by have := le b; omega) out⟩
        obtain ⟨y, _, rfl⟩ := List.mem_map.mp hd
        exact ntr_borD y
    · cases hn
    · cases e
/-- an item at hand: a value, or a pair that is taken apart at once -/
def Ri (K : Kx) (H : Hp) (Fz Bz : Addr → Prop) (v : V) (x : D) : Prop :=
  (Rv K H Fz Bz v x (fun _ => 0) ∧ x.ntr = true) ∨ ∃ (T : Addr) (y z : V) (d e : PyData), v = .ref T ∧ x = .tr (.tuple [d, e]) ∧ SqT K.K H T [y, z] ∧ Rp K.K H Fz y d ∧ Rp K.K H Fz z e
theorem store_ri {t : T} {x : D} {v : V} {Q : L2.St → Hp → Prop} (e : storeT t x ρ = some ρ1) (rv : Ri K H Fz Bz v x) (re : Re K H Fz Bz σ ρ f)
    (q : ∀ σ1 f1, Re K H Fz Bz σ1 ρ1 f1 → (∀ b, f1 b ≤ f b) → (∀ j, j ∉ t.slots → σ1[j]? = σ[j]?) → Q σ1 H) : TGt K.K t v σ H Q := by
  rcases rv with ⟨rv, n⟩ | ⟨T, y, z, d, e', rfl, rfl, hT, r1, r2⟩
  · exact store_ok' e n rv re fun σ1 f1 re1 le out => q σ1 f1 re1 (fun b => by have := le b; omega) out
  · cases t with
    | nm i =>
      simp only [storeT] at e
      split at e
      · split at e
        · rename_i h; cases h
        · cases e
      · cases e
    | tp is =>
      simp only [storeT] at e
      have len : is.length = 2 := by
        match is, e with
        | [_, _], _ => rfl
        | [], e => simp [storeT.storeL] at e
        | [_], e => simp [storeT.storeL] at e
        | _ :: _ :: _ :: _, e => simp [storeT.storeL] at e
      refine ⟨T, [y, z], rfl, hT, by rw [len]; rfl, storeL_ok e (fun d hd => ?_) (RvL.dats (.cons r1 (.cons r2 .nil))) re Q fun σ1 f1 re1 le out => q σ1 f1 re1 le out⟩
      obtain ⟨y, _, rfl⟩ := List.mem_map.mp hd
      rfl

/-! what is walked -/
/-- the items, as the iterator yields them in every later heap -/
def ItOk (K : Kx) (Bz : Addr → Prop) (J : It) (items : List D) (H1 : Hp) (Fz1 : Addr → Prop) (ra : Addr → Nat) : Prop :=
  ∀ (H' : Hp) (Fz' : Addr → Prop), (∀ b o, H1 b = some o → (Fz1 b ∨ Bz b ∨ ¬ Ow o ∨ 1 ≤ ra b) → H' b = some o) → (∀ b, Fz1 b → Fz' b) → ∀ i, (items.length ≤ i → J.stop i H') ∧
    ∀ x, items[i]? = some x → J.go i H' ∧ True ∧ ∀ v H'', J.yld i H' v H'' → (H'' = H' ∨ ∃ q o, H' q = none ∧ ¬ Ow o ∧ H'' = upd H' q o) ∧ Ri K H'' Fz' Bz v x
/-- a slot that is shut -/
def Lk (K : Kx) (H : Hp) (Fz Bz : Addr → Prop) (σ : L2.St) (ρ : Env) (w : Option (Nat × D)) (ra : Addr → Nat) : Prop :=
  match w with
  | none => True
  | some (i, d) => i < ρ.length ∧ d.ntr = true ∧ ∃ v, σ[i]? = some (some v) ∧ Rv K H Fz Bz v d ra
def OutI (K : Kx) (mg : Str → Option Value) (Bz : Addr → Prop) (σ : L2.St) (H : Hp) (Fz : Addr → Prop) (f : Addr → Nat) (W : WX) (r : R (List D × Option (Nat × D))) (Q : It → Hp → Prop) : Prop :=
  match r with
  | .ok w ρ => ∀ J H' Fz' fρ ra, Re K H' Fz' Bz σ ρ fρ → At Bz false H Fz f H' Fz' fρ ra → ItOk K Bz J w.1 H' Fz' ra → Lk K H' Fz' Bz σ ρ w.2 ra → Q J H'
  | .ex x ρ => ∀ cls dx H' Fz' fρ, Re K H' Fz' Bz σ ρ fρ → Ex K H' Fz' x cls dx → At Bz false H Fz f H' Fz' fρ (fun _ => 0) → W cls dx σ H'
  | .no => False
def LI (K : Kx) (mg : Str → Option Value) (G : List Fn) (W : WX) (it : I) : TI := fun σ H Q => ∃ ρ Fz Bz f, Re K H Fz Bz σ ρ f ∧ Wf H Fz Bz f ∧ OutI K mg Bz σ H Fz f W (evI G it ρ) Q
end

section
variable {X : Cx} {xz : Xs} {G : List Fn} {W : WX} {pos : Pos} {tg : Expr}
/-- a list or a tuple, as it comes -/
def iSeq (K : PySem.W.Frag) (tl : TE) : TI := fun σ H R => tl σ H fun x H1 => ∃ a, x = .ref a ∧ ((∃ xs, SqL K H1 a xs ∧ R (Itl K a) H1) ∨ (∃ xs, SqT K H1 a xs ∧ R (Itt K a) H1))
theorem pi_seq {l : Expr} {tl : TE} (hl : PE X l tl) : PI X tg l (iSeq X.K tl) := by
  refine ⟨fun pins s σ H R I h => thn (hl.run pins s σ H _ I h) ?_⟩
  intro v s1 ⟨x, H1, I1, r1, a, e, hq⟩
  subst e
  cases r1
  have new : ∀ {o : Obj}, Inv X pins σ H1 { s1 with heap := s1.heap.push o } := fun {o} => I1.kept (t' := s1.toks) fun b o e => Heap.get?_push_of_some _ e
  have fp : ∀ b ∈ [s1.heap.objs.size], FpOk X pins H1 b := fun b hb => by
    rw [List.mem_singleton.mp hb]
    exact I1.fpOk (Nat.le_refl _) (I1.hok.fresh (Nat.le_refl _))
  rcases hq with ⟨xs, hs, q⟩ | ⟨xs, hs, q⟩
  · obtain ⟨its, _, pl, _⟩ := I1.list hs
    exact wpAny_pyIter_list pl.isList ⟨_, _, _, _, H1, rfl, new, turn_list a _, ⟨_, Heap.get?_push_size _ rfl, rfl, rfl⟩, fp, q⟩
  · obtain ⟨its, _, pl, _⟩ := I1.tuple hs
    exact wpAny_pyIter_tuple (show s1.heap.IsTuple a its.toArray from pl) ⟨_, _, _, _, H1, rfl, new, turn_tuple a _, ⟨_, Heap.get?_push_size _ rfl, rfl, rfl⟩, fp, q⟩
def iSeqS (K : PySem.W.Frag) (tl : TE) : TI := fun σ H R => tl σ H fun x H1 => (∃ a, x = .ref a ∧ ((∃ xs, SqL K H1 a xs ∧ R (Itl K a) H1) ∨ (∃ xs, SqT K H1 a xs ∧ R (Itt K a) H1))) ∨ ∃ y, x = .str y ∧ R (Its y) H1
theorem pi_seqS {l : Expr} {tl : TE} (hl : PE X l tl) : PI X tg l (iSeqS X.K tl) := by
  refine ⟨fun pins s σ H R I h => thn (hl.run pins s σ H _ I h) ?_⟩
  intro v s1 ⟨x, H1, I1, r1, hq⟩
  rcases hq with ⟨a, e, hq⟩ | ⟨y, e, q⟩
  · subst e
    cases r1
    have new : ∀ {o : Obj}, Inv X pins σ H1 { s1 with heap := s1.heap.push o } := fun {o} => I1.kept (t' := s1.toks) fun b o e => Heap.get?_push_of_some _ e
    have fp : ∀ b ∈ [s1.heap.objs.size], FpOk X pins H1 b := fun b hb => by
      rw [List.mem_singleton.mp hb]
      exact I1.fpOk (Nat.le_refl _) (I1.hok.fresh (Nat.le_refl _))
    rcases hq with ⟨xs, hs, q⟩ | ⟨xs, hs, q⟩
    · obtain ⟨its, _, pl, _⟩ := I1.list hs
      exact wpAny_pyIter_list pl.isList ⟨_, _, _, _, H1, rfl, new, turn_list a _, ⟨_, Heap.get?_push_size _ rfl, rfl, rfl⟩, fp, q⟩
    · obtain ⟨its, _, pl, _⟩ := I1.tuple hs
      exact wpAny_pyIter_tuple (show s1.heap.IsTuple a its.toArray from pl) ⟨_, _, _, _, H1, rfl, new, turn_tuple a _, ⟨_, Heap.get?_push_size _ rfl, rfl, rfl⟩, fp, q⟩
  · subst e
    obtain ⟨t, rfl⟩ := r1
    cases ha : y.cps.all (· < 128)
    · exact wpAny_pyIter_wide ha (pi_one (tk := s1.toks) I1 _ (turn_str _ y t "str_iterator" (.inr rfl)) ⟨_, Heap.get?_push_size _ rfl, rfl, rfl⟩ q)
    · exact wpAny_pyIter_ascii ha (pi_one (tk := s1.toks) I1 _ (turn_str _ y t "str_ascii_iterator" (.inl rfl)) ⟨_, Heap.get?_push_size _ rfl, rfl, rfl⟩ q)
theorem PI.imp {e : Expr} {t t' : TI} (h : PI X tg e t) (i : ∀ σ H Q, t' σ H Q → t σ H Q) : PI X tg e t' := ⟨fun pins s σ H Q I z => h.run pins s σ H Q I (i _ _ _ z)⟩
theorem dats_map : ∀ {xs : List D} {ds : List PyData}, D.dats xs = some ds → xs = ds.map .dat
  | [], _, e => by simp only [D.dats, Option.some.injEq] at e; subst e; rfl
  | x :: r, ds, e => by
    cases x <;> simp only [D.dats] at e <;> try cases e
    obtain ⟨es, h1, h2⟩ := Option.map_eq_some_iff.mp e
    subst h2
    rw [dats_map h1]; rfl
theorem RvL.rp {K : Kx} {H : Hp} {Fz Bz : Addr → Prop} : ∀ {vs : List V} {ds : List PyData} {f : Addr → Nat}, RvL K H Fz Bz vs (ds.map .dat) f → RpL K.K H Fz vs ds
  | _, [], _, h => by obtain ⟨rfl, _⟩ := h.nil_inv; exact .nil
  | _, d :: ds, _, h => by
    rw [List.map_cons] at h
    obtain ⟨v, ws, g, g', rfl, r, t, _⟩ := h.cons_inv
    cases r with
    | dat rp _ => exact .cons rp (RvL.rp t)
theorem RvL.get0 {K : Kx} {H : Hp} {Fz Bz : Addr → Prop} : ∀ {vs : List V} {ds : List D} {i : Nat} {d : D}, RvL K H Fz Bz vs ds (fun _ => 0) → ds[i]? = some d → ∃ v, vs[i]? = some v ∧ Rv K H Fz Bz v d fun _ => 0
  | vs, ds, i, d, h, e => by
    obtain ⟨v, fi, g, h1, h2, h3, _, _⟩ := h.split e
    have z : fi = fun _ => 0 := funext fun b => by have := h3 b; omega
    rw [z] at h2
    exact ⟨v, h1, h2⟩
theorem ItOk.list {K : Kx} {Bz : Addr → Prop} {a : Addr} {vs : List V} {items : List D} {H1 : Hp} {Fz1 : Addr → Prop} {ra : Addr → Nat} (n : D.ntrL items = true)
    (h : ∀ (H' : Hp) (Fz' : Addr → Prop), (∀ b o, H1 b = some o → (Fz1 b ∨ Bz b ∨ ¬ Ow o ∨ 1 ≤ ra b) → H' b = some o) → (∀ b, Fz1 b → Fz' b) → SqL K.K H' a vs ∧ RvL K H' Fz' Bz vs items fun _ => 0) : ItOk K Bz (Itl K.K a) items H1 Fz1 ra := by
  intro H' Fz' k m i
  obtain ⟨hs, hr⟩ := h H' Fz' k m
  refine ⟨fun l => ⟨vs, hs, by rw [hr.length]; exact l⟩, fun x hx => ?_⟩
  obtain ⟨v, hv, rv⟩ := hr.get0 hx
  refine ⟨⟨vs, v, hs, hv⟩, trivial, fun w H'' ⟨e, y⟩ => ⟨.inl e, ?_⟩⟩
  subst e
  have := y vs hs
  rw [hv] at this
  cases this
  exact .inl ⟨rv, ntrL_get n hx⟩
theorem ItOk.tup {K : Kx} {Bz : Addr → Prop} {a : Addr} {vs : List V} {items : List D} {H1 : Hp} {Fz1 : Addr → Prop} {ra : Addr → Nat} (n : D.ntrL items = true)
    (h : ∀ (H' : Hp) (Fz' : Addr → Prop), (∀ b o, H1 b = some o → (Fz1 b ∨ Bz b ∨ ¬ Ow o ∨ 1 ≤ ra b) → H' b = some o) → (∀ b, Fz1 b → Fz' b) → SqT K.K H' a vs ∧ RvL K H' Fz' Bz vs items fun _ => 0) : ItOk K Bz (Itt K.K a) items H1 Fz1 ra := by
  intro H' Fz' k m i
  obtain ⟨hs, hr⟩ := h H' Fz' k m
  refine ⟨fun l => ⟨vs, hs, by rw [hr.length]; exact l⟩, fun x hx => ?_⟩
  obtain ⟨v, hv, rv⟩ := hr.get0 hx
  refine ⟨⟨vs, v, hs, hv⟩, trivial, fun w H'' ⟨e, y⟩ => ⟨.inl e, ?_⟩⟩
  subst e
  have := y vs hs
  rw [hv] at this
  cases this
  exact .inl ⟨rv, ntrL_get n hx⟩
theorem ntrL_dats (ds : List PyData) : D.ntrL (ds.map .dat) = true := ntrL_of_own (ownL_dats ds)
theorem ntrL_bors : ∀ ds : List PyData, D.ntrL (ds.map borD) = true
  | [] => rfl
  | d :: ds => by rw [List.map_cons, D.ntrL, ntr_borD, ntrL_bors ds]; rfl
theorem ItOk.strs {K : Kx} {Bz : Addr → Prop} {y : Str} {H1 : Hp} {Fz1 : Addr → Prop} {ra : Addr → Nat} : ItOk K Bz (Its y) ((signsD y).map D.dat) H1 Fz1 ra := by
  intro H' Fz' k m i
  have l : ((signsD y).map D.dat).length = y.cps.size := by simp [signsD]
  refine ⟨fun h => by show y.cps.size ≤ i; omega, fun x hx => ?_⟩
  have li := (List.getElem?_eq_some_iff.mp hx).1
  refine ⟨by show i < y.cps.size; omega, trivial, fun v H'' ⟨e1, c, hc, e2⟩ => ⟨.inl e1, ?_⟩⟩
  · subst e2
    have : ((signsD y).map D.dat)[i]? = some (.dat (.str ⟨#[c]⟩)) := by
      rw [signsD, List.map_map, List.getElem?_map, Array.getElem?_toList, hc]; rfl
    rw [this] at hx
    cases hx
    exact .inl ⟨.dat (.str _) fun _ => rfl, rfl⟩
theorem li_val {e : E} {ee : Expr} (he : PE X ee (LE (kx X xz) X.mg G W e)) : PI X tg ee (LI (kx X xz) X.mg G W (.val e)) := by
  refine PI.imp (pi_seqS he) fun σ H Q ⟨ρ, Fz, Bz, f, re, wf, out⟩ => ?_
  simp only [evI] at out
  refine LE.sub (k := fun d ρ => R.ok d ρ) re (At.start wf) ?_ ?_ ?_
  · intro x ρ' e; rw [e] at out; exact out
  · intro e; rw [e] at out; exact out
  · intro x ρ1 e1 v H1 Fz1 fρ fd re1 rv s t
    rw [e1] at out
    simp only [R.bind] at out
    have t' : At Bz false H Fz f H1 Fz1 fρ fd := (t.cong fun b => by omega).weak fun h => by cases h
    cases hi : itemsV x with
    | none => rw [hi] at out; exact out.elim
    | some xs =>
      rw [hi] at out
      have out' := fun J hI => out J H1 Fz1 fρ fd re1 t' hI trivial
      have seqs : ∀ {d : PyData} {ds : List PyData} {S : Addr → Prop} (fI : PyData → D), itemsD d = some ds → Rp X.K H1 S v d → (∀ b, S b → Fz1 b ∨ Bz b) → D.ntrL (ds.map fI) = true →
          (∀ (H' : Hp) (Fz' : Addr → Prop), (∀ b, Fz1 b → Fz' b) → ∀ vs, (RpL X.K H' (fun b => S b) vs ds) → RvL (kx X xz) H' Fz' Bz vs (ds.map fI) fun _ => 0) → xs = ds.map fI →
          ∃ a, v = .ref a ∧ ((∃ xs, SqL X.K H1 a xs ∧ Q (Itl X.K a) H1) ∨ (∃ xs, SqT X.K H1 a xs ∧ Q (Itt X.K a) H1)) := fun {d ds S} fI hd rp hS n mk ex => by
        subst ex
        cases rp with
        | lst h r =>
          rename_i a vs es
          simp only [itemsD, Option.some.injEq] at hd
          subst hd
          refine ⟨a, rfl, .inl ⟨vs, h.seq, out' _ (ItOk.list (vs := vs) n fun H' Fz' k m => ?_)⟩⟩
          have kk : ∀ b o, H1 b = some o → (S b ∨ ¬ Ow o) → H' b = some o := fun b o e z => k b o e (z.elim (fun z => (hS b z).elim .inl fun z => .inr (.inl z)) fun z => .inr (.inr (.inl z)))
          exact ⟨(h.keep kk fun _ z => z).seq, mk H' Fz' m _ (r.keep kk fun _ z => z)⟩
        | tup h r =>
          rename_i a vs es
          simp only [itemsD, Option.some.injEq] at hd
          subst hd
          refine ⟨a, rfl, .inr ⟨vs, h.sq, out' _ (ItOk.tup (vs := vs) n fun H' Fz' k m => ?_)⟩⟩
          have kk : ∀ b o, H1 b = some o → (S b ∨ ¬ Ow o) → H' b = some o := fun b o e z => k b o e (z.elim (fun z => (hS b z).elim .inl fun z => .inr (.inl z)) fun z => .inr (.inr (.inl z)))
          exact ⟨SqT.keep h.sq fun b o e z => kk b o e (.inr z), mk H' Fz' m _ (r.keep kk fun _ z => z)⟩
        | _ => simp [itemsD] at hd
      unfold itemsV at hi
      split at hi
      · rename_i d
        obtain ⟨ds, h1, h2⟩ := Option.map_eq_some_iff.mp hi
        cases rv with
        | dat rp z =>
          unfold itemsS at h1
          split at h1
          · rename_i y
            cases h1
            subst h2
            have e := rp.str_inv
            subst e
            exact .inr ⟨y, rfl, out' _ ItOk.strs⟩
          · refine .inl ?_
            exact seqs .dat h1 rp (fun b h => .inl h) (ntrL_dats ds) (fun H' Fz' m vs r => RvL.dats (r.mono m)) h2.symm
      · rename_i d
        obtain ⟨ds, h1, h2⟩ := Option.map_eq_some_iff.mp hi
        cases rv with
        | bor rp z => exact .inl <| seqs borD h1 rp (fun b h => h) (ntrL_bors ds) (fun H' Fz' m vs r => RpL.bors (fun b h => h.imp (m b) id) r) h2.symm
      · rename_i ys
        obtain ⟨ds, h1, h2⟩ := Option.map_eq_some_iff.mp hi
        subst h2
        have ey := dats_map h1
        subst ey
        obtain ⟨a, vs, g0, rfl, h3, h4, h5⟩ := rv.lst_inv
        refine .inl ⟨a, rfl, .inl ⟨vs, SqL.of h3, out' _ (ItOk.list (ntrL_dats ds) fun H' Fz' k m => ⟨SqL.of (k a _ h3 (.inr (.inr (.inr (by rw [h5, if_pos rfl]; omega))))), RvL.dats (h4.rp.keep (fun b o e z => k b o e (z.elim .inl fun z => .inr (.inr (.inl z)))) m)⟩)⟩⟩
      · cases hi
theorem li_ref {p : P} {ee : Expr} (he : PE X ee (LP (kx X xz) X.mg G W p)) : PI X tg ee (LI (kx X xz) X.mg G W (.ref p)) := by
  refine PI.imp (pi_seq he) fun σ H Q ⟨ρ, Fz, Bz, f, re, wf, out⟩ => ?_
  simp only [evI] at out
  refine LP.sub re (At.start wf) ?_ ?_ ?_
  · intro x ρ' e; rw [e] at out; exact out
  · intro e; rw [e] at out; exact out
  · intro q ρ1 e1 u v x H1 Fz1 fρ re1 s t hv hp hg hx
    rw [e1] at out
    simp only [R.bind] at out
    rw [hg] at out
    cases x with
    | lst xs =>
      simp only at out
      cases hd : D.dats xs with
      | none => rw [hd] at out; exact out.elim
      | some ds =>
        rw [hd] at out
        have ex := dats_map hd
        subst ex
        have ns := live_slot hg hx
        have l := slot_lt ns
        obtain ⟨o, fi, g0, eo, rs, hf, rest⟩ := re1.split l
        rcases rs with ⟨z, _⟩ | ⟨w, z, n, rv⟩
        · exact (ns z).elim
        · subst z
          rw [hv] at eo
          cases eo
          obtain ⟨u', fx, gx, hp', ru, ntx, hsx, _⟩ := rv.path q.2 hg n
          have eu := PathV.fun hp hp'
          subst eu
          obtain ⟨a, vs, g2, rfl, h3, h4, h5⟩ := ru.lst_inv
          refine ⟨a, rfl, .inl ⟨vs, SqL.of h3, out _ H1 Fz1 g0 fi rest ((t.cong fun b => by rw [hf]; omega).weak fun h => by cases h) (ItOk.list (ntrL_dats ds) fun H' Fz' k m => ⟨SqL.of (k a _ h3 (.inr (.inr (.inr (by rw [hsx, h5, if_pos rfl]; omega))))), RvL.dats (h4.rp.keep (fun b o e z => k b o e (z.elim .inl fun z => .inr (.inr (.inl z)))) m)⟩) ⟨by simpa using l, n, v, hv, rv⟩⟩⟩
    | _ => exact out.elim
theorem relV_ref {v : V} {b : Addr} (h : L2.RelV v (.ref b)) : v = .ref b := by
  cases v with
  | ref a => cases (show Value.ref b = Value.ref a from h); rfl
  | non => cases (show Value.ref b = Value.none from h)
  | bl k => cases (show Value.ref b = Value.bool k from h)
  | int i => obtain ⟨t, e⟩ := (show ∃ t, Value.ref b = Value.int i t from h); cases e
  | str i => obtain ⟨t, e⟩ := (show ∃ t, Value.ref b = Value.str i t from h); cases e
  | byt i => obtain ⟨t, e⟩ := (show ∃ t, Value.ref b = Value.bytes i t from h); cases e
  | flt i => obtain ⟨t, e⟩ := (show ∃ t, Value.ref b = Value.float i t from h); cases e
  | ty n => cases (show Value.ref b = Value.type n from h)
/-- the keys of a dict -/
theorem ItOk.raw {K : Kx} {Bz : Addr → Prop} {a : Addr} {es : Array DictEntry} {ep : Nat} {kvs : List (PyData × PyData)} {H1 : Hp} {Fz1 : Addr → Prop} {ra : Addr → Nat} (ha : H1 a = some (rawT a es ep)) (hr : 1 ≤ ra a) (dr : DtR K.P K.w K.K H1 Fz1 kvs es) : ItOk K Bz (Itx a es ep) (kvs.map fun kv => .dat kv.1) H1 Fz1 ra := by
  intro H' Fz' k m i
  have hs := dr.refs.2.1
  have ha' := k a _ ha (.inr (.inr (.inr hr)))
  rw [List.length_map]
  refine ⟨fun hl => ⟨ha', by rw [hs]; exact hl⟩, fun x hx => ?_⟩
  rw [List.getElem?_map] at hx
  obtain ⟨kv, hk, rfl⟩ := Option.map_eq_some_iff.mp hx
  have hi : i < kvs.length := (List.getElem?_eq_some_iff.mp hk).1
  refine ⟨⟨ha', by rw [hs]; exact hi⟩, trivial, fun v H'' y => ?_⟩
  obtain ⟨rfl, en, he, hv⟩ := y
  obtain ⟨kv', b, e1, e2, e3⟩ := dr.key he
  rw [hk] at e1
  cases e1
  refine ⟨.inl rfl, ?_⟩
  have ev : v = .ref b := relV_ref (by rw [← e2]; exact hv)
  subst ev
  refine .inl ⟨.dat (e3.keep (fun b o e z => k b o e (.inr (.inr (.inl (z.elim False.elim id))))) fun _ z => z.elim) fun _ => rfl, rfl⟩
theorem li_keys {p : P} {ee : Expr} (he : PE X ee (LP (kx X xz) X.mg G W p)) : PI X tg ee (LI (kx X xz) X.mg G W (.keys p)) := by
  refine PI.imp (pi_raw he) fun σ H Q ⟨ρ, Fz, Bz, f, re, wf, out⟩ => ?_
  simp only [evI] at out
  refine LP.sub re (At.start wf) ?_ ?_ ?_
  · intro x ρ' e; rw [e] at out; exact out
  · intro e; rw [e] at out; exact out
  · intro q ρ1 e1 u v x H1 Fz1 fρ re1 s t hv hp hg hx
    rw [e1] at out
    simp only [R.bind] at out
    rw [hg] at out
    cases x with
    | dtt kvs =>
      simp only at out
      have ns := live_slot hg hx
      have l := slot_lt ns
      obtain ⟨o, fi, g0, eo, rs, hf, rest⟩ := re1.split l
      rcases rs with ⟨z, _⟩ | ⟨w, z, n, rv⟩
      · exact (ns z).elim
      · subst z
        rw [hv] at eo
        cases eo
        obtain ⟨u', fx, gx, hp', ru, ntx, hsx, _⟩ := rv.path q.2 hg n
        have eu := PathV.fun hp hp'
        subst eu
        obtain ⟨a, es, ep, rfl, h3, h4, h5⟩ := ru.dtt_inv
        exact ⟨a, es, ep, rfl, h3, h4.refs.1, out _ H1 Fz1 g0 fi rest ((t.cong fun b => by rw [hf]; omega).weak fun h => by cases h) (ItOk.raw h3 (by rw [hsx, h5, if_pos rfl]; omega) h4) ⟨by simpa using l, n, v, hv, rv⟩⟩
    | _ => exact out.elim
/-! zip, enumerate, reversed -/
/-- a source of items, as it stands now and later -/
def SrcOk (Sq : PySem.W.Frag → Hp → Addr → List V → Prop) (K : Kx) (Bz : Addr → Prop) (H1 : Hp) (Fz1 : Addr → Prop) (ra : Addr → Nat) (a : Addr) (vs : List V) (ds : List PyData) : Prop :=
  Sq K.K H1 a vs ∧ ∀ (H' : Hp) (Fz' : Addr → Prop), (∀ b o, H1 b = some o → (Fz1 b ∨ Bz b ∨ ¬ Ow o ∨ 1 ≤ ra b) → H' b = some o) → (∀ b, Fz1 b → Fz' b) → Sq K.K H' a vs ∧ RpL K.K H' Fz' vs ds
theorem src_of {K : Kx} {Bz : Addr → Prop} {H1 : Hp} {Fz1 : Addr → Prop} {ra fd : Addr → Nat} {v : V} {x : D} {ds : List PyData} (rv : Rv K H1 Fz1 Bz v x fd) (h : datsV x = some ds) (le : ∀ b, fd b ≤ ra b) :
    ∃ a vs, v = .ref a ∧ ((isTupV x = false ∧ SrcOk SqL K Bz H1 Fz1 ra a vs ds) ∨ (isTupV x = true ∧ SrcOk SqT K Bz H1 Fz1 ra a vs ds)) := by
  unfold datsV at h
  split at h
  · rename_i d
    cases rv with
    | dat rp z =>
      cases rp with
      | lst h1 r =>
        rename_i a vs es
        simp only [itemsD, Option.some.injEq] at h
        subst h
        refine ⟨a, vs, rfl, .inl ⟨rfl, h1.seq, fun H' Fz' k m => ?_⟩⟩
        have kk : ∀ b o, H1 b = some o → (Fz1 b ∨ ¬ Ow o) → H' b = some o := fun b o e z => k b o e (z.elim .inl fun z => .inr (.inr (.inl z)))
        exact ⟨(h1.keep kk fun _ z => z).seq, r.keep kk m⟩
      | tup h1 r =>
        rename_i a vs es
        simp only [itemsD, Option.some.injEq] at h
        subst h
        refine ⟨a, vs, rfl, .inr ⟨rfl, h1.sq, fun H' Fz' k m => ?_⟩⟩
        have kk : ∀ b o, H1 b = some o → (Fz1 b ∨ ¬ Ow o) → H' b = some o := fun b o e z => k b o e (z.elim .inl fun z => .inr (.inr (.inl z)))
        exact ⟨SqT.keep h1.sq fun b o e z => kk b o e (.inr z), r.keep kk m⟩
      | _ => simp [itemsD] at h
  · rename_i ys
    have ey := dats_map h
    subst ey
    obtain ⟨a, vs, g0, rfl, h3, h4, h5⟩ := rv.lst_inv
    refine ⟨a, vs, rfl, .inl ⟨rfl, SqL.of h3, fun H' Fz' k m => ?_⟩⟩
    have l1 : 1 ≤ ra a := by
      have := le a
      rw [h5, if_pos rfl] at this
      omega
    exact ⟨SqL.of (k a _ h3 (.inr (.inr (.inr l1)))), h4.rp.keep (fun b o e z => k b o e (z.elim .inl fun z => .inr (.inr (.inl z)))) m⟩
  · cases h

theorem pair_rv {K : Kx} {Bz : Addr → Prop} {H' : Hp} {Fz' : Addr → Prop} {T : Addr} {x y : V} {d e : PyData} (hT : H' T = none) (r1 : Rp K.K H' Fz' x d) (r2 : Rp K.K H' Fz' y e) : Ri K (upd H' T (.tup [x, y])) Fz' Bz (.ref T) (.tr (.tuple [d, e])) := by
  have up : ∀ b o, H' b = some o → (Fz' b ∨ ¬ Ow o) → (upd H' T (.tup [x, y])) b = some o := fun b o e _ => by rw [upd_ne (ne_of_none e hT)]; exact e
  exact .inr ⟨T, x, y, d, e, rfl, rfl, .inl (.inl upd_same), r1.keep up fun _ z => z, r2.keep up fun _ z => z⟩
theorem zipL_get {xs ys : List PyData} {i : Nat} {z : D} (h : (zipL xs ys)[i]? = some z) : ∃ d e, xs[i]? = some d ∧ ys[i]? = some e ∧ z = .tr (.tuple [d, e]) := by
  unfold zipL at h
  rw [List.getElem?_map] at h
  obtain ⟨p, h1, h2⟩ := Option.map_eq_some_iff.mp h
  rw [List.getElem?_zip_eq_some] at h1
  exact ⟨p.1, p.2, h1.1, h1.2, h2.symm⟩
theorem ItOk.zipL {K : Kx} {Bz : Addr → Prop} {a b : Addr} {vs ws : List V} {xs ys : List PyData} {H1 : Hp} {Fz1 : Addr → Prop} {ra : Addr → Nat} (h1 : SrcOk SqL K Bz H1 Fz1 ra a vs xs) (h2 : SrcOk SqL K Bz H1 Fz1 ra b ws ys) : ItOk K Bz (Itz K.K a b) (DE.zipL xs ys) H1 Fz1 ra := by
  intro H' Fz' k m i
  obtain ⟨s1, r1⟩ := h1.2 H' Fz' k m
  obtain ⟨s2, r2⟩ := h2.2 H' Fz' k m
  refine ⟨fun l => ⟨vs, ws, s1, s2, ?_⟩, fun z hz => ?_⟩
  · rw [r1.length, r2.length]
    simp only [DE.zipL, List.length_map, List.length_zip] at l
    omega
  · obtain ⟨d, e, e1, e2, rfl⟩ := zipL_get hz
    obtain ⟨x, f1, q1⟩ := r1.get e1
    obtain ⟨y, f2, q2⟩ := r2.get e2
    refine ⟨⟨vs, ws, x, y, s1, s2, f1, f2⟩, trivial, fun v H'' ⟨T, x', y', ev, hT, eH, g1, g2⟩ => ?_⟩
    have := g1 vs s1
    rw [f1] at this; cases this
    have := g2 ws s2
    rw [f2] at this; cases this
    subst ev eH
    exact ⟨.inr ⟨T, .tup _, hT, (fun z => z), rfl⟩, pair_rv hT q1 q2⟩
theorem ItOk.zipT {K : Kx} {Bz : Addr → Prop} {a b : Addr} {vs ws : List V} {xs ys : List PyData} {H1 : Hp} {Fz1 : Addr → Prop} {ra : Addr → Nat} (h1 : SrcOk SqT K Bz H1 Fz1 ra a vs xs) (h2 : SrcOk SqT K Bz H1 Fz1 ra b ws ys) : ItOk K Bz (RZ.ItzT K.K a b) (DE.zipL xs ys) H1 Fz1 ra := by
  intro H' Fz' k m i
  obtain ⟨s1, r1⟩ := h1.2 H' Fz' k m
  obtain ⟨s2, r2⟩ := h2.2 H' Fz' k m
  refine ⟨fun l => ⟨vs, ws, s1, s2, ?_⟩, fun z hz => ?_⟩
  · rw [r1.length, r2.length]
    simp only [DE.zipL, List.length_map, List.length_zip] at l
    omega
  · obtain ⟨d, e, e1, e2, rfl⟩ := zipL_get hz
    obtain ⟨x, f1, q1⟩ := r1.get e1
    obtain ⟨y, f2, q2⟩ := r2.get e2
    refine ⟨⟨vs, ws, x, y, s1, s2, f1, f2⟩, trivial, fun v H'' ⟨T, x', y', ev, hT, eH, g1, g2⟩ => ?_⟩
    have := g1 vs s1
    rw [f1] at this; cases this
    have := g2 ws s2
    rw [f2] at this; cases this
    subst ev eH
    exact ⟨.inr ⟨T, .tup _, hT, (fun z => z), rfl⟩, pair_rv hT q1 q2⟩
theorem ItOk.enumL {K : Kx} {Bz : Addr → Prop} {a : Addr} {vs : List V} {xs : List PyData} {H1 : Hp} {Fz1 : Addr → Prop} {ra : Addr → Nat} (h1 : SrcOk SqL K Bz H1 Fz1 ra a vs xs) : ItOk K Bz (Ite K.K a) (DE.enumL xs) H1 Fz1 ra := by
  intro H' Fz' k m i
  obtain ⟨s1, r1⟩ := h1.2 H' Fz' k m
  refine ⟨fun l => ⟨vs, s1, ?_⟩, fun z hz => ?_⟩
  · rw [r1.length]
    simp only [DE.enumL, List.length_map, List.length_zip, List.length_range, Nat.min_self] at l
    omega
  · unfold DE.enumL at hz
    rw [List.getElem?_map] at hz
    obtain ⟨p, h1, rfl⟩ := Option.map_eq_some_iff.mp hz
    rw [List.getElem?_zip_eq_some] at h1
    obtain ⟨j, d⟩ := p
    obtain ⟨e0, e1⟩ := h1
    simp only at e0 e1
    have hi : i < xs.length := (List.getElem?_eq_some_iff.mp e1).1
    rw [List.getElem?_range hi] at e0
    cases e0
    obtain ⟨x, f1, q1⟩ := r1.get e1
    refine ⟨⟨vs, x, s1, f1⟩, trivial, fun v H'' ⟨T, x', ev, hT, eH, g1⟩ => ?_⟩
    have := g1 vs s1
    rw [f1] at this; cases this
    subst ev eH
    exact ⟨.inr ⟨T, .tup _, hT, (fun z => z), rfl⟩, pair_rv hT (.int _) q1⟩
theorem rev_get {xs : List PyData} {i : Nat} {z : D} (h : (xs.reverse.map D.dat)[i]? = some z) : ∃ d, xs[xs.length - 1 - i]? = some d ∧ z = .dat d ∧ i < xs.length := by
  rw [List.getElem?_map] at h
  obtain ⟨d, h1, h2⟩ := Option.map_eq_some_iff.mp h
  have hi : i < xs.length := by
    have := (List.getElem?_eq_some_iff.mp h1).1
    simpa using this
  rw [List.getElem?_reverse hi] at h1
  exact ⟨d, h1, h2.symm, hi⟩
theorem ItOk.revL {K : Kx} {Bz : Addr → Prop} {a : Addr} {vs : List V} {xs : List PyData} {H1 : Hp} {Fz1 : Addr → Prop} {ra : Addr → Nat} (hl : vs.length = xs.length) (h1 : SrcOk SqL K Bz H1 Fz1 ra a vs xs) : ItOk K Bz (Itv K.K a vs.length) (xs.reverse.map .dat) H1 Fz1 ra := by
  intro H' Fz' k m i
  obtain ⟨s1, r1⟩ := h1.2 H' Fz' k m
  refine ⟨fun l => ?_, fun z hz => ?_⟩
  · show vs.length ≤ i
    rw [hl]; simpa using l
  · obtain ⟨d, e1, rfl, hi⟩ := rev_get hz
    rw [← hl] at e1
    obtain ⟨x, f1, q1⟩ := r1.get e1
    refine ⟨⟨by rw [hl]; exact hi, vs, x, s1, f1⟩, trivial, fun v H'' ⟨eH, g1⟩ => ?_⟩
    have := g1 vs s1
    rw [f1] at this; cases this
    subst eH
    exact ⟨.inl rfl, .inl ⟨.dat q1 fun _ => rfl, rfl⟩⟩
theorem ItOk.revT {K : Kx} {Bz : Addr → Prop} {a : Addr} {vs : List V} {xs : List PyData} {H1 : Hp} {Fz1 : Addr → Prop} {ra : Addr → Nat} (hl : vs.length = xs.length) (h1 : SrcOk SqT K Bz H1 Fz1 ra a vs xs) : ItOk K Bz (RT.ItvT K.K a vs.length) (xs.reverse.map .dat) H1 Fz1 ra := by
  intro H' Fz' k m i
  obtain ⟨s1, r1⟩ := h1.2 H' Fz' k m
  refine ⟨fun l => ?_, fun z hz => ?_⟩
  · show vs.length ≤ i
    rw [hl]; simpa using l
  · obtain ⟨d, e1, rfl, hi⟩ := rev_get hz
    rw [← hl] at e1
    obtain ⟨x, f1, q1⟩ := r1.get e1
    refine ⟨⟨by rw [hl]; exact hi, vs, x, s1, f1⟩, trivial, fun v H'' ⟨eH, g1⟩ => ?_⟩
    have := g1 vs s1
    rw [f1] at this; cases this
    subst eH
    exact ⟨.inl rfl, .inl ⟨.dat q1 fun _ => rfl, rfl⟩⟩
theorem SrcOk.len {Sq : PySem.W.Frag → Hp → Addr → List V → Prop} {K : Kx} {Bz : Addr → Prop} {a : Addr} {vs : List V} {xs : List PyData} {H1 : Hp} {Fz1 : Addr → Prop} {ra : Addr → Nat} (h : SrcOk Sq K Bz H1 Fz1 ra a vs xs) : vs.length = xs.length :=
  (h.2 H1 Fz1 (fun _ _ e _ => e) fun _ z => z).2.length
theorem li_revd {e : E} {ee : Expr} {p : Pos} (hg : Gl X "reversed") (hm : X.mg "reversed" = none) (he : PE X ee (LE (kx X xz) X.mg G W e)) (hs : starEach [ee] X.env = (false, eval ee X.env) :: starEach [] X.env) : PI X tg (.Call (.Name "reversed" p) [ee] [] pos) (LI (kx X xz) X.mg G W (.revd e)) := by
  refine PI.imp (RT.pi_revA hg hm he hs) fun σ H Q ⟨ρ, Fz, Bz, f, re, wf, out⟩ => ?_
  simp only [evI] at out
  refine LE.sub (k := fun d ρ => R.ok d ρ) re (At.start wf) ?_ ?_ ?_
  · intro x ρ' e; rw [e] at out; exact out
  · intro e; rw [e] at out; exact out
  · intro x ρ1 e1 v H1 Fz1 fρ fd re1 rv s t
    rw [e1] at out
    simp only [R.bind] at out
    have t' : At Bz false H Fz f H1 Fz1 fρ fd := (t.cong fun b => by omega).weak fun h => by cases h
    split at out
    · rename_i ds hd
      obtain ⟨a, vs, rfl, ⟨_, h⟩ | ⟨_, h⟩⟩ := src_of rv hd fun b => Nat.le_refl _
      · exact ⟨a, vs, rfl, .inl ⟨h.1, out _ H1 Fz1 fρ fd re1 t' (ItOk.revL h.len h) trivial⟩⟩
      · exact ⟨a, vs, rfl, .inr ⟨h.1, out _ H1 Fz1 fρ fd re1 t' (ItOk.revT h.len h) trivial⟩⟩
    · exact out.elim
theorem li_enum {e : E} {ee : Expr} {p tpos : Pos} {elts : List Expr} {kk : Nat} (hg : Gl X "enumerate") (hm : X.mg "enumerate" = none) (he : PE X ee (LE (kx X xz) X.mg G W e)) (hs : starEach [ee] X.env = [(false, eval ee X.env)]) : PI X (.Tuple elts kk tpos) (.Call (.Name "enumerate" p) [ee] [] pos) (LI (kx X xz) X.mg G W (.enum e)) := by
  refine PI.imp (pi_enum hg hm (pa_cons he pa_nil hs) hs) fun σ H Q ⟨ρ, Fz, Bz, f, re, wf, out⟩ => ?_
  simp only [evI] at out
  refine LE.sub (k := fun d ρ => R.ok d ρ) re (At.start wf) ?_ ?_ ?_
  · intro x ρ' e; rw [e] at out; exact out
  · intro e; rw [e] at out; exact out
  · intro x ρ1 e1 v H1 Fz1 fρ fd re1 rv s t
    rw [e1] at out
    simp only [R.bind] at out
    have t' : At Bz false H Fz f H1 Fz1 fρ fd := (t.cong fun b => by omega).weak fun h => by cases h
    split at out
    · rename_i ds hd
      split at out
      · exact out.elim
      · rename_i hn
        obtain ⟨a, vs, rfl, ⟨_, h⟩ | ⟨z, _⟩⟩ := src_of rv hd fun b => Nat.le_refl _
        · exact ⟨a, vs, rfl, h.1, out _ H1 Fz1 fρ fd re1 t' (ItOk.enumL h) trivial⟩
        · exact (hn z).elim
    · exact out.elim
theorem li_zip {a b : E} {ea eb : Expr} {p tpos : Pos} {elts : List Expr} {kk : Nat} (hg : Gl X "zip") (hm : X.mg "zip" = none) (ha : PE X ea (LE (kx X xz) X.mg G W a)) (hb : PE X eb (LE (kx X xz) X.mg G W b)) (hs : starEach [ea, eb] X.env = (false, eval ea X.env) :: starEach [eb] X.env) (hs2 : starEach [eb] X.env = [(false, eval eb X.env)]) (hpl : (backTo pos (starEach [eb] X.env)).any (·.1) = false) :
    PI X (.Tuple elts kk tpos) (.Call (.Name "zip" p) [ea, eb] [] pos) (LI (kx X xz) X.mg G W (.zip a b)) := by
  refine PI.imp (RZ.pi_zipA hg hm (pa_cons ha (pa_cons hb pa_nil hs2) hs) hs hpl) fun σ H Q ⟨ρ, Fz, Bz, f, re, wf, out⟩ => ?_
  simp only [evI] at out
  refine LE.sub (k := fun d ρ => R.ok d ρ) re (At.start wf) ?_ ?_ ?_
  · intro x ρ' e; rw [e] at out; exact out
  · intro e; rw [e] at out; exact out
  · intro x ρ1 e1 v H1 Fz1 fρ fd re1 rv s t
    rw [e1] at out
    simp only [R.bind] at out
    split at out
    · rename_i hn
      refine LE.sub (k := fun d ρ => R.ok d ρ) re1 t ?_ ?_ ?_
      · intro x ρ' e; rw [e] at out; exact out
      · intro e; rw [e] at out; exact out
      · intro y ρ2 e2 w H2 Fz2 fρ2 fd2 re2 rv2 s2 t2
        rw [e2] at out
        simp only at out
        have rv' := rv.frame (.inl hn) s2 (t.wf.cong fun b => by omega)
        have t' : At Bz false H Fz f H2 Fz2 fρ2 (fun b => fd b + fd2 b) := (t2.cong fun b => by omega).weak fun h => by cases h
        split at out
        · rename_i xs ys hx hy
          split at out
          · rename_i hk
            obtain ⟨a, vs, rfl, ⟨z, h⟩ | ⟨z, h⟩⟩ := src_of (ra := fun b => fd b + fd2 b) rv' hx fun b => by (try dsimp only); omega
            · obtain ⟨b, ws, rfl, ⟨z', h'⟩ | ⟨z', h'⟩⟩ := src_of (ra := fun b => fd b + fd2 b) rv2 hy fun b => by (try dsimp only); omega
              · exact ⟨a, b, vs, ws, rfl, .inl ⟨h.1, h'.1, out _ H2 Fz2 fρ2 _ re2 t' (ItOk.zipL h h') trivial⟩⟩
              · rw [z, z'] at hk; cases hk
            · obtain ⟨b, ws, rfl, ⟨z', h'⟩ | ⟨z', h'⟩⟩ := src_of (ra := fun b => fd b + fd2 b) rv2 hy fun b => by (try dsimp only); omega
              · rw [z, z'] at hk; cases hk
              · exact ⟨a, b, vs, ws, rfl, .inr ⟨h.1, h'.1, out _ H2 Fz2 fρ2 _ re2 t' (ItOk.zipT h h') trivial⟩⟩
          · exact out.elim
        · exact out.elim
    · exact out.elim
theorem rngL_get {lo : Int} {n i : Nat} {x : D} (h : (rngL lo n)[i]? = some x) : i < n ∧ x = .dat (.int (lo + (i : Int))) := by
  unfold rngL at h
  rw [List.getElem?_map] at h
  obtain ⟨k, e1, e2⟩ := Option.map_eq_some_iff.mp h
  have z : i < n := by
    by_cases z : i < n
    · exact z
    · rw [List.getElem?_eq_none (by simpa using z)] at e1; cases e1
  rw [List.getElem?_range z] at e1
  cases e1
  exact ⟨z, e2.symm⟩
theorem ItOk.rng {K : Kx} {Bz : Addr → Prop} {lo : Int} {n : Nat} {H1 : Hp} {Fz1 : Addr → Prop} {ra : Addr → Nat} : ItOk K Bz (Itr lo n) (rngL lo n) H1 Fz1 ra := by
  intro H' Fz' k m i
  refine ⟨fun l => by show n ≤ i; simpa [rngL] using l, fun x hx => ?_⟩
  obtain ⟨l, rfl⟩ := rngL_get hx
  exact ⟨l, trivial, fun v H'' ⟨e1, e2⟩ => ⟨.inl e1, by subst e2; exact .inl ⟨.dat (.int _) fun _ => rfl, rfl⟩⟩⟩
theorem li_rng1 {e : E} {ee : Expr} {p : Pos} (hg : Gl X "range") (hm : X.mg "range" = none) (he : PE X ee (LE (kx X xz) X.mg G W e)) (hs : starEach [ee] X.env = [(false, eval ee X.env)]) : PI X tg (.Call (.Name "range" p) [ee] [] pos) (LI (kx X xz) X.mg G W (.rng1 e)) := by
  refine PI.imp (pi_range1 hg hm (pa_cons he pa_nil hs) hs) fun σ H Q ⟨ρ, Fz, Bz, f, re, wf, out⟩ => ?_
  simp only [evI] at out
  refine LE.sub (k := fun d ρ => R.ok d ρ) re (At.start wf) ?_ ?_ ?_
  · intro x ρ' e; rw [e] at out; exact out
  · intro e; rw [e] at out; exact out
  · intro x ρ1 e1 v H1 Fz1 fρ fd re1 rv s t
    rw [e1] at out
    simp only [R.bind] at out
    split at out
    · split at out
      · rename_i j hj
        cases rv with
        | dat rp z =>
          have e := rp.int_inv; subst e
          obtain ⟨h1, h2⟩ := rngOk_b hj
          exact ⟨j, rfl, h1, h2, out _ H1 Fz1 fρ (fun _ => 0) re1 ((t.less fun b => by omega).weak fun h => by cases h) ItOk.rng trivial⟩
      · exact out.elim
    · exact out.elim
theorem li_rng2 {a b : E} {ea eb : Expr} {p : Pos} (hg : Gl X "range") (hm : X.mg "range" = none) (ha : PE X ea (LE (kx X xz) X.mg G W a)) (hb : PE X eb (LE (kx X xz) X.mg G W b)) (hs : starEach [ea, eb] X.env = [(false, eval ea X.env), (false, eval eb X.env)]) (hs2 : starEach [eb] X.env = [(false, eval eb X.env)]) :
    PI X tg (.Call (.Name "range" p) [ea, eb] [] pos) (LI (kx X xz) X.mg G W (.rng2 a b)) := by
  refine PI.imp (pi_range2 hg hm (pa_cons ha (pa_cons hb pa_nil hs2) (by rw [hs, hs2])) hs hs2) fun σ H Q ⟨ρ, Fz, Bz, f, re, wf, out⟩ => ?_
  simp only [evI] at out
  refine LE.sub (k := fun d ρ => R.ok d ρ) re (At.start wf) ?_ ?_ ?_
  · intro x ρ' e; rw [e] at out; exact out
  · intro e; rw [e] at out; exact out
  · intro x ρ1 e1 v H1 Fz1 fρ fd re1 rv s t
    rw [e1] at out
    simp only [R.bind] at out
    refine LE.sub (k := fun d ρ => R.ok d ρ) re1 t ?_ ?_ ?_
    · intro x ρ' e; rw [e] at out; exact out
    · intro e; rw [e] at out; exact out
    · intro y ρ2 e2 w H2 Fz2 fρ2 fd2 re2 rv2 s2 t2
      rw [e2] at out
      simp only at out
      split at out
      · rename_i i j
        split at out
        · rename_i hj
          rw [Bool.and_eq_true] at hj
          cases rv with
          | dat rp z =>
            cases rv2 with
            | dat rp2 z2 =>
              have e := rp.int_inv; subst e
              have e := rp2.int_inv; subst e
              obtain ⟨h1, h2⟩ := rngOk_b hj.1
              obtain ⟨h3, h4⟩ := rngOk_b hj.2
              exact ⟨i, j, rfl, ⟨h1, h2, h3, h4⟩, out _ H2 Fz2 fρ2 (fun _ => 0) re2 ((t2.less fun b => by omega).weak fun h => by cases h) ItOk.rng trivial⟩
        · exact out.elim
      · exact out.elim
theorem li_rrng1 {e : E} {ee : Expr} {p p2 pos2 : Pos} (hg : Gl X "range") (hm : X.mg "range" = none) (hg2 : Gl X "reversed") (hm2 : X.mg "reversed" = none) (he : PE X ee (LE (kx X xz) X.mg G W e)) (hs : starEach [ee] X.env = (false, eval ee X.env) :: starEach [] X.env)
    (hs2 : starEach [.Call (.Name "range" p) [ee] [] pos] X.env = (false, eval (.Call (.Name "range" p) [ee] [] pos) X.env) :: starEach [] X.env) :
    PI X tg (.Call (.Name "reversed" p2) [.Call (.Name "range" p) [ee] [] pos] [] pos2) (LI (kx X xz) X.mg G W (.rrng1 e)) := by
  refine PI.imp (pi_revR hg2 hm2 (prg_1 hg hm he hs) hs2) fun σ H Q ⟨ρ, Fz, Bz, f, re, wf, out⟩ => ?_
  simp only [evI] at out
  refine LE.sub (k := fun d ρ => R.ok d ρ) re (At.start wf) ?_ ?_ ?_
  · intro x ρ' e; rw [e] at out; exact out
  · intro e; rw [e] at out; exact out
  · intro x ρ1 e1 v H1 Fz1 fρ fd re1 rv s t
    rw [e1] at out
    simp only [R.bind] at out
    split at out
    · split at out
      · rename_i j hj
        cases rv with
        | dat rp z =>
          have e := rp.int_inv; subst e
          obtain ⟨h1, h2⟩ := rngOk_b hj
          refine ⟨j, rfl, by omega, by omega, h1, h2, out _ H1 Fz1 fρ (fun _ => 0) re1 ((t.less fun b => by omega).weak fun h => by cases h) ?_ trivial⟩
          intro H' Fz' k m i
          have ej : (j - 0).toNat = j.toNat := by rw [Int.sub_zero]
          rw [ej]
          refine ⟨fun l => by show j.toNat ≤ i; simpa [rrngL] using l, fun x hx => ?_⟩
          have hl : i < j.toNat ∧ x = .dat (.int ((j.toNat : Int) - 1 - (i : Int))) := by
            unfold rrngL at hx
            rw [List.getElem?_map] at hx
            obtain ⟨k, e1, e2⟩ := Option.map_eq_some_iff.mp hx
            have z : i < j.toNat := by
              by_cases z : i < j.toNat
              · exact z
              · rw [List.getElem?_eq_none (by simpa using z)] at e1; cases e1
            rw [List.getElem?_range z] at e1
            cases e1
            exact ⟨z, e2.symm⟩
          obtain ⟨l, rfl⟩ := hl
          refine ⟨l, trivial, fun v H'' ⟨e1, e2⟩ => ⟨.inl e1, ?_⟩⟩
          subst e2
          have e3 : (0 : Int) + ((j.toNat : Nat) : Int) - 1 + (i : Nat) * (-1) = (j.toNat : Int) - 1 - (i : Int) := by omega
          rw [e3]
          exact .inl ⟨.dat (.int _) fun _ => rfl, rfl⟩
      · exact out.elim
    · exact out.elim
end
end DE
end

section
set_option Elab.async false
set_option linter.all false
/-! DE14: comprehensions. -/
namespace DE
open PySem PySem.Spec PyProof.Rows L2

section
variable {K : Kx} {mg : Str → Option Value} {G : List Fn} {W : WX} {σ : L2.St} {Bz Bz' Fz0 Fz Fz1 Fz2 : Addr → Prop} {pu p q : Bool} {H0 H H1 H2 : Hp} {f0 f r f1 r1 f2 g : Addr → Nat} {ρ ρ1 ρ2 : Env}

theorem wipeE_length (ρ : Env) : ∀ vs : List Nat, (wipeE ρ vs).length = ρ.length
  | [] => rfl
  | v :: vs => by rw [wipeE, List.length_set, wipeE_length ρ vs]
theorem backE_length (ρ0 ρ : Env) : ∀ vs : List Nat, (backE ρ0 ρ vs).length = ρ.length
  | [] => rfl
  | v :: vs => by rw [backE, List.length_set, backE_length ρ0 ρ vs]
theorem wipeE_set {ρ : Env} {v : Nat} {d : D} : ∀ {vs : List Nat}, v ∉ vs → wipeE (ρ.set v d) vs = (wipeE ρ vs).set v d
  | [], _ => rfl
  | w :: vs, h => by
    simp only [List.mem_cons, not_or] at h
    rw [wipeE, wipeE, wipeE_set h.2, List.set_comm _ _ h.1]
theorem backE_set {ρ0 ρ : Env} {v : Nat} {d : D} : ∀ {vs : List Nat}, v ∉ vs → backE ρ0 (ρ.set v d) vs = (backE ρ0 ρ vs).set v d
  | [], _ => rfl
  | w :: vs, h => by
    simp only [List.mem_cons, not_or] at h
    rw [backE, backE, backE_set h.2, List.set_comm _ _ h.1]
theorem slot_set_ne {ρ : Env} {v w : Nat} {d : D} (h : w ≠ v) : slot (ρ.set w d) v = slot ρ v := by
  simp [slot, List.getD, List.getElem?_set_ne h]
theorem slot_wipeE {ρ : Env} {v : Nat} : ∀ {vs : List Nat}, v ∉ vs → slot (wipeE ρ vs) v = slot ρ v
  | [], _ => rfl
  | w :: vs, h => by
    simp only [List.mem_cons, not_or] at h
    rw [wipeE, slot_set_ne (fun e => h.1 e.symm), slot_wipeE h.2]
theorem wipe_out {σ : L2.St} {v : Nat} : ∀ {vs : List Nat}, v ∉ vs → (wipe σ vs)[v]? = σ[v]?
  | [], _ => rfl
  | w :: vs, h => by
    simp only [List.mem_cons, not_or] at h
    rw [wipe, List.getElem?_set_ne (fun e => h.1 e.symm), wipe_out h.2]
theorem wipe_in {σ : L2.St} {v : Nat} : ∀ {vs : List Nat}, v ∈ vs → v < σ.length → (wipe σ vs)[v]? = some none
  | [], h, _ => by cases h
  | w :: vs, h, l => by
    by_cases e : w = v
    · subst e
      rw [wipe, List.getElem?_set_self (by rw [wipe_length]; exact l)]
    · rw [wipe, List.getElem?_set_ne e]
      exact wipe_in ((List.mem_cons.mp h).resolve_left fun z => e z.symm) l
theorem wipe_eq {σ1 σ : L2.St} {vs : List Nat} (hl : σ1.length = σ.length) (h : ∀ j, j ∉ vs → σ1[j]? = (wipe σ vs)[j]?) : wipe σ1 vs = wipe σ vs := by
  apply List.ext_getElem?
  intro j
  by_cases hj : j ∈ vs
  · by_cases l : j < σ.length
    · rw [wipe_in hj l, wipe_in hj (by omega)]
    · rw [List.getElem?_eq_none (by rw [wipe_length]; omega), List.getElem?_eq_none (by rw [wipe_length]; omega)]
  · rw [wipe_out hj, h j hj]
theorem Rs.deadAny {o : Option V} : Rs K H Fz Bz o .dead (fun _ => 0) := .inl ⟨rfl, fun _ => rfl⟩
/-- the block's own slots forgotten, and given back -/
theorem wipe_ok : ∀ {vs : List Nat} {σ : L2.St} {ρ : Env} {f : Addr → Nat}, vs.Nodup → Re K H Fz Bz σ ρ f →
    ∃ fw g : Addr → Nat, Re K H Fz Bz (wipe σ vs) (wipeE ρ vs) g ∧ (∀ b, f b = fw b + g b) ∧
      ∀ (H' : Hp) (Fz' : Addr → Prop), (∀ b o, H b = some o → (Fz b ∨ Bz b ∨ ¬ Ow o) → H' b = some o) → (∀ b, Fz b → Fz' b) → (∀ b o, H b = some o → 1 ≤ fw b → H' b = some o) →
        ∀ (ρ' : Env) (g' : Addr → Nat), ρ'.length = ρ.length → Re K H' Fz' Bz (wipe σ vs) (wipeE ρ' vs) g' → Re K H' Fz' Bz σ (backE ρ ρ' vs) (fun b => fw b + g' b)
  | [], σ, ρ, f, _, re => ⟨fun _ => 0, f, re, fun b => by simp, fun H' Fz' k m kw ρ' g' _ re' => by
      have z : (fun b => 0 + g' b) = g' := funext fun b => by omega
      rw [z]; exact re'⟩
  | v :: vs, σ, ρ, f, nd, re => by
    obtain ⟨nv, nd'⟩ := List.nodup_cons.mp nd
    obtain ⟨fw0, g0, re0, hf0, back0⟩ := wipe_ok nd' re
    by_cases l : v < ρ.length
    · have l1 : v < (wipeE ρ vs).length := by rw [wipeE_length]; exact l
      obtain ⟨o, fi, g1, eo, rs, hs, rest⟩ := re0.split l1
      refine ⟨fun b => fw0 b + fi b, g1, ?_, fun b => by show f b = fw0 b + fi b + g1 b; rw [hf0, hs]; omega, fun H' Fz' k m kw ρ' g' hl re' => ?_⟩
      · have := rest.put (o := none) l1 Rs.deadAny (f := g1) fun b => by simp
        exact this
      · have l2 : v < (wipeE ρ' vs).length := by rw [wipeE_length, hl]; exact l
        have re1 : Re K H' Fz' Bz (wipe σ vs) (wipeE (ρ'.set v .dead) vs) g' := by
          have := Re.put (o := o) (d := .dead) (fi := fun _ => 0) (f := g') (show Re K H' Fz' Bz ((wipe σ vs).set v none) ((wipeE ρ' vs).set v .dead) g' from re') l2 Rs.deadAny fun b => by simp
          rw [List.set_set, set_get eo] at this
          rw [wipeE_set nv]
          exact this
        have re2 := back0 H' Fz' k m (fun b o e h => kw b o e (by show 1 ≤ fw0 b + fi b; omega)) (ρ'.set v .dead) g' (by rw [List.length_set]; exact hl) re1
        rw [backE_set nv] at re2
        have rs' : Rs K H' Fz' Bz o (slot ρ v) fi := by
          rw [slot_wipeE nv] at rs
          exact rs.keep k m fun b o e h => kw b o e (by show 1 ≤ fw0 b + fi b; omega)
        have eo' : σ[v]? = some o := by rw [← wipe_out nv]; exact eo
        exact re2.put' (by rw [backE_length, hl]; exact l) eo' rs' fun b => by show fw0 b + fi b + g' b = fi b + (fw0 b + g' b); omega
    · have hσ : σ.length = ρ.length := re.length
      have e1 : wipe σ (v :: vs) = wipe σ vs := List.set_eq_of_length_le (by rw [wipe_length]; omega)
      have e2 : ∀ ρ' : Env, ρ'.length = ρ.length → wipeE ρ' (v :: vs) = wipeE ρ' vs := fun ρ' h => List.set_eq_of_length_le (by rw [wipeE_length]; omega)
      refine ⟨fw0, g0, by rw [e1, e2 ρ rfl]; exact re0, hf0, fun H' Fz' k m kw ρ' g' hl re' => ?_⟩
      rw [e1, e2 ρ' hl] at re'
      have e3 : backE ρ ρ' (v :: vs) = backE ρ ρ' vs := List.set_eq_of_length_le (by rw [backE_length]; omega)
      rw [e3]
      exact back0 H' Fz' k m kw ρ' g' hl re'
theorem set_dead {ρ : Env} {j : Nat} (h : slot ρ j = .dead) : ρ.set j .dead = ρ := by
  apply List.ext_getElem?
  intro i
  by_cases e : j = i
  · subst e
    by_cases l : j < ρ.length
    · rw [List.getElem?_set_self l]
      unfold slot at h
      rw [List.getD_eq_getElem?_getD] at h
      rw [List.getElem?_eq_getElem l] at h ⊢
      simp only [Option.getD_some] at h
      rw [h]
    · rw [List.getElem?_eq_none (by rw [List.length_set]; omega), List.getElem?_eq_none (by omega)]
  · rw [List.getElem?_set_ne e]
/-- a shut slot is opened -/
theorem unlock_ok {w : Option (Nat × D)} {ra : Addr → Nat} {ρ' ρ3 : Env} (hL : Lk K H Fz Bz σ ρ w ra) (re : Re K H Fz Bz σ ρ' f) (hl : ρ'.length = ρ.length) (e : unlock w ρ' = some ρ3) : ∃ f3 : Addr → Nat, Re K H Fz Bz σ ρ3 f3 ∧ ∀ b, f3 b ≤ ra b + f b := by
  unfold unlock at e
  split at e
  · cases e; exact ⟨f, re, fun b => by omega⟩
  · rename_i j d
    obtain ⟨l, n, v, hv, rv⟩ := hL
    split at e
    · rename_i hd
      cases e
      have re' : Re K H Fz Bz σ (ρ'.set j .dead) f := by rw [set_dead hd]; exact re
      exact ⟨fun b => ra b + f b, re'.put' (by rw [hl]; exact l) hv (.inr ⟨v, rfl, n, rv⟩) fun b => rfl, fun b => Nat.le_refl _⟩
    · cases e
theorem compL_ex {own : List Nat} {t : T} {c e : Env → R D} : ∀ {items : List D} {ρ ρ' : Env} {x : D}, compL own t c e items ρ ≠ .ex x ρ'
  | [], _, _, _, h => by simp [compL] at h
  | y :: r, ρ, ρ', x, h => by
    rw [compL] at h
    split at h
    · cases h
    · rename_i ρ1 e1
      cases hc : (c ρ1).nox with
      | ex => cases h2 : c ρ1 <;> rw [h2] at hc <;> cases hc
      | no => rw [hc] at h; cases h
      | ok k ρ2 =>
        rw [hc] at h
        simp only [R.bind] at h
        split at h
        · cases he : (e ρ2).nox with
          | ex => cases h2 : e ρ2 <;> rw [h2] at he <;> cases he
          | no => rw [he] at h; cases h
          | ok z ρ3 =>
            rw [he] at h
            simp only at h
            split at h
            · cases hr : compL own t c e r ρ3 with
              | ok a b => rw [hr] at h; cases h
              | ex a b => exact compL_ex hr
              | no => rw [hr] at h; cases h
            · cases h
        · exact compL_ex h
        · cases h
theorem storeL_length : ∀ {is : List Nat} {ds : List D} {ρ ρ1 : Env}, storeT.storeL is ds ρ = some ρ1 → ρ1.length = ρ.length
  | [], [], _, _, e => by simp only [storeT.storeL, Option.some.injEq] at e; rw [e]
  | [], _ :: _, _, _, e => by simp [storeT.storeL] at e
  | _ :: _, [], _, _, e => by simp [storeT.storeL] at e
  | i :: is, d :: ds, ρ, _, e => by
    simp only [storeT.storeL] at e
    split at e
    · rw [storeL_length e, List.length_set]
    · cases e
theorem storeT_length {t : T} {x : D} {ρ ρ1 : Env} (e : storeT t x ρ = some ρ1) : ρ1.length = ρ.length := by
  cases t with
  | nm i =>
    simp only [storeT] at e
    split at e
    · split at e
      · cases e; rw [List.length_set]
      · cases e
    · cases e
  | tp is =>
    simp only [storeT] at e
    split at e
    · exact storeL_length e
    · exact storeL_length e
    · exact storeL_length e
    · cases e
/-- a test's part, with its step -/
theorem LT.subS {e : E} {Q : Bool → Hp → Prop} (re : Re K H Fz Bz σ ρ f) (t : At Bz p H0 Fz0 f0 H Fz f r)
    (hn : ∀ x ρ', evE G e ρ ≠ .no ∧ evE G e ρ ≠ .ex x ρ' ∧ (evE G e ρ = .ok x ρ' → ∃ k, x = .dat (.bool k)))
    (hok : ∀ k ρ', evE G e ρ = .ok (.dat (.bool k)) ρ' → ∀ H' Fz' fρ, Re K H' Fz' Bz σ ρ' fρ → Stp e.pure H Fz f H' Fz' fρ → At Bz (p && e.pure) H0 Fz0 f0 H' Fz' fρ r → Q k H') :
    LT K mg G W e σ H Q := by
  refine ⟨ρ, Fz, Bz, f, re, t.env, ?_⟩
  cases h : evE G e ρ with
  | ok d ρ' =>
    obtain ⟨k, rfl⟩ := (hn d ρ').2.2 h
    intro H' Fz' fρ re' a
    have a' := t.step a.stp a.wf
    exact hok k ρ' h H' Fz' fρ re' (a.stp.cong (fun _ => rfl) fun b => by omega) (a'.cong fun b => by omega)
  | ex x ρ' => exact ((hn x ρ').2.1 h).elim
  | no => exact ((hn .dead ρ).1 h).elim
/-- a comprehension's test -/
def LC (K : Kx) (mg : Str → Option Value) (G : List Fn) (W : WX) : O → TT
  | .none => tYes
  | .some e => LT K mg G W e
theorem LC.sub {c : O} {Q : Bool → Hp → Prop} (re : Re K H Fz Bz σ ρ f) (t : At Bz p H0 Fz0 f0 H Fz f r)
    (hn : ∀ x ρ', evC G c ρ ≠ .no ∧ evC G c ρ ≠ .ex x ρ' ∧ (evC G c ρ = .ok x ρ' → ∃ k, x = .dat (.bool k)))
    (hok : ∀ k ρ', evC G c ρ = .ok (.dat (.bool k)) ρ' → ∀ H' Fz' fρ, Re K H' Fz' Bz σ ρ' fρ → Stp false H Fz f H' Fz' fρ → At Bz false H0 Fz0 f0 H' Fz' fρ r → Q k H') :
    LC K mg G W c σ H Q := by
  cases c with
  | none =>
    simp only [evC] at hok
    exact hok true ρ rfl H Fz f re Stp.refl (t.weak fun h => by cases h)
  | some e =>
    simp only [evC] at hn hok
    exact LT.subS re t hn fun k ρ' e H' Fz' fρ re' s a => hok k ρ' e H' Fz' fρ re' (s.weak fun h => by cases h) (a.weak fun h => by cases h)
end
end DE
end

section
set_option Elab.async false
set_option linter.all false
/-! DE15: comprehensions as expressions. -/
namespace DE
open PySem PySem.Spec PyProof.Rows L2

abbrev Wn : WX := fun _ _ _ _ => False
section
variable {X : Cx} {xz : Xs} {G : List Fn} {W : WX} {pos : Pos} {tg : Expr}
/-- behind the items -/
def finL (vs : List Nat) (w : Option (Nat × D)) (ρ1 : Env) (ds : List PyData) (ρ2 : Env) : R D :=
  if fits ds.length then (match unlock w (backE ρ1 ρ2 vs) with
    | some ρ3 => .ok (dl ds) ρ3
    | none => .no) else .no
theorem comp_imp {elt : E} {t : T} {it : I} {c : O} {vs : List Nat} {σ : L2.St} {H : Hp} {Q : VK} (nd : vs.Nodup) (hsub : ∀ i ∈ t.slots, i ∈ vs) (h : LE (kx X xz) X.mg G W (.comp elt t it c vs) σ H Q) :
    tLc (LI (kx X xz) X.mg G W it) (TGt X.K t) (LC (kx X xz) X.mg G Wn c) (LE (kx X xz) X.mg G Wn elt) vs σ H Q := by
  obtain ⟨ρ, Fz, Bz, f, re, wf, out⟩ := h
  simp only [evE] at out
  refine ⟨ρ, Fz, Bz, f, re, wf, ?_⟩
  cases hI0 : evI G it ρ with
  | no => rw [hI0] at out; exact out.elim
  | ex x ρ' => rw [hI0] at out; exact out
  | ok w ρ1 =>
    rw [hI0] at out
    have out : Out (kx X xz) X.mg Bz σ false H Fz f W ((compL vs t (fun r => evC G c r) (fun r => evE G elt r) w.1 ρ1).bind fun ds ρ2 => finL vs w.2 ρ1 ds ρ2) Q := out
    intro J H1 Fz1 fρ ra re1 t1 hI hL D hD
    obtain ⟨fw, g1, re1w, hfw, back⟩ := wipe_ok nd re1
    have wf1 := t1.wf
    have hlen : σ.length = ρ1.length := re1.length
    -- the invariant
    generalize hcl : compL vs t (fun r => evC G c r) (fun r => evE G elt r) = CL at out
    let Wv : Nat → Nat → Hp → Prop := fun i m Hc => m = w.1.length - i ∧ i ≤ w.1.length ∧ ∃ (ρc : Env) (Fzc : Addr → Prop) (fc : Addr → Nat) (acc : List V) (ds : List PyData), ρc.length = ρ1.length ∧ Re (kx X xz) Hc Fzc Bz (wipe σ vs) (wipeE ρc vs) fc ∧ Hc D = some (.lst acc) ∧
      RpL X.K Hc Fzc acc ds ∧ At Bz false H Fz f Hc Fzc fc (fun b => ra b + fw b + if b = D then 1 else 0) ∧ (∀ b o, H1 b = some o → (Fz1 b ∨ Bz b ∨ ¬ Ow o ∨ 1 ≤ ra b ∨ 1 ≤ fw b) → Hc b = some o) ∧ (∀ b, Fz1 b → Fzc b) ∧
      Out (kx X xz) X.mg Bz σ false H Fz f W ((CL (w.1.drop i) ρc).bind fun ds2 ρ2 => finL vs w.2 ρ1 (ds ++ ds2) ρ2) Q
    refine ⟨Wv, ⟨w.1.length, ?_⟩, ?_⟩
    · refine ⟨by simp, Nat.zero_le _, ρ1, Fz1, g1, [], [], rfl, ?_, upd_same, .nil, ?_, ?_, fun _ h => h, ?_⟩
      · exact re1w.keep (fun b o e _ => by rw [upd_ne (ne_of_none e hD)]; exact e) (fun _ z => z) fun b o e _ => by rw [upd_ne (ne_of_none e hD)]; exact e
      · exact (t1.cong (g := g1) (r1 := fun b => ra b + fw b) fun b => by have := hfw b; omega).new hD trivial fun b => rfl
      · exact fun b o e _ => by rw [upd_ne (ne_of_none e hD)]; exact e
      · rw [List.drop_zero]
        exact out
    · rintro i m Hc ⟨rfl, hi, ρc, Fzc, fc, acc, ds, lc, reC, hDc, rpC, tC, kC, mC, outC⟩
      have kI : ∀ b o, H1 b = some o → (Fz1 b ∨ Bz b ∨ ¬ Ow o ∨ 1 ≤ ra b) → Hc b = some o := fun b o e z => kC b o e (by rcases z with z | z | z | z <;> simp [z])
      by_cases hlt : i < w.1.length
      · refine .inr ?_
        obtain ⟨x, hx⟩ : ∃ x, w.1[i]? = some x := ⟨w.1[i], List.getElem?_eq_getElem hlt⟩
        obtain ⟨go, nx, yl⟩ := (hI Hc Fzc kI mC i).2 x hx
        refine ⟨go, fun Hn => ∃ m', m' < w.1.length - i ∧ Wv (i + 1) m' Hn, fun H' z => z, fun v Hy y => ?_⟩
        obtain ⟨ext, rv⟩ := yl v Hy y
        have kY : ∀ b o, Hc b = some o → Hy b = some o := fun b o e => by
          rcases ext with rfl | ⟨q, o', hq, _, rfl⟩
          · exact e
          · rw [upd_ne (ne_of_none e hq)]; exact e
        have tY : At Bz false H Fz f Hy Fzc fc (fun b => ra b + fw b + if b = D then 1 else 0) := by
          rcases ext with rfl | ⟨q, o', hq, _, rfl⟩
          · exact tC
          · exact tC.lay hq
        have reY : Re (kx X xz) Hy Fzc Bz (wipe σ vs) (wipeE ρc vs) fc := reC.keep (fun b o e _ => kY b o e) (fun _ z => z) fun b o e _ => kY b o e
        have hDy : Hy D = some (.lst acc) := kY _ _ hDc
        have rpY : RpL X.K Hy Fzc acc ds := rpC.keep (fun b o e _ => kY b o e) fun _ z => z
        have dr : w.1.drop i = x :: w.1.drop (i + 1) := by
          rw [List.drop_eq_getElem_cons hlt]
          rw [List.getElem?_eq_getElem hlt] at hx
          cases hx; rfl
        rw [dr, ← hcl] at outC
        rw [compL] at outC
        cases hs : storeT t x (wipeE ρc vs) with
        | none => rw [hs] at outC; exact outC.elim
        | some ρs =>
          rw [hs] at outC
          simp only at outC
          refine store_ri hs rv reY fun σ1 f1 re2 le1 same => ?_
          have l1 : σ1.length = σ.length := by rw [re2.length, storeT_length hs, wipeE_length, lc, hlen]
          have wq : wipe σ1 vs = wipe σ vs := wipe_eq l1 fun j hj => same j fun z => hj (hsub j z)
          refine ⟨wq, ?_⟩
          have tS : At Bz false H Fz f Hy Fzc f1 (fun b => ra b + fw b + if b = D then 1 else 0) := tY.less fun b => by have := le1 b; omega
          -- the test
          refine LC.sub re2 tS ?_ ?_
          · intro x' ρ'
            refine ⟨fun e => ?_, fun e => ?_, fun e => ?_⟩
            · rw [e] at outC; exact outC
            · rw [e] at outC; exact outC
            · rw [e] at outC
              cases x' with
              | dat d => cases d with
                | bool b => exact ⟨b, rfl⟩
                | _ => exact False.elim outC
              | _ => exact False.elim outC
          · intro k ρ2 ek H3 Fz3 f3 re3 s3 t3
            rw [ek] at outC
            simp only [R.nox, R.bind] at outC
            have keep3 : ∀ b o, Hy b = some o → f1 b = 0 → H3 b = some o := fun b o e z => s3.keep b o e (.inl z)
            have notF : ∀ b o, Hy b = some o → (Fzc b ∨ Bz b ∨ ¬ Ow o ∨ 1 ≤ ra b ∨ 1 ≤ fw b ∨ b = D) → f1 b = 0 := fun b o e z => by
              have w1 := tS.wf.lin b
              (try dsimp only at w1)
              rcases z with z | z | z | z | z | z
              · have := (tS.wf.fz b z).1; (try dsimp only at this); omega
              · have := (tS.wf.bz b z).1; (try dsimp only at this); omega
              · by_cases y : 1 ≤ f1 b
                · obtain ⟨o', e', ow⟩ := tS.wf.own b (by (try dsimp only); omega)
                  rw [e] at e'; cases e'; exact absurd ow z
                · omega
              · omega
              · omega
              · rw [if_pos z] at w1; omega
            have hD3 : H3 D = some (.lst acc) := keep3 _ _ hDy (notF _ _ hDy (by simp))
            have rp3 : RpL X.K H3 Fz3 acc ds := rpY.keep (fun b o e z => keep3 b o e (notF b o e (by rcases z with z | z <;> simp [z]))) s3.mono
            have k3 : ∀ b o, H1 b = some o → (Fz1 b ∨ Bz b ∨ ¬ Ow o ∨ 1 ≤ ra b ∨ 1 ≤ fw b) → H3 b = some o := fun b o e z => by
              have e' := kY b o (kC b o e z)
              refine keep3 b o e' (notF b o e' ?_)
              rcases z with z | z | z | z | z
              · exact .inl (mC b z)
              all_goals simp [z]
            have m3 : ∀ b, Fz1 b → Fz3 b := fun b z => s3.mono b (mC b z)
            have l2 : ρ2.length = ρ1.length := by have := re3.length; omega
            cases k with
            | false =>
              rw [if_neg (by decide)]
              refine ⟨w.1.length - (i + 1), by omega, rfl, hlt, ρ2, Fz3, ?_⟩
              obtain ⟨fw3, g3, re3w, hf3, _⟩ := wipe_ok nd re3
              rw [wq] at re3w
              refine ⟨g3, acc, ds, l2, re3w, hD3, rp3, t3.less fun b => by have := hf3 b; omega, k3, m3, ?_⟩
              rw [← hcl]
              exact outC
            | true =>
              rw [if_pos rfl]
              refine LE.sub (k := fun d ρ => R.ok d ρ) re3 t3 ?_ ?_ ?_
              · intro x' ρ' e; rw [e] at outC; exact outC.elim
              · intro e; rw [e] at outC; exact outC.elim
              · intro z ρ3 ez yv H4 Fz4 f4 fd re4 rv4 s4 t4
                rw [ez] at outC
                simp only at outC
                cases hz : z.fz with
                | none => rw [hz] at outC; exact outC.elim
                | some d =>
                  rw [hz] at outC
                  simp only at outC
                  have keep4 : ∀ b o, H3 b = some o → f3 b = 0 → H4 b = some o := fun b o e z => s4.keep b o e (.inl z)
                  have notF4 : ∀ b o, H3 b = some o → (Fz3 b ∨ Bz b ∨ ¬ Ow o ∨ 1 ≤ ra b ∨ 1 ≤ fw b ∨ b = D) → f3 b = 0 := fun b o e z => by
                    have w1 := t3.wf.lin b
                    (try dsimp only at w1)
                    rcases z with z | z | z | z | z | z
                    · have := (t3.wf.fz b z).1; (try dsimp only at this); omega
                    · have := (t3.wf.bz b z).1; (try dsimp only at this); omega
                    · by_cases y : 1 ≤ f3 b
                      · obtain ⟨o', e', ow⟩ := t3.wf.own b (by (try dsimp only); omega)
                        rw [e] at e'; cases e'; exact absurd ow z
                      · omega
                    · omega
                    · omega
                    · rw [if_pos z] at w1; omega
                  have hD4 : H4 D = some (.lst acc) := keep4 _ _ hD3 (notF4 _ _ hD3 (by simp))
                  -- the rest of the run ends well
                  have fitN : acc.length < sizeLine := by
                    revert outC
                    cases hr : compL vs t (fun r => evC G c r) (fun r => evE G elt r) (w.1.drop (i + 1)) ρ3 with
                    | no => intro o; exact o.elim
                    | ex a b => exact (compL_ex hr).elim
                    | ok ds2 ρ4 =>
                      intro o
                      simp only [R.bind, finL] at o
                      split at o
                      · rename_i hf
                        have := fits_line hf
                        rw [rpC.length]
                        simp only [List.length_append, List.length_cons] at this
                        omega
                      · exact o.elim
                  refine ⟨acc, hD4, fitN, w.1.length - (i + 1), by omega, rfl, hlt, ρ3, fun b => Fz4 b ∨ 1 ≤ fd b, ?_⟩
                  obtain ⟨fw4, g4, re4w, hf4, _⟩ := wipe_ok nd re4
                  rw [wq] at re4w
                  have rp4 : RpL X.K H4 (fun b => Fz4 b ∨ 1 ≤ fd b) acc ds := rp3.keep (fun b o e z => keep4 b o e (notF4 b o e (by rcases z with z | z <;> simp [z]))) fun b z => .inl (s4.mono b z)
                  have t5 := t4.freeze (r1 := fun b => ra b + fw b + if b = D then 1 else 0) (g := fd) fun b => rfl
                  -- the write
                  have w5 := t5.wf
                  have lin5 : ∀ b, f4 b + (ra b + fw b + if b = D then 1 else 0) ≤ 1 := fun b => w5.lin b
                  have up : ∀ b o, b ≠ D → H4 b = some o → (upd H4 D (.lst (acc ++ [yv]))) b = some o := fun b o n e => by rw [upd_ne n]; exact e
                  have nD : ∀ b o, H4 b = some o → ((Fz4 b ∨ 1 ≤ fd b) ∨ Bz b ∨ ¬ Ow o) → b ≠ D := fun b o e z eq => by
                    subst eq
                    rcases z with z | z | z
                    · have := (w5.fz b z).1; (try dsimp only at this); rw [if_pos rfl] at this; omega
                    · have := (w5.bz b z).1; (try dsimp only at this); rw [if_pos rfl] at this; omega
                    · rw [hD4] at e; cases e; exact z trivial
                  have re5 : Re (kx X xz) (upd H4 D (.lst (acc ++ [yv]))) (fun b => Fz4 b ∨ 1 ≤ fd b) Bz (wipe σ vs) (wipeE ρ3 vs) g4 :=
                    (re4w.monoF fun b h => .inl h).keep (fun b o e z => up b o (nD b o e z) e) (fun _ z => z) fun b o e z => up b o (fun eq => by subst eq; have := lin5 b; rw [if_pos rfl] at this; have := hf4 b; omega) e
                  refine ⟨g4, acc ++ [yv], ds ++ [d], by have := re4.length; omega, re5, upd_same, ?_, ?_, ?_, fun b z => .inl (s4.mono b (m3 b z)), ?_⟩
                  · exact (rp4.append (.cons (rv4.freeze hz) .nil)).keep (fun b o e z => up b o (nD b o e (z.elim .inl fun z => .inr (.inr z))) e) fun _ z => z
                  · exact t5.write hD4 (by (try dsimp only); rw [if_pos rfl]; omega) trivial fun b => by have := hf4 b; (try dsimp only); omega
                  · intro b o e z
                    have e3 := k3 b o e z
                    have e4 : H4 b = some o := keep4 b o e3 (notF4 b o e3 (by
                      rcases z with z | z | z | z | z
                      · exact .inl (m3 b z)
                      all_goals simp [z]))
                    refine up b o (fun eq => ?_) e4
                    subst eq
                    rw [hD] at e; cases e
                  · rw [← hcl]
                    have z : ∀ r : R (List PyData), ((r.bind fun ds2 ρ4 => R.ok (d :: ds2) ρ4).bind fun ds2 ρ4 => finL vs w.2 ρ1 (ds ++ ds2) ρ4) = r.bind fun ds2 ρ4 => finL vs w.2 ρ1 (ds ++ [d] ++ ds2) ρ4 := fun r => by
                      cases r with
                      | ok a b => simp only [R.bind, List.append_assoc, List.singleton_append]
                      | ex a b => rfl
                      | no => rfl
                    rw [← z]
                    exact outC
      · have ei : i = w.1.length := by omega
        subst ei
        refine .inl ⟨(hI Hc Fzc kI mC _).1 (Nat.le_refl _), ?_⟩
        rw [List.drop_length, ← hcl] at outC
        simp only [compL, R.bind, List.append_nil, finL] at outC
        split at outC
        · rename_i hf
          cases hu : unlock w.2 (backE ρ1 ρc vs) with
          | none => rw [hu] at outC; exact outC.elim
          | some ρ3 =>
            rw [hu] at outC
            have reB := back Hc Fzc (fun b o e z => kC b o e (by rcases z with z | z | z <;> simp [z])) mC (fun b o e z => kC b o e (by simp [z])) ρc fc lc reC
            have hL' : Lk (kx X xz) Hc Fzc Bz σ ρ1 w.2 ra := by
              unfold Lk at hL ⊢
              split
              · trivial
              · rename_i j d hw
                rw [hw] at hL
                obtain ⟨l, n, v, hv, rv⟩ := hL
                exact ⟨l, n, v, hv, rv.keep (fun b o e z => kC b o e (by rcases z with z | z | z <;> simp [z])) mC n fun b o e z => kC b o e (by simp [z])⟩
            obtain ⟨f3, re3, le3⟩ := unlock_ok hL' reB (by rw [backE_length]; exact lc) hu
            exact outC (.ref D) Hc Fzc f3 (fun b => if b = D then 1 else 0) re3 (.lst hDc (RvL.dats rpC) fun b => by simp) (tC.less fun b => by have := le3 b; (try dsimp only); (try dsimp only at this); omega)
        · exact outC.elim
theorem le_comp {elt : E} {t : T} {it : I} {c : O} {eelt iter : Expr} {ifs : List Expr} {scope : Scope} {own : List (Str × Nat)} (hc : X.calm = true) (hN : X.N.Nodup) (hi : PI X tg iter (LI (kx X xz) X.mg G W it)) (ok : BlkOk X.N X.env.scope scope own)
    (hg : ∀ (s : Shared) (H : Hp) (C : Addr) (cl : List (Str × Addr)) (fp : List Addr), PG (X.blk s H scope (compEnvC scope cl C X.env) fp) tg (TGt X.K t)) (ht : ∀ (s : Shared) (H : Hp) (C : Addr) (cl : List (Str × Addr)) (fp : List Addr), PTs (X.blk s H scope (compEnvC scope cl C X.env) fp) ifs (LC (kx X xz) X.mg G Wn c))
    (he : ∀ (s : Shared) (H : Hp) (C : Addr) (cl : List (Str × Addr)) (fp : List Addr), PE (X.blk s H scope (compEnvC scope cl C X.env) fp) eelt (LE (kx X xz) X.mg G Wn elt)) (hs : ∀ x, foldedSetIterable iter X.env x = pure x)
    (nd : (own.map (·.2)).Nodup) (hsub : ∀ i ∈ t.slots, i ∈ own.map (·.2)) : PE X (.ListComp eelt [⟨tg, iter, ifs, 0⟩] scope pos) (LE (kx X xz) X.mg G W (.comp elt t it c (own.map (·.2)))) :=
  PE.imp (pe_lc hc hN hi ok hg ht he hs) fun σ H Q h => comp_imp nd hsub h
end
end DE
end

section
set_option Elab.async false
set_option linter.all false
/-! DE15b: comprehensions whose elements change nothing, and make new things. -/
namespace DE
open PySem PySem.Spec PyProof.Rows L2

section
variable {K : Kx} {mg : Str → Option Value} {G : List Fn} {W : WX} {σ : L2.St} {Bz Bz' Bz1 Fz0 Fz Fz' Fz1 Fz2 : Addr → Prop} {pu p q : Bool} {H0 H H1 H2 : Hp} {f0 f r f1 r1 f2 g : Addr → Nat} {ρ ρ1 ρ2 : Env}
mutual
theorem Rv.uniq : ∀ {v : V} {d : D} {f f' : Addr → Nat}, Rv K H Fz Bz v d f → Rv K H Fz' Bz' v d f' → ∀ b, f b = f' b
  | _, _, _, _, .dat _ z, h2, b => by cases h2 with | dat _ z' => rw [z, z']
  | _, _, _, _, .bor _ z, h2, b => by cases h2 with | bor _ z' => rw [z, z']
  | _, _, _, _, .tr _ z, h2, b => by cases h2 with | tr _ z' => rw [z, z']
  | _, _, _, _, .lst h r q, h2, b => by
    cases h2 with
    | lst h' r' q' =>
      rw [h] at h'
      cases h'
      rw [q, q', RvL.uniq r r' b]
  | _, _, _, _, .dct h e r q, h2, b => by
    cases h2 with
    | dct h' e' r' q' =>
      rw [h] at h'
      cases h'
      rw [q, q', RvL.uniq r r' b]
  | _, _, _, _, .dtt h r q, h2, b => by cases h2 with | dtt h' r' q' => rw [q, q']
  | _, _, _, _, .ins h c e r q, h2, b => by
    cases h2 with
    | ins h' c' e' r' q' =>
      rw [h] at h'
      cases h'
      rw [q, q', RvL.uniq r r' b]
  | _, _, _, _, .exc _ _ _ z, h2, b => by cases h2 with | exc _ _ _ z' => rw [z, z']
  | _, _, _, _, .dead z, h2, b => by cases h2 with | dead z' => rw [z, z']
theorem RvL.uniq : ∀ {vs : List V} {ds : List D} {f f' : Addr → Nat}, RvL K H Fz Bz vs ds f → RvL K H Fz' Bz' vs ds f' → ∀ b, f b = f' b
  | _, _, _, _, .nil z, h2, b => by cases h2 with | nil z' => rw [z, z']
  | _, _, _, _, .cons r t q, h2, b => by
    cases h2 with
    | cons r' t' q' => rw [q, q', Rv.uniq r r' b, RvL.uniq t t' b]
end
theorem Rs.uniq {o : Option V} {d : D} {f f' : Addr → Nat} (h : Rs K H Fz Bz o d f) (h' : Rs K H Fz' Bz' o d f') : ∀ b, f b = f' b := by
  rcases h with ⟨e, z⟩ | ⟨v, e, _, r⟩ <;> rcases h' with ⟨e', z'⟩ | ⟨v', e2, _, r'⟩
  · exact fun b => by rw [z, z']
  · subst e
    cases r' with | dead z2 => exact fun b => by rw [z, z2]
  · subst e'
    cases r with | dead z2 => exact fun b => by rw [z', z2]
  · rw [e] at e2
    cases e2
    exact r.uniq r'
theorem Re.uniq : ∀ {s : L2.St} {r : Env} {f f' : Addr → Nat}, Re K H Fz Bz s r f → Re K H Fz' Bz' s r f' → ∀ b, f b = f' b
  | _, _, _, _, .nil z, h2, b => by cases h2 with | nil z' => rw [z, z']
  | _, _, _, _, .cons r t q, h2, b => by
    cases h2 with
    | cons r' t' q' => rw [q, q', Rs.uniq r r' b, Re.uniq t t' b]
mutual
/-- what is owned leans on nothing borrowed -/
theorem Rv.anyB : ∀ {v : V} {d : D} {f : Addr → Nat}, Rv K H Fz Bz v d f → d.own = true → Rv K H Fz Bz' v d f
  | _, _, _, .dat h z, _ => .dat h z
  | _, _, _, .bor h z, n => by simp [D.own] at n
  | _, _, _, .tr h z, n => by simp [D.own] at n
  | _, _, _, .lst h r q, n => .lst h (RvL.anyB r (by simpa [D.own] using n)) q
  | _, _, _, .dct h e r q, n => .dct h e (RvL.anyB r (by rw [← ownK_map]; simpa [D.own] using n)) q
  | _, _, _, .dtt h r q, n => .dtt h r q
  | _, _, _, .ins h c e r q, n => .ins h c e (RvL.anyB r (by rw [← ownF_map]; simpa [D.own] using n)) q
  | _, _, _, .exc x c r z, n => by simp [D.own] at n
  | _, _, _, .dead z, n => by simp [D.own] at n
theorem RvL.anyB : ∀ {vs : List V} {ds : List D} {f : Addr → Nat}, RvL K H Fz Bz vs ds f → D.ownL ds = true → RvL K H Fz Bz' vs ds f
  | _, _, _, .nil z, _ => .nil z
  | _, _, _, .cons r t q, n => by
    rw [D.ownL, Bool.and_eq_true] at n
    exact .cons (Rv.anyB r n.1) (RvL.anyB t n.2) q
end
theorem Rs.bmono (m : ∀ b, Bz b → Bz' b) {o : Option V} {d : D} {f : Addr → Nat} (h : Rs K H Fz Bz o d f) : Rs K H Fz Bz' o d f := by
  rcases h with h | ⟨v, e, n, r⟩
  · exact .inl h
  · exact .inr ⟨v, e, n, r.bmono m⟩
theorem Re.bmono (m : ∀ b, Bz b → Bz' b) : ∀ {s : L2.St} {r : Env} {f : Addr → Nat}, Re K H Fz Bz s r f → Re K H Fz Bz' s r f
  | _, _, _, .nil z => .nil z
  | _, _, _, .cons r t q => .cons (Rs.bmono m r) (Re.bmono m t) q
/-- more is owned, all of it new -/
theorem Wf.grow {H4 : Hp} {Fz4 : Addr → Prop} {F fd : Addr → Nat} (w : Wf H Fz Bz F) (keep : ∀ b o, H b = some o → H4 b = some o) (new : ∀ b, 1 ≤ fd b → H b = none) (one : ∀ b, fd b ≤ 1) (ow : ∀ b, 1 ≤ fd b → ∃ o, H4 b = some o ∧ Ow o)
    (fz : ∀ b, Fz4 b → (Fz b ∨ H b = none) ∧ fd b = 0 ∧ ∃ o, H4 b = some o) : Wf H4 Fz4 Bz (fun b => F b + fd b) := by
  have n0 : ∀ b, H b = none → F b = 0 := fun b e => by
    by_cases h : 1 ≤ F b
    · obtain ⟨o, h, _⟩ := w.own b h
      rw [e] at h; cases h
    · omega
  refine ⟨fun b => ?_, fun b h => ?_, fun b h => ?_, fun b h => ?_⟩
  · show F b + fd b ≤ 1
    by_cases h : 1 ≤ fd b
    · rw [n0 b (new b h)]; have := one b; omega
    · have := w.lin b; omega
  · have h : 1 ≤ F b + fd b := h
    by_cases h1 : 1 ≤ F b
    · obtain ⟨o, e, ow⟩ := w.own b h1
      exact ⟨o, keep b o e, ow⟩
    · exact ow b (by omega)
  · obtain ⟨a, c, d⟩ := fz b h
    refine ⟨?_, d⟩
    show F b + fd b = 0
    rcases a with a | a
    · have := (w.fz b a).1; omega
    · have := n0 b a; omega
  · obtain ⟨a, o, e⟩ := w.bz b h
    refine ⟨?_, o, keep b o e⟩
    show F b + fd b = 0
    by_cases h : 1 ≤ fd b
    · rw [new b h] at e; cases e
    · omega
theorem ownL_append : ∀ {l m : List D}, D.ownL l = true → D.ownL m = true → D.ownL (l ++ m) = true
  | [], _, _, h => h
  | c :: l, m, h, h' => by
    rw [D.ownL, Bool.and_eq_true] at h
    rw [List.cons_append, D.ownL, h.1, ownL_append h.2 h']; rfl
/-- the source -/
def OutSr (K : Kx) (mg : Str → Option Value) (Bz : Addr → Prop) (σ : L2.St) (H : Hp) (Fz : Addr → Prop) (f : Addr → Nat) (W : WX) (r : R (List D × Env)) (Q : It → Hp → Prop) : Prop :=
  match r with
  | .ok w ρ => ∀ J H' Fz' Bz1 fρ fb ra, Re K H' Fz' Bz σ ρ fρ → Re K H' Fz' Bz1 σ w.2 fb → (∀ b, Bz b → Bz1 b) → (∀ b, fρ b ≤ fb b + ra b) → Wf H' Fz' Bz1 fb → At Bz false H Fz f H' Fz' fb ra → ItOk K Bz1 J w.1 H' Fz' ra → Q J H'
  | .ex x ρ => ∀ cls dx H' Fz' fρ, Re K H' Fz' Bz σ ρ fρ → Ex K H' Fz' x cls dx → At Bz false H Fz f H' Fz' fρ (fun _ => 0) → W cls dx σ H'
  | .no => False
def LSr (K : Kx) (mg : Str → Option Value) (G : List Fn) (W : WX) (it : I) : TI := fun σ H Q => ∃ ρ Fz Bz f, Re K H Fz Bz σ ρ f ∧ Wf H Fz Bz f ∧ OutSr K mg Bz σ H Fz f W (evS G it ρ) Q
end
section
variable {X : Cx} {xz : Xs} {G : List Fn} {W : WX} {pos : Pos} {tg : Expr}
theorem ls_val {e : E} {ee : Expr} (he : PI X tg ee (LI (kx X xz) X.mg G W (.val e))) : PI X tg ee (LSr (kx X xz) X.mg G W (.val e)) := by
  refine PI.imp he fun σ H Q ⟨ρ, Fz, Bz, f, re, wf, out⟩ => ⟨ρ, Fz, Bz, f, re, wf, ?_⟩
  simp only [evS] at out
  simp only [evI]
  cases h : evE G e ρ with
  | no => rw [h] at out; exact out
  | ex x ρ' => rw [h] at out; exact out
  | ok x ρ' =>
    rw [h] at out
    simp only [R.bind] at out ⊢
    cases hi : itemsV x with
    | none => rw [hi] at out; exact out
    | some xs =>
      rw [hi] at out
      intro J H' Fz' fρ ra re' t io _
      exact out J H' Fz' Bz fρ fρ ra re' re' (fun _ h => h) (fun b => by omega) t.env t io
theorem ls_bor {p : P} {ee : Expr} (he : PE X ee (LP (kx X xz) X.mg G W p)) : PI X tg ee (LSr (kx X xz) X.mg G W (.bor p)) := by
  refine PI.imp (pi_seq he) fun σ H Q ⟨ρ, Fz, Bz, f, re, wf, out⟩ => ?_
  simp only [evS] at out
  refine LP.sub re (At.start wf) ?_ ?_ ?_
  · intro x ρ' e; rw [e] at out; exact out
  · intro e; rw [e] at out; exact out
  · intro q ρ1 e1 u v x H1 Fz1 fρ re1 s t hv hp hg hx
    rw [e1] at out
    simp only [R.bind] at out
    rw [hg] at out
    cases x with
    | lst xs =>
      simp only at out
      cases hd : D.viewL xs with
      | none => rw [hd] at out; exact out.elim
      | some ds =>
        rw [hd] at out
        have ns := live_slot hg hx
        have l := slot_lt ns
        obtain ⟨o, fi, g0, eo, rs, hf, rest⟩ := re1.split l
        rcases rs with ⟨z, _⟩ | ⟨w, z, n, rv⟩
        · exact (ns z).elim
        · subst z
          rw [hv] at eo
          cases eo
          obtain ⟨u', fx, gx, hp', ru, ntx, hsx, _⟩ := rv.path q.2 hg n
          have eu := PathV.fun hp hp'
          subst eu
          obtain ⟨a, vs, g2, rfl, h3, h4, h5⟩ := ru.lst_inv
          have ntl : D.ntrL xs = true := by simpa [D.ntr] using ntx
          have bs : ∀ b, Bz b → (Bz b ∨ 1 ≤ fi b) := fun _ h => .inl h
          have rp : RvL (kx X xz) H1 Fz1 (fun b => Bz b ∨ 1 ≤ fi b) vs (ds.map borD) (fun _ => 0) := RpL.bors (fun b z => by
            rcases z with z | z | z
            · exact .inl z
            · exact .inr (.inl z)
            · exact .inr (.inr (by rw [hsx, h5]; omega))) (RvL.lookS h4 ntl hd)
          have w1 := t.wf
          have lin : ∀ b, fi b + g0 b ≤ 1 := fun b => by have := w1.lin b; have := hf b; (try dsimp only at *); omega
          have wb : Wf H1 Fz1 (fun b => Bz b ∨ 1 ≤ fi b) g0 := by
            refine ⟨fun b => by have := lin b; omega, fun b h => w1.own b (by show 1 ≤ fρ b + 0; have := hf b; omega), fun b h => ?_, fun b h => ?_⟩
            · obtain ⟨c, d⟩ := w1.fz b h
              exact ⟨by have := hf b; (try dsimp only at c); omega, d⟩
            · rcases h with h | h
              · obtain ⟨c, d⟩ := w1.bz b h
                exact ⟨by have := hf b; (try dsimp only at c); omega, d⟩
              · obtain ⟨o, e, _⟩ := w1.own b (by show 1 ≤ fρ b + 0; have := hf b; omega)
                exact ⟨by have := lin b; omega, o, e⟩
          refine ⟨a, rfl, .inl ⟨vs, SqL.of h3, out _ H1 Fz1 (fun b => Bz b ∨ 1 ≤ fi b) fρ g0 fi re1 (rest.bmono bs) bs (fun b => by rw [hf]; omega) wb ((t.cong fun b => by rw [hf]; omega).weak fun h => by cases h) (ItOk.list (ntrL_bors ds) fun H' Fz' k m => ⟨SqL.of (k a _ h3 (.inr (.inr (.inr (by rw [hsx, h5, if_pos rfl]; omega))))), ?_⟩)⟩⟩
          exact rp.keep (fun b o e z => k b o e (by rcases z with z | z | z <;> simp [z])) m (ntrL_bors ds) fun b o e z => by omega
    | _ => exact out.elim
theorem compP_imp {elt : E} {t : T} {it : I} {vs : List Nat} {σ : L2.St} {H : Hp} {Q : VK} (nd : vs.Nodup) (hsub : ∀ i ∈ t.slots, i ∈ vs) (h : LE (kx X xz) X.mg G W (.compP elt t it vs) σ H Q) :
    tLc (LSr (kx X xz) X.mg G W it) (TGt X.K t) tYes (LE (kx X xz) X.mg G Wn elt) vs σ H Q := by
  obtain ⟨ρ, Fz, Bz, f, re, wf, out⟩ := h
  simp only [evE] at out
  refine ⟨ρ, Fz, Bz, f, re, wf, ?_⟩
  cases hI0 : evS G it ρ with
  | no => rw [hI0] at out; exact out.elim
  | ex x ρ' => rw [hI0] at out; exact out
  | ok w ρ1 =>
    rw [hI0] at out
    simp only [R.bind] at out
    cases hm : mapP vs t (fun r => evE G elt r) w.1 w.2 with
    | none => rw [hm] at out; exact out.elim
    | some zs =>
      rw [hm] at out
      simp only at out
      by_cases hpf : (elt.pure && fits zs.length) = true
      · rw [if_pos hpf] at out
        rw [Bool.and_eq_true] at hpf
        obtain ⟨hp, hfits⟩ := hpf
        have hfits := fits_line hfits
        intro J H1 Fz1 Bz1 fρ fb ra reρ reb sb le wfb t1 hI D hD
        obtain ⟨fw, gw, rew, hfw, _⟩ := wipe_ok nd reb
        have hlen : σ.length = w.2.length := reb.length
        let Wv : Nat → Nat → Hp → Prop := fun i m Hc => m = w.1.length - i ∧ i ≤ w.1.length ∧ ∃ (Fzc : Addr → Prop) (g : Addr → Nat) (acc : List V) (z1 z2 : List DE.D), zs = z1 ++ z2 ∧ mapP vs t (fun r => evE G elt r) (w.1.drop i) w.2 = some z2 ∧ Hc D = some (.lst acc) ∧
          RvL (kx X xz) Hc Fzc Bz acc z1 g ∧ DE.D.ownL z1 = true ∧ (∀ b o, H1 b = some o → Hc b = some o) ∧ (∀ b, Fz1 b → Fzc b) ∧ Wf Hc Fzc Bz1 (fun b => fb b + (g b + if b = D then 1 else 0)) ∧ At Bz false H Fz f Hc Fzc fb (fun b => ra b + (g b + if b = D then 1 else 0))
        refine ⟨Wv, ⟨w.1.length, ?_⟩, ?_⟩
        · refine ⟨by simp, Nat.zero_le _, Fz1, fun _ => 0, [], [], zs, rfl, by rw [List.drop_zero]; exact hm, upd_same, .nil fun _ => rfl, rfl, fun b o e => by rw [upd_ne (ne_of_none e hD)]; exact e, fun _ h => h, ?_, ?_⟩
          · exact (wfb.new (o := .lst []) hD trivial).cong fun b => by simp
          · exact t1.new hD trivial fun b => by simp
        · rintro i m Hc ⟨rfl, hi, Fzc, g, acc, z1, z2, ez, hz2, hDc, rvA, own1, kC, mC, wfC, tC⟩
          have kI : ∀ b o, H1 b = some o → (Fz1 b ∨ Bz1 b ∨ ¬ Ow o ∨ 1 ≤ ra b) → Hc b = some o := fun b o e _ => kC b o e
          by_cases hlt : i < w.1.length
          · refine .inr ?_
            obtain ⟨x, hx⟩ : ∃ x, w.1[i]? = some x := ⟨w.1[i], List.getElem?_eq_getElem hlt⟩
            obtain ⟨go, nx, yl⟩ := (hI Hc Fzc kI mC i).2 x hx
            refine ⟨go, fun Hn => ∃ m', m' < w.1.length - i ∧ Wv (i + 1) m' Hn, fun H' z => z, fun v Hy y => ?_⟩
            obtain ⟨ext, rv⟩ := yl v Hy y
            have kY : ∀ b o, Hc b = some o → Hy b = some o := fun b o e => by
              rcases ext with rfl | ⟨q, o', hq, _, rfl⟩
              · exact e
              · rw [upd_ne (ne_of_none e hq)]; exact e
            have tY : At Bz false H Fz f Hy Fzc fb (fun b => ra b + (g b + if b = D then 1 else 0)) := by
              rcases ext with rfl | ⟨q, o', hq, _, rfl⟩
              · exact tC
              · exact tC.lay hq
            have wfY : Wf Hy Fzc Bz1 (fun b => fb b + (g b + if b = D then 1 else 0)) := by
              rcases ext with rfl | ⟨q, o', hq, _, rfl⟩
              · exact wfC
              · exact wfC.lay hq
            have k1Y : ∀ b o, H1 b = some o → Hy b = some o := fun b o e => kY b o (kC b o e)
            have reY : Re (kx X xz) Hy Fzc Bz1 (wipe σ vs) (wipeE w.2 vs) gw := rew.keep (fun b o e _ => k1Y b o e) mC fun b o e _ => k1Y b o e
            have hDy : Hy D = some (.lst acc) := kY _ _ hDc
            have dr : w.1.drop i = x :: w.1.drop (i + 1) := by
              rw [List.drop_eq_getElem_cons hlt]
              rw [List.getElem?_eq_getElem hlt] at hx
              cases hx; rfl
            rw [dr, mapP] at hz2
            cases hs : storeT t x (wipeE w.2 vs) with
            | none => rw [hs] at hz2; cases hz2
            | some ρs =>
              rw [hs] at hz2
              simp only at hz2
              cases he : evE G elt ρs with
              | no => rw [he] at hz2; cases hz2
              | ex a b => rw [he] at hz2; cases hz2
              | ok z ρ2 =>
                rw [he] at hz2
                simp only at hz2
                split at hz2
                · rename_i hc2
                  obtain ⟨e2, zo⟩ := hc2
                  subst e2
                  obtain ⟨z3, hz3, e3⟩ := Option.map_eq_some_iff.mp hz2
                  subst e3
                  refine store_ri hs rv reY fun σ1 f1 re2 le1 same => ?_
                  have l1 : σ1.length = σ.length := by rw [re2.length, storeT_length hs, wipeE_length, hlen]
                  have wq : wipe σ1 vs = wipe σ vs := wipe_eq l1 fun j hj => same j fun z => hj (hsub j z)
                  refine ⟨wq, ?_⟩
                  simp only [tYes, ↓reduceIte]
                  have wF : Wf Hy Fzc Bz1 (fun b => f1 b + (fw b + (g b + if b = D then 1 else 0))) := wfY.le fun b => by have := le1 b; have := hfw b; (try dsimp only); omega
                  have tS : At Bz1 true Hy Fzc (fun b => f1 b + (fw b + (g b + if b = D then 1 else 0))) Hy Fzc f1 (fun b => fw b + (g b + if b = D then 1 else 0)) := (At.start wF).cong fun b => by simp
                  refine LE.sub (k := fun d ρ => R.ok d ρ) re2 tS ?_ ?_ ?_
                  · intro x' ρ' e; rw [he] at e; cases e
                  · intro e; rw [he] at e; cases e
                  · intro z' ρ3 ez' yv H4 Fz4 f4 fd re4 rv4 s4 t4
                    rw [he] at ez'
                    cases ez'
                    have keep4 : ∀ b o, Hy b = some o → H4 b = some o := fun b o e => s4.keep b o e (.inr hp)
                    have f41 : ∀ b, f1 b = f4 b := (Re.keep (H' := H4) (Fz' := Fzc) (fun b o e _ => keep4 b o e) (fun _ h => h) re2 fun b o e _ => keep4 b o e).uniq re4
                    have lin4 : ∀ b, f1 b + (fw b + (g b + if b = D then 1 else 0) + fd b) ≤ 1 := fun b => by have := t4.wf.lin b; (try dsimp only at this); rw [← f41] at this; exact this
                    have new : ∀ b, 1 ≤ fd b → Hy b = none := fun b h => by
                      rcases t4.stp.own b (by (try dsimp only); omega) with z | z
                      · have := lin4 b; (try dsimp only at z); omega
                      · exact z
                    have fz4 : ∀ b, Fz4 b → (Fzc b ∨ Hy b = none) ∧ fd b = 0 ∧ ∃ o, H4 b = some o := fun b h => by
                      obtain ⟨c, d⟩ := t4.wf.fz b h
                      (try dsimp only at c)
                      refine ⟨?_, by omega, d⟩
                      rcases t4.stp.fz b h with z | z | z
                      · exact .inl z
                      · have := f41 b; (try dsimp only at z); omega
                      · exact .inr z
                    have one : ∀ b, fd b ≤ 1 := fun b => by have := lin4 b; omega
                    have own4 : ∀ b, 1 ≤ fd b → ∃ o, H4 b = some o ∧ Ow o := fun b h => t4.wf.own b (by (try dsimp only); omega)
                    have W4 := wfY.grow keep4 new one own4 fz4
                    have A4' : Wf H4 Fz4 Bz (fun b => fb b + (ra b + (g b + if b = D then 1 else 0)) + fd b) := tY.wf.grow keep4 new one own4 fz4
                    have S4 : Stp false H Fz f H4 Fz4 (fun b => fb b + (ra b + (g b + if b = D then 1 else 0)) + fd b) := by
                      have s : Stp true Hy Fzc (fun b => fb b + (ra b + (g b + if b = D then 1 else 0))) H4 Fz4 (fun b => fb b + (ra b + (g b + if b = D then 1 else 0)) + fd b) := ⟨fun b o e _ => keep4 b o e, fun b o e => ⟨o, keep4 b o e⟩, fun b h => by
                        have h : 1 ≤ fb b + (ra b + (g b + if b = D then 1 else 0)) + fd b := h
                        by_cases z : 1 ≤ fd b
                        · exact .inr (new b z)
                        · exact .inl (by (try dsimp only); omega), fun b h => by
                        rcases (fz4 b h).1 with z | z
                        · exact .inl z
                        · exact .inr (.inr z), s4.mono⟩
                      have := tY.stp.trans s
                      simpa using this
                    have A4 : At Bz false H Fz f H4 Fz4 fb (fun b => ra b + ((g b + fd b) + if b = D then 1 else 0)) := ⟨A4'.cong fun b => by (try dsimp only); omega, S4.cong (fun _ => rfl) fun b => by (try dsimp only); omega⟩
                    have hD4 : H4 D = some (.lst acc) := keep4 _ _ hDy
                    have fitN : acc.length < sizeLine := by
                      rw [rvA.length]
                      rw [ez] at hfits
                      simp only [List.length_append, List.length_cons] at hfits
                      omega
                    refine ⟨acc, hD4, fitN, w.1.length - (i + 1), by omega, rfl, hlt, Fz4, fun b => g b + fd b, acc ++ [yv], z1 ++ [z], z3, by rw [ez]; simp, hz3, upd_same, ?_, ownL_append own1 (by simp [DE.D.ownL, zo]), ?_, fun b h => s4.mono b (mC b h), ?_, ?_⟩
                    · have nD : ∀ b o, H4 b = some o → (Fz4 b ∨ Bz b ∨ ¬ Ow o) → b ≠ D := fun b o e z eq => by
                        subst eq
                        rcases z with z | z | z
                        · have := (A4.wf.fz b z).1; (try dsimp only at this); rw [if_pos rfl] at this; omega
                        · have := (A4.wf.bz b z).1; (try dsimp only at this); rw [if_pos rfl] at this; omega
                        · rw [hD4] at e; cases e; exact z trivial
                      have nD2 : ∀ b, 1 ≤ g b + fd b → b ≠ D := fun b z eq => by
                        subst eq
                        have := A4.wf.lin b
                        (try dsimp only at this)
                        rw [if_pos rfl] at this
                        omega
                      have r4 : RvL (kx X xz) H4 Fz4 Bz acc z1 g := rvA.keep (fun b o e _ => keep4 b o (kY b o e)) (fun b z => s4.mono b z) (ntrL_of_own own1) fun b o e _ => keep4 b o (kY b o e)
                      have r5 : RvL (kx X xz) H4 Fz4 Bz (acc ++ [yv]) (z1 ++ [z]) (fun b => g b + fd b) := r4.append (.cons (rv4.anyB zo) (.nil fun _ => rfl) fun b => rfl) fun b => rfl
                      exact r5.keep (fun b o e z => by rw [upd_ne (nD b o e z)]; exact e) (fun _ z => z) (ntrL_of_own (ownL_append own1 (by simp [DE.D.ownL, zo]))) fun b o e z => by rw [upd_ne (nD2 b z)]; exact e
                    · intro b o e
                      have : b ≠ D := fun eq => by subst eq; rw [hD] at e; cases e
                      rw [upd_ne this]
                      exact keep4 b o (k1Y b o e)
                    · exact (W4.cong (g := fun b => fb b + ((g b + fd b) + if b = D then 1 else 0)) fun b => by (try dsimp only); omega).write (by (try dsimp only); rw [if_pos rfl]; omega) trivial fun b => Nat.le_refl _
                    · exact A4.write hD4 (by (try dsimp only); rw [if_pos rfl]; omega) trivial fun b => Nat.le_refl _
                · cases hz2
          · have ei : i = w.1.length := by omega
            subst ei
            refine .inl ⟨(hI Hc Fzc kI mC _).1 (Nat.le_refl _), ?_⟩
            rw [List.drop_length, mapP] at hz2
            cases hz2
            rw [List.append_nil] at ez
            subst ez
            have reC : Re (kx X xz) Hc Fzc Bz σ ρ1 fρ := reρ.keep (fun b o e _ => kC b o e) mC fun b o e _ => kC b o e
            exact out (.ref D) Hc Fzc fρ (fun b => g b + if b = D then 1 else 0) reC (.lst hDc rvA fun b => rfl) (tC.less fun b => by have := le b; (try dsimp only); omega)
      · rw [if_neg hpf] at out
        exact out.elim
theorem le_compP {elt : E} {t : T} {it : I} {eelt iter : Expr} {scope : Scope} {own : List (Str × Nat)} (hc : X.calm = true) (hN : X.N.Nodup) (hi : PI X tg iter (LSr (kx X xz) X.mg G W it)) (ok : BlkOk X.N X.env.scope scope own)
    (hg : ∀ (s : Shared) (H : Hp) (C : Addr) (cl : List (Str × Addr)) (fp : List Addr), PG (X.blk s H scope (compEnvC scope cl C X.env) fp) tg (TGt X.K t))
    (he : ∀ (s : Shared) (H : Hp) (C : Addr) (cl : List (Str × Addr)) (fp : List Addr), PE (X.blk s H scope (compEnvC scope cl C X.env) fp) eelt (LE (kx X xz) X.mg G Wn elt)) (hs : ∀ x, foldedSetIterable iter X.env x = pure x)
    (nd : (own.map (·.2)).Nodup) (hsub : ∀ i ∈ t.slots, i ∈ own.map (·.2)) : PE X (.ListComp eelt [⟨tg, iter, [], 0⟩] scope pos) (LE (kx X xz) X.mg G W (.compP elt t it (own.map (·.2)))) :=
  PE.imp (pe_lc hc hN hi ok hg (fun _ _ _ _ _ => pts_nil) he hs) fun σ H Q h => compP_imp nd hsub h
end
end DE
end

section
set_option Elab.async false
set_option linter.all false
/-! DE15c: what is taken from one list goes to another. -/
namespace DE
open PySem PySem.Spec PyProof.Rows L2

section
variable {K : Kx} {mg : Str → Option Value} {G : List Fn} {W : WX} {σ : L2.St} {Bz Bz' Bz1 Fz0 Fz Fz' Fz1 Fz2 : Addr → Prop} {pu p q : Bool} {H0 H H' H1 H2 : Hp} {f0 f r f1 r1 f2 g : Addr → Nat} {ρ ρ1 ρ2 : Env}
theorem PathV.keys (k : ∀ b ps, H b = some (.dK ps) → H' b = some (.dK ps)) : ∀ {v w : V} {sel : List Sel}, PathV H v sel w → sel.all Sel.isKey = true → PathV H' v sel w
  | _, _, [], .nil, _ => .nil
  | _, _, s :: sel, .cons st p, h => by
    rw [List.all_cons, Bool.and_eq_true] at h
    cases st with
    | ix _ _ => simp [Sel.isKey] at h
    | key h1 h2 => exact .cons (.key (k _ _ h1) h2) (PathV.keys k p h.2)
    | fld _ _ => simp [Sel.isKey] at h
/-- a list at a place is changed -/
theorem pm_do {i : Nat} {sel : List Sel} {u v : V} {xs : List D} {fd2 : Addr → Nat} (re2 : Re K H2 Fz2 Bz σ ρ2 f2) (t2 : At Bz p H Fz f H2 Fz2 f2 fd2) (hv : σ[i]? = some (some v)) (hp2 : PathV H2 v sel u) (e2 : getS (slot ρ2 i) sel = some (.lst xs)) :
    ∃ a vs g0, u = .ref a ∧ H2 a = some (.lst vs) ∧ RvL K H2 Fz2 Bz vs xs g0 ∧ D.ntrL xs = true ∧ ∀ (vs' : List V) (v' : V) (xs' : List D) (y : D) (fx' fd : Addr → Nat), RvL K H2 Fz2 Bz vs' xs' fx' → D.ntrL xs' = true → Rv K H2 Fz2 Bz v' y fd → y.ntr = true → (∀ b, fx' b + fd b ≤ g0 b + fd2 b) →
      ∃ f3, Rv K (upd H2 a (.lst vs')) Fz2 Bz v' y fd ∧ At Bz false H Fz f (upd H2 a (.lst vs')) Fz2 f3 fd ∧ ∃ d', putS (slot ρ2 i) sel (.lst xs') = some d' ∧ Re K (upd H2 a (.lst vs')) Fz2 Bz σ (ρ2.set i d') f3 := by
  have nd : D.lst xs ≠ .dead := fun z => by cases z
  obtain ⟨fx, g, rv, nx, hs, l, ctx⟩ := re2.place hv hp2 e2 nd
  obtain ⟨a, vs, g0, rfl, h1, h2, h3⟩ := rv.lst_inv
  refine ⟨a, vs, g0, rfl, h1, h2, by simpa only [D.ntr] using nx, fun vs' v' xs' y fx' fd r' n' ry ny le => ?_⟩
  have fxa : 1 ≤ fx a := by rw [h3, if_pos rfl]; omega
  have wf2 := t2.wf
  have own1 : ∀ b, f2 b + fd2 b ≤ 1 := fun b => wf2.lin b
  have tot : ∀ b, f2 b = g0 b + (if b = a then 1 else 0) + g b := fun b => by rw [hs, h3]
  have na : ∀ b, 1 ≤ g b → b ≠ a := fun b z e => by subst e; have := own1 b; have := tot b; rw [if_pos rfl] at this; omega
  have nF : ∀ b o, H2 b = some o → (Fz2 b ∨ Bz b ∨ ¬ Ow o) → b ≠ a := fun b o eb z e => by
    subst e
    rcases z with z | z | z
    · have := (wf2.fz b z).1; have := tot b; rw [if_pos rfl] at this; omega
    · have := (wf2.bz b z).1; have := tot b; rw [if_pos rfl] at this; omega
    · rw [h1] at eb; cases eb; exact z trivial
  have nF' : ∀ b, 1 ≤ fx' b + fd b → b ≠ a := fun b z e => by
    subst e
    have := own1 b; have := tot b; rw [if_pos rfl] at this; have := le b; omega
  have up : ∀ b o, b ≠ a → H2 b = some o → (upd H2 a (.lst vs')) b = some o := fun b o n e => by rw [upd_ne n]; exact e
  have r2 : RvL K (upd H2 a (.lst vs')) Fz2 Bz vs' xs' fx' := r'.keep (fun b o e z => up b o (nF b o e z) e) (fun _ z => z) n' fun b o e z => up b o (nF' b (by omega)) e
  have ry2 : Rv K (upd H2 a (.lst vs')) Fz2 Bz v' y fd := ry.keep (fun b o e z => up b o (nF b o e z) e) (fun _ z => z) ny fun b o e z => up b o (nF' b (by omega)) e
  have nl : (D.lst xs').ntr = true := by simpa [D.ntr] using n'
  obtain ⟨d', ed, re3⟩ := ctx (upd H2 a (.lst vs')) Fz2 (fun b o e z => up b o (nF b o e z) e) (fun _ z => z) (fun b o e z => up b o (na b z) e) (.lst xs') (fun b => fx' b + if b = a then 1 else 0) (.lst upd_same r2 fun b => rfl) nl
  have t3 := t2.write (o' := .lst vs') (g := fun b => fx' b + (if b = a then 1 else 0) + g b) (r1 := fd) h1 (by have := tot a; rw [if_pos rfl] at this; omega) trivial fun b => by have := le b; have := tot b; omega
  exact ⟨_, ry2, t3, d', ed, re3⟩
end
section
variable {X : Cx} {xz : Xs} {G : List Fn} {W : WX} {pos : Pos} {tg : Expr}
variable {apos cpos apos' cpos' : Pos} {ep ep' : Expr}
theorem pm2_imp {p p' : P} {es : Es} {σ : L2.St} {H : Hp} {Q : VK} (h : LE (kx X xz) X.mg G W (.pm2 p p' es) σ H Q) :
    LP (kx X xz) X.mg G W p σ H fun u H1 => tyV X.K "list" u H1 ∧ LP (kx X xz) X.mg G W p' σ H1 fun u' H2 => tyV X.K "list" u' H2 ∧ LEs (kx X xz) X.mg G W es σ H2 fun ys H3 => rPopAt u' ys H3 fun v H4 => rAppend u [v] H4 Q := by
  obtain ⟨ρ, Fz, Bz, f, re, wf, out⟩ := h
  simp only [evE] at out
  refine LP.one re (At.start wf) out ?_
  intro q ρ1 u v x H1 Fz1 fρ1 re1 s1 t1 hv hp hg hx out1
  by_cases hc : (isLst (getS (slot ρ1 q.1) q.2) && q.2.all Sel.isKey && p'.pure && es.pure) = true
  · rw [if_pos hc] at out1
    simp only [Bool.and_eq_true] at hc
    obtain ⟨⟨⟨hc1, hc2⟩, hc3⟩, hc4⟩ := hc
    obtain ⟨xs1, e1⟩ := isLst_some hc1
    rw [hg] at e1
    cases e1
    obtain ⟨fx1, g1, rv1, _, _, _, _⟩ := re1.place hv hp hg hx
    have ty : tyV X.K "list" u H1 := by
      cases rv1 with
      | lst h1 _ _ => exact .inl ⟨rfl, _, SqL.of h1⟩
    refine ⟨ty, LP.one re1 t1 out1 ?_⟩
    intro q' ρ2 u' v' x' H2 Fz2 fρ2 re2 s2 t2 hv' hp' hg' hx' out2
    by_cases hl2 : isLst (getS (slot ρ2 q'.1) q'.2) = true
    · rw [if_pos hl2] at out2
      obtain ⟨xs2, e2⟩ := isLst_some hl2
      rw [hg'] at e2
      cases e2
      obtain ⟨fx2, g2, rv2, _, _, _, _⟩ := re2.place hv' hp' hg' hx'
      have ty' : tyV X.K "list" u' H2 := by
        cases rv2 with
        | lst h1 _ _ => exact .inl ⟨rfl, _, SqL.of h1⟩
      refine ⟨ty', LEs.one re2 t2 out2 ?_⟩
      intro ds ρ3 ys H3 Fz3 fρ3 fd3 re3 rvs s3 t3 out3
      split at out3
      · rename_i xs' e3
        cases hd : pmD .popAt xs' ds with
        | none => rw [hd] at out3; exact out3.elim
        | some w =>
          obtain ⟨xsp, y⟩ := w
          rw [hd] at out3
          simp only at out3
          have hp3 : PathV H3 v' q'.2 u' := hp'.same fun b o e => s3.keep b o e (.inr hc4)
          obtain ⟨a', vs', g0', rfl, h1', h2', nx', go'⟩ := pm_do re3 t3 hv' hp3 e3
          unfold pmD at hd
          split at hd <;> try first | contradiction | cases hd
          split at hd
          · rename_i i _ hl
            have hl := rngOk_b hl
            obtain ⟨j, ej, e1⟩ := Option.bind_eq_some_iff.mp hd
            obtain ⟨z, ez, e2⟩ := Option.map_eq_some_iff.mp e1
            cases e2
            obtain ⟨w, fi, g, hw, rw', q2, _, er⟩ := h2'.split ez
            obtain ⟨w1, f0, rfl, r1, q1⟩ := rvs.one_inv
            cases r1 with
            | dat rp _ =>
              have e := rp.int_inv; subst e
              rw [← h2'.length] at ej
              have ntz := ntrL_get nx' ez
              obtain ⟨f4, ry4, t4, d, ed, re4⟩ := go' (vs'.eraseIdx j) w _ _ g fi er (ntrL_erase nx') rw' ntz fun b => by rw [q2]; omega
              refine ⟨a', vs', i, j, w, rfl, rfl, h1', by omega, by omega, (ixN_seq ej).1, hw, ?_⟩
              rw [ed] at out3
              simp only at out3
              cases eg : getS (slot (ρ3.set q'.1 d) q.1) q.2 with
              | none => rw [eg] at out3; exact out3.elim
              | some xq =>
                rw [eg] at out3
                cases xq with
                | lst xs4 =>
                  simp only at out3
                  have hp4 : PathV (upd H3 a' (.lst (vs'.eraseIdx j))) v q.2 u := PathV.keys (fun b ps e => by
                    have e3 : H3 b = some (.dK ps) := s3.keep b _ (s2.keep b _ e (.inr hc3)) (.inr hc4)
                    have : b ≠ a' := fun eq => by subst eq; rw [h1'] at e3; cases e3
                    rw [upd_ne this]; exact e3) hp hc2
                  obtain ⟨a, vs, g0, rfl, h1, h2, nx, go⟩ := pm_do re4 t4 hv hp4 eg
                  cases hd2 : pmD .append xs4 [y] with
                  | none => rw [hd2] at out3; exact out3.elim
                  | some w2 =>
                    obtain ⟨xs5, y5⟩ := w2
                    rw [hd2] at out3
                    simp only at out3
                    unfold pmD at hd2
                    simp only at hd2
                    split at hd2
                    · rename_i hln
                      split at hd2
                      · rename_i ho
                        cases hd2
                        obtain ⟨f5, ry5, t5, d5, ed5, re5⟩ := go (vs ++ [w]) .non (xs4 ++ [y]) (.dat .none) (fun b => g0 b + fi b) (fun _ => 0) (h2.append (.cons ry4 (.nil fun _ => rfl) fun b => rfl) fun b => rfl) (ntrL_append nx (by rw [D.ntrL, ntz]; rfl)) (.dat .non fun _ => rfl) rfl fun b => by omega
                        refine ⟨a, vs, w, rfl, rfl, h1, by rw [h2.length, sizeLine_eq]; exact of_decide_eq_true hln, ?_⟩
                        rw [ed5] at out3
                        simp only at out3
                        exact out3 .non _ Fz3 f5 (fun _ => 0) re5 ry5 (t5.weak fun h => by simp [E.pure] at h)
                      · cases hd2
                    · cases hd2
                | _ => exact out3.elim
          · cases hd
      · exact out3.elim
    · rw [if_neg hl2] at out2
      exact out2.elim
  · rw [if_neg hc] at out1
    exact out1.elim
theorem le_pm2 {p p' : P} {es : Es} {e : Expr} {as : List Expr} (hp : PE X ep (LP (kx X xz) X.mg G W p)) (hp' : PE X ep' (LP (kx X xz) X.mg G W p')) (ha : PA X (e :: as) (LEs (kx X xz) X.mg G W es))
    (hbase : attributeBase ep "append" X.env (eval ep X.env) = eval ep X.env) (hbase' : attributeBase ep' "pop" X.env (eval ep' X.env) = eval ep' X.env)
    (hfew : ((backTo cpos (starEach [.Call (.Attribute ep' "pop" apos') (e :: as) [] cpos'] X.env)).all (fun x => !x.1) && (backToKw cpos (keywordEach [] X.env)).all (fun x => x.1.isSome)
      && decide (([.Call (.Attribute ep' "pop" apos') (e :: as) [] cpos'] : List Expr).length + ([] : List Keyword).length + (if ([] : List Keyword).isEmpty then 0 else 1) < 30)) = true)
    (hfew' : ((backTo cpos' (starEach (e :: as) X.env)).all (fun x => !x.1) && (backToKw cpos' (keywordEach [] X.env)).all (fun x => x.1.isSome)
      && decide ((e :: as).length + ([] : List Keyword).length + (if ([] : List Keyword).isEmpty then 0 else 1) < 30)) = true)
    (hline : (apos.endLine == cpos.line) = true) (hline' : (apos'.endLine == cpos'.line) = true) (hs : starEach (e :: as) X.env = (false, eval e X.env) :: starEach as X.env) (hplain : (backTo cpos' (starEach as X.env)).any (·.1) = false) :
    PE X (.Call (.Attribute ep "append" apos) [.Call (.Attribute ep' "pop" apos') (e :: as) [] cpos'] [] cpos) (LE (kx X xz) X.mg G W (.pm2 p p' es)) := by
  refine PE.imp (pe_bm PySem.F.plainAttrs_list PySem.F.slot_list_append PySem.F.type_list_append mt_append hp (pa_cons (pe_bm PySem.F.plainAttrs_list PySem.F.slot_list_pop PySem.F.type_list_pop mt_popAt hp' ha hbase' hfew' hline' hs hplain) pa_nil (by rfl)) hbase hfew hline (by rfl) (by rfl)) fun σ H Q h => ?_
  exact pm2_imp h
end
end DE
end

section
set_option Elab.async false
set_option linter.all false
/-! DE16: statements. -/
namespace DE
open PySem PySem.Spec PyProof.Rows L2

/-- what must hold behind a statement's run; asg: the slots that it may store to -/
def OutS (K : Kx) (mg : Str → Option Value) (Bz : Addr → Prop) (σ0 : L2.St) (asg : List Nat) (H : Hp) (Fz : Addr → Prop) (f : Addr → Nat) (W : WX) (r : SR) (D : Ends) : Prop :=
  match r with
  | .nx ρ => ∀ σ' H' Fz' fρ, Re K H' Fz' Bz σ' ρ fρ → At Bz false H Fz f H' Fz' fρ (fun _ => 0) → (∀ j, j ∉ asg → σ'[j]? = σ0[j]?) → D.nx σ' H'
  | .rt d ρ => ∀ v σ' H' Fz' fρ fd, Re K H' Fz' Bz σ' ρ fρ → d.own = true → Rv K H' Fz' Bz v d fd → At Bz false H Fz f H' Fz' fρ fd → (∀ j, j ∉ asg → σ'[j]? = σ0[j]?) → D.rt v H'
  | .ex x ρ => ∀ cls dx σ' H' Fz' fρ, Re K H' Fz' Bz σ' ρ fρ → Ex K H' Fz' x cls dx → At Bz false H Fz f H' Fz' fρ (fun _ => 0) → (∀ j, j ∉ asg → σ'[j]? = σ0[j]?) → W cls dx σ' H'
  | .no => False
def LS (K : Kx) (mg : Str → Option Value) (G : List Fn) (W : WX) (s : S) : TS := fun D σ H => ∃ ρ Fz Bz f, Re K H Fz Bz σ ρ f ∧ Wf H Fz Bz f ∧ OutS K mg Bz σ s.asgs H Fz f W (exS G s ρ) D
def LSs (K : Kx) (mg : Str → Option Value) (G : List Fn) (W : WX) (s : Ss) : TS := fun D σ H => ∃ ρ Fz Bz f, Re K H Fz Bz σ ρ f ∧ Wf H Fz Bz f ∧ OutS K mg Bz σ s.asgs H Fz f W (exSs G s ρ) D

section
variable {K : Kx} {mg : Str → Option Value} {G : List Fn} {W : WX} {σ σ0 σ1 : L2.St} {Bz Bz' Fz0 Fz Fz1 Fz2 : Addr → Prop} {pu p q : Bool} {H0 H H1 H2 : Hp} {f0 f r f1 r1 f2 g : Addr → Nat} {ρ ρ1 ρ2 : Env} {D : Ends} {asg asg1 : List Nat}
theorem At.comp (t : At Bz p H Fz f H1 Fz1 f1 (fun _ => 0)) (a : At Bz q H1 Fz1 f1 H2 Fz2 f2 r) : At Bz (p && q) H Fz f H2 Fz2 f2 r := (t.step a.stp a.wf).cong fun b => by omega
/-- from a later state -/
theorem OutS.on {rs : SR} (t : At Bz false H Fz f H1 Fz1 f1 (fun _ => 0)) (same : ∀ j, j ∉ asg → σ1[j]? = σ0[j]?) (sub : ∀ j, j ∈ asg1 → j ∈ asg) (out : OutS K mg Bz σ0 asg H Fz f W rs D) : OutS K mg Bz σ1 asg1 H1 Fz1 f1 W rs D := by
  cases rs with
  | nx ρ => exact fun σ' H' Fz' fρ re a s => out σ' H' Fz' fρ re (t.comp a) fun j hj => (s j fun z => hj (sub j z)).trans (same j hj)
  | rt d ρ => exact fun v σ' H' Fz' fρ fd re own rv a s => out v σ' H' Fz' fρ fd re own rv (t.comp a) fun j hj => (s j fun z => hj (sub j z)).trans (same j hj)
  | ex x ρ => exact fun cls dx σ' H' Fz' fρ re ex a s => out cls dx σ' H' Fz' fρ re ex (t.comp a) fun j hj => (s j fun z => hj (sub j z)).trans (same j hj)
  | no => exact out
theorem asg_imp {t : T} {e : E} (h : LS K mg G W (.asg t e) D σ H) : tAsg (LE K mg G W e) (TGt K.K t) D σ H := by
  obtain ⟨ρ, Fz, Bz, f, re, wf, out⟩ := h
  simp only [exS] at out
  refine LE.sub (k := fun d ρ => R.ok d ρ) re (At.start wf) ?_ ?_ ?_
  · intro x ρ' e; rw [e] at out; exact fun cls dx H' Fz' fρ re' ex a => out cls dx σ H' Fz' fρ re' ex a fun _ _ => rfl
  · intro e; rw [e] at out; exact out
  · intro x ρ1 e1 v H1 Fz1 fρ fd re1 rv s t1
    rw [e1] at out
    simp only [R.sbind] at out
    split at out
    · cases hs : storeT t x ρ1 with
      | none => rw [hs] at out; exact out.elim
      | some ρ2 =>
        rw [hs] at out
        exact store_ok' hs (ntr_of_own (by assumption)) rv re1 fun σ1 f1 re2 le same => out σ1 H1 Fz1 f1 re2 ((t1.less fun b => by have := le b; omega).weak fun h => by cases h) same
    · exact out.elim
theorem par2_imp {i j : Nat} {es : Es} (hij : i ≠ j) (h : LS K mg G W (.par [i, j] es) D σ H) : tPar i j (LEs K mg G W es) D σ H := by
  obtain ⟨ρ, Fz, Bz, f, re, wf, out⟩ := h
  simp only [exS] at out
  refine LEs.sub re (At.start wf) ?_ ?_ ?_
  · intro x ρ' e; rw [e] at out; exact fun cls dx H' Fz' fρ re' ex a => out cls dx σ H' Fz' fρ re' ex a fun _ _ => rfl
  · intro e; rw [e] at out; exact out
  · intro xs ρ1 e1 vs H1 Fz1 fρ fd re1 rv s t1
    rw [e1] at out
    simp only [R.sbind] at out
    split at out
    · rename_i ho
      cases hs : storeT.storeL [i, j] xs ρ1 with
      | none => rw [hs] at out; exact out.elim
      | some ρ2 =>
        rw [hs] at out
        match xs, hs, ho, rv with
        | [], hs, _, _ => simp [storeT.storeL] at hs
        | [_], hs, _, _ =>
          simp only [storeT.storeL] at hs
          split at hs <;> cases hs
        | _ :: _ :: _ :: _, hs, _, _ =>
          simp only [storeT.storeL] at hs
          split at hs
          · split at hs <;> cases hs
          · cases hs
        | [x, y], hs, ho, rv =>
          simp only [DE.D.ownL, Bool.and_eq_true] at ho
          simp only [storeT.storeL] at hs
          split at hs
          · rename_i l1
            split at hs
            · rename_i l2
              cases hs
              obtain ⟨v, ws, g, g', rfl, r1, rt, q1⟩ := rv.cons_inv
              obtain ⟨w, g2, rfl, r2, q2⟩ := rt.one_inv
              obtain ⟨f3, re3, le3⟩ := re1.store l1 r1 (ntr_of_own ho.1)
              obtain ⟨f4, re4, le4⟩ := re3.store l2 r2 (ntr_of_own ho.2.1)
              refine ⟨v, w, rfl, out _ H1 Fz1 f4 re4 ((t1.less fun b => by have := le3 b; have := le4 b; have := q1 b; have := q2 b; omega).weak fun h => by cases h) fun k hk => ?_⟩
              simp only [S.asgs, List.mem_cons, not_or] at hk
              rw [List.getElem?_set_ne (fun e => hk.2.1 e.symm), List.getElem?_set_ne (fun e => hk.1 e.symm)]
            · cases hs
          · cases hs
    · exact out.elim
theorem ret_imp {e : E} (h : LS K mg G W (.ret e) D σ H) : tRet (LE K mg G W e) D σ H := by
  obtain ⟨ρ, Fz, Bz, f, re, wf, out⟩ := h
  simp only [exS] at out
  refine LE.sub (k := fun d ρ => R.ok d ρ) re (At.start wf) ?_ ?_ ?_
  · intro x ρ' e; rw [e] at out; exact fun cls dx H' Fz' fρ re' ex a => out cls dx σ H' Fz' fρ re' ex a fun _ _ => rfl
  · intro e; rw [e] at out; exact out
  · intro x ρ1 e1 v H1 Fz1 fρ fd re1 rv s t1
    rw [e1] at out
    simp only [R.sbind] at out
    split at out
    · rename_i ho
      exact out v σ H1 Fz1 fρ fd re1 ho rv ((t1.cong fun b => by omega).weak fun h => by cases h) fun _ _ => rfl
    · exact out.elim
theorem retN_imp (h : LS K mg G W .retN D σ H) : tRetN D σ H := by
  obtain ⟨ρ, Fz, Bz, f, re, wf, out⟩ := h
  simp only [exS] at out
  exact out .non σ H Fz f (fun _ => 0) re rfl (.dat .non fun _ => rfl) ((At.start wf).weak fun h => by cases h) fun _ _ => rfl
theorem ex_imp {e : E} (h : LS K mg G W (.ex e) D σ H) : tDrop (LE K mg G W e) D σ H := by
  obtain ⟨ρ, Fz, Bz, f, re, wf, out⟩ := h
  simp only [exS] at out
  refine LE.sub (k := fun d ρ => R.ok d ρ) re (At.start wf) ?_ ?_ ?_
  · intro x ρ' e; rw [e] at out; exact fun cls dx H' Fz' fρ re' ex a => out cls dx σ H' Fz' fρ re' ex a fun _ _ => rfl
  · intro e; rw [e] at out; exact out
  · intro x ρ1 e1 v H1 Fz1 fρ fd re1 rv s t1
    rw [e1] at out
    exact out σ H1 Fz1 fρ re1 ((t1.less fun b => by omega).weak fun h => by cases h) fun _ _ => rfl
theorem nil_impS (h : LSs K mg G W .nil D σ H) : tNext D σ H := by
  obtain ⟨ρ, Fz, Bz, f, re, wf, out⟩ := h
  simp only [exSs] at out
  exact out σ H Fz f re ((At.start wf).weak fun h => by cases h) fun _ _ => rfl
theorem cons_impS {s : S} {rs : Ss} (h : LSs K mg G W (.cons s rs) D σ H) : tSeq (LS K mg G W s) (LSs K mg G W rs) D σ H := by
  obtain ⟨ρ, Fz, Bz, f, re, wf, out⟩ := h
  simp only [exSs] at out
  have inL : ∀ j, j ∈ s.asgs → j ∈ (Ss.cons s rs).asgs := fun j h => by simp [Ss.asgs, h]
  refine ⟨ρ, Fz, Bz, f, re, wf, ?_⟩
  cases hr : exS G s ρ with
  | nx ρ' =>
    rw [hr] at out
    intro σ' H' Fz' fρ re' t same
    exact ⟨ρ', Fz', Bz, fρ, re', t.env, OutS.on t (fun j hj => same j fun z => hj (inL j z)) (fun j h => by simp [Ss.asgs, h]) out⟩
  | rt d ρ' =>
    rw [hr] at out
    exact fun v σ' H' Fz' fρ fd re' own rv t same => out v σ' H' Fz' fρ fd re' own rv t fun j hj => same j fun z => hj (inL j z)
  | ex x ρ' =>
    rw [hr] at out
    exact fun cls dx σ' H' Fz' fρ re' ex t same => out cls dx σ' H' Fz' fρ re' ex t fun j hj => same j fun z => hj (inL j z)
  | no => rw [hr] at out; exact out
theorem freeze_imp {i : Nat} {rs : Ss} (h : LSs K mg G W (.cons (.freeze i) rs) D σ H) : LSs K mg G W rs D σ H := by
  obtain ⟨ρ, Fz, Bz, f, re, wf, out⟩ := h
  simp only [exSs, exS] at out
  cases hz : (slot ρ i).fz with
  | none => rw [hz] at out; exact out.elim
  | some d =>
    rw [hz] at out
    simp only at out
    split at out
    · rename_i l
      obtain ⟨o, fi, g, eo, rs', hf, rest⟩ := re.split l
      rcases rs' with ⟨e, _⟩ | ⟨v, e, n, rv⟩
      · rw [e] at hz; simp [DE.D.fz] at hz
      · subst e
        have t := ((At.start wf).cong (g := g) (r1 := fi) fun b => by rw [hf]; omega).freeze (r1 := fun _ => 0) (g := fi) fun b => by omega
        have re' : Re K H (fun b => Fz b ∨ 1 ≤ fi b) Bz σ (ρ.set i (.dat d)) g := (rest.monoF fun b h => .inl h).put' l eo (.inr ⟨v, rfl, rfl, .dat (rv.freeze hz) fun _ => rfl⟩) (fi := fun _ => 0) fun b => by simp
        exact ⟨_, _, Bz, g, re', t.env, OutS.on (t.weak fun h => by cases h) (fun _ _ => rfl) (fun j h => by simp [Ss.asgs, S.asgs, h]) out⟩
    · exact out.elim
theorem ifs_imp {c : E} {a b : Ss} (h : LS K mg G W (.ifs c a b) D σ H) : tIfS (LT K mg G W c) (LSs K mg G W a) (LSs K mg G W b) D σ H := by
  obtain ⟨ρ, Fz, Bz, f, re, wf, out⟩ := h
  simp only [exS] at out
  refine LT.sub re (At.start wf) ?_ ?_ ?_
  · intro x ρ' e; rw [e] at out; exact fun cls dx H' Fz' fρ re' ex a => out cls dx σ H' Fz' fρ re' ex a fun _ _ => rfl
  · intro x ρ'
    refine ⟨fun e => by rw [e] at out; exact out, fun e => ?_⟩
    rw [e] at out
    simp only [R.sbind] at out
    split at out
    · exact ⟨_, rfl⟩
    · exact ⟨_, rfl⟩
    · exact out.elim
  · intro k ρ' e H' Fz' fρ re' t
    rw [e] at out
    cases k with
    | true => rw [if_pos rfl]; exact ⟨ρ', Fz', Bz, fρ, re', t.env, OutS.on (t.weak fun h => by cases h) (fun _ _ => rfl) (fun j h => by simp [S.asgs, h]) out⟩
    | false => rw [if_neg (by decide)]; exact ⟨ρ', Fz', Bz, fρ, re', t.env, OutS.on (t.weak fun h => by cases h) (fun _ _ => rfl) (fun j h => by simp [S.asgs, h]) out⟩
theorem PSet.or {X : Cx} {t t' : TSet} (h : PSet X t) (h' : PSet X t') : PSet X (fun o i v H Q => t o i v H Q ∨ t' o i v H Q) := by
  intro pins s σ H o i v ov iv u Q I ro ri rv q
  rcases q with q | q
  · exact h pins s σ H o i v ov iv u Q I ro ri rv q
  · exact h' pins s σ H o i v ov iv u Q I ro ri rv q
theorem nodup_aPut {κ α : Type} [DecidableEq κ] (k : κ) (v : α) : ∀ l : List (κ × α), (l.map (·.1)).Nodup → ((aPut l k v).map (·.1)).Nodup
  | [], _ => by simp [aPut]
  | (k', v') :: r, n => by
    rw [List.map_cons, List.nodup_cons] at n
    simp only [aPut]
    split
    · rw [List.map_cons, List.nodup_cons]; exact n
    · rename_i h
      rw [List.map_cons, List.nodup_cons]
      refine ⟨fun z => ?_, nodup_aPut k v r n.2⟩
      have : ∀ l : List (κ × α), k' ∈ (aPut l k v).map (·.1) → k' ∈ l.map (·.1) ∨ k' = k := by
        intro l
        induction l with
        | nil => intro z; simp [aPut] at z; exact .inr z
        | cons q l ih =>
          obtain ⟨q1, q2⟩ := q
          intro z
          simp only [aPut] at z
          split at z
          · exact .inl (by simpa using z)
          · rw [List.map_cons, List.mem_cons] at z
            rcases z with z | z
            · exact .inl (by simp [z])
            · exact (ih z).imp (fun z => List.mem_cons_of_mem _ z) id
      rcases this r z with z | z
      · exact n.1 z
      · exact h z
/-- a value put into a table: values, keys -/
theorem RvL.tput {κ : Type} [DecidableEq κ] {K : Kx} {H : Hp} {Fz Bz : Addr → Prop} {ps : List (κ × V)} {kvs : List (κ × DE.D)} {k : κ} {vx : V} {x : DE.D} {g fx : Addr → Nat} (e : ps.map (·.1) = kvs.map (·.1)) (r : RvL K H Fz Bz (ps.map (·.2)) (kvs.map (·.2)) g) (nt : DE.D.ntrL (kvs.map (·.2)) = true) (rx : Rv K H Fz Bz vx x fx) (nx : x.ntr = true) :
    ∃ g', RvL K H Fz Bz ((aPut ps k vx).map (·.2)) ((aPut kvs k x).map (·.2)) g' ∧ (aPut ps k vx).map (·.1) = (aPut kvs k x).map (·.1) ∧ DE.D.ntrL ((aPut kvs k x).map (·.2)) = true ∧ ∀ b, g' b ≤ g b + fx b := by
  cases h : aGet kvs k with
  | none =>
    obtain ⟨_, h1, h2, _⟩ := aGet_no e h
    refine ⟨fun b => g b + fx b, ?_, ?_, ?_, fun b => Nat.le_refl _⟩
    · rw [h1, h2, List.map_append, List.map_append]
      exact r.append (.cons rx (.nil fun _ => rfl) fun b => rfl) fun b => by show _ = g b + (fx b + 0); omega
    · rw [h1, h2, List.map_append, List.map_append, e]; rfl
    · rw [h1, List.map_append]
      exact ntrL_append nt (by show DE.D.ntrL [x] = true; rw [DE.D.ntrL, nx]; rfl)
  | some y =>
    obtain ⟨j, h1, h2, h3, h4⟩ := aGet_ix e h
    obtain ⟨w, fi, g1, hw, ro, q1, dead, _⟩ := r.split h1
    have lj : j < (kvs.map (·.2)).length := (List.getElem?_eq_some_iff.mp h1).1
    refine ⟨fun b => fx b + g1 b, ?_, ?_, ?_, fun b => by (try dsimp only); rw [q1]; omega⟩
    · rw [(h3 x).1, (h4 vx).1]
      exact RvL.put dead lj rx fun b => rfl
    · rw [(h3 x).2, (h4 vx).2]; exact e
    · rw [(h3 x).1]; exact ntrL_set nt nx
theorem set_imp {p : P} {i e : E} (h : LS K mg G W (.set p i e) D σ H) : tAsg (LE K mg G W e) (gSub (LP K mg G W p) (LE K mg G W i) (fun o i v H Q => rSetL o i v H Q ∨ rSetK o i v H Q)) D σ H := by
  obtain ⟨ρ, Fz, Bz, f, re, wf, out⟩ := h
  simp only [exS] at out
  refine LE.sub (k := fun d ρ => R.ok d ρ) re (At.start wf) ?_ ?_ ?_
  · intro x ρ' e; rw [e] at out; exact fun cls dx H' Fz' fρ re' ex a => out cls dx σ H' Fz' fρ re' ex a fun _ _ => rfl
  · intro e; rw [e] at out; exact out
  · intro x ρ1 e1 vx H1 Fz1 fρ1 fx re1 rvx s1 t1
    rw [e1] at out
    simp only [R.sbind] at out
    refine LP.sub re1 t1 ?_ ?_ ?_
    · intro x ρ' e; rw [e] at out; exact fun cls dx H' Fz' fρ re' ex a => out cls dx σ H' Fz' fρ re' ex a fun _ _ => rfl
    · intro e; rw [e] at out; exact out
    · intro q ρ2 e2 u v z H2 Fz2 fρ2 re2 s2 t2 hv hp hg hz
      rw [e2] at out
      simp only at out
      by_cases hc : ((q.2.isEmpty || i.pure) && x.own) = true
      · rw [if_pos hc] at out
        rw [Bool.and_eq_true] at hc
        have nx := ntr_of_own hc.2
        have rvx2 := rvx.frame (.inl nx) s2 (t1.wf.cong fun b => by omega)
        refine LE.sub (k := fun d ρ => R.ok d ρ) re2 t2 ?_ ?_ ?_
        · intro x ρ' e; rw [e] at out; exact fun cls dx H' Fz' fρ re' ex a => out cls dx σ H' Fz' fρ re' ex a fun _ _ => rfl
        · intro e; rw [e] at out; exact out
        · intro y ρ3 e3 vy H3 Fz3 fρ3 fy re3 rvy s3 t3
          rw [e3] at out
          simp only at out
          have rvx3 := rvx2.frame (.inl nx) s3 (t2.wf.cong fun b => by omega)
          have hp3 := path_on hp hc.1 s3
          split at out
          · rename_i xs k e4
            cases hj : L2.ixN xs.length k with
            | none => rw [hj] at out; exact out.elim
            | some j =>
              rw [hj] at out
              simp only at out
              obtain ⟨a, vs, h3, eu⟩ : ∃ a vs, H3 a = some (.lst vs) ∧ u = .ref a := by
                obtain ⟨fl, g, rl, _, _, _, _⟩ := re3.place hv hp3 e4 fun z => by cases z
                obtain ⟨a, vs, g0, e, h3, _⟩ := rl.lst_inv
                exact ⟨a, vs, h3, e⟩
              subst eu
              obtain ⟨fl, rl, nl, nF, lin, fin⟩ := write_at re3 t3 hv hp3 e4 (fun z => by cases z) h3 trivial fun fx r => by
                obtain ⟨a', vs', g0, e, _, _, h5⟩ := r.lst_inv
                cases e
                rw [h5, if_pos rfl]; omega
              obtain ⟨a', vs', g0, e, h3', h4, h5⟩ := rl.lst_inv
              cases e
              rw [h3] at h3'
              cases h3'
              simp only [DE.D.ntr] at nl
              cases rvy with
              | dat rp _ =>
                have e := rp.int_inv; subst e
                have lj : j < xs.length := (ixN_seq hj).2.1
                obtain ⟨w, fi, g1, hw, ro, q1, dead, _⟩ := h4.split (List.getElem?_eq_getElem lj)
                refine .inl ⟨a, vs, k, j, rfl, rfl, h3, by rw [h4.length]; exact hj, ?_⟩
                have full : RvL K H3 Fz3 Bz (vs.set j vx) (xs.set j x) (fun b => fx b + g1 b) := RvL.put dead lj rvx3 fun b => rfl
                have up : ∀ b o, b ≠ a → H3 b = some o → (upd H3 a (.lst (vs.set j vx))) b = some o := fun b o n e => by rw [upd_ne n]; exact e
                have full' : RvL K (upd H3 a (.lst (vs.set j vx))) Fz3 Bz (vs.set j vx) (xs.set j x) (fun b => fx b + g1 b) :=
                  full.keep (fun b o e z => up b o (nF b o e z) e) (fun _ z => z) (ntrL_set nl nx) fun b o e z => up b o (fun eq => by subst eq; have := lin b; have := h5 b; rw [if_pos rfl] at this; have := q1 b; (try dsimp only at *); omega) e
                obtain ⟨d', f2, ed, re4, t4⟩ := fin (.lst (vs.set j vx)) (.lst (xs.set j x)) (fun b => (fx b + g1 b) + if b = a then 1 else 0) (fun _ => 0) trivial (.lst upd_same full' fun b => rfl) (by simpa [DE.D.ntr] using ntrL_set nl nx) fun b => by have := h5 b; have := q1 b; (try dsimp only); omega
                rw [ed] at out
                simp only at out
                exact out σ _ Fz3 _ re4 t4 fun _ _ => rfl
          · rename_i kvs kd e4
            cases hk : keyE kd with
            | none => rw [hk] at out; exact out.elim
            | some k =>
              rw [hk] at out
              simp only at out
              split at out
              · rename_i hl
                obtain ⟨a, ps, h3, eu⟩ : ∃ a ps, H3 a = some (.dK ps) ∧ u = .ref a := by
                  obtain ⟨fl, g, rl, _, _, _, _⟩ := re3.place hv hp3 e4 fun z => by cases z
                  obtain ⟨a, vs, g0, e, h3, _⟩ := rl.dct_inv
                  exact ⟨a, vs, h3, e⟩
                subst eu
                obtain ⟨fl, rl, nl, nF, lin, fin⟩ := write_at re3 t3 hv hp3 e4 (fun z => by cases z) h3 trivial fun fx r => by
                  obtain ⟨a', vs', g0, e, _, _, _, h5⟩ := r.dct_inv
                  cases e
                  rw [h5, if_pos rfl]; omega
                obtain ⟨a', ps', g0, e, h3', hk2, h4, h5⟩ := rl.dct_inv
                cases e
                rw [h3] at h3'
                cases h3'
                simp only [DE.D.ntr] at nl
                rw [ntrK_map] at nl
                cases rvy with
                | dat rp _ =>
                  have ey := keyE_V hk rp
                  subst ey
                  obtain ⟨g', r1, r2, r3, r4⟩ := RvL.tput (k := k) hk2.1 h4 nl rvx3 nx
                  have lps : ps.length = kvs.length := by have := congrArg List.length hk2.1; simpa using this
                  refine .inr ⟨a, ps, k, rfl, rfl, h3, by rw [hk2.1]; exact hk2.2, by rw [lps, sizeLine_eq]; exact of_decide_eq_true hl, ?_⟩
                  have up : ∀ b o, b ≠ a → H3 b = some o → (upd H3 a (.dK (aPut ps k vx))) b = some o := fun b o n e => by rw [upd_ne n]; exact e
                  have full' : RvL K (upd H3 a (.dK (aPut ps k vx))) Fz3 Bz ((aPut ps k vx).map (·.2)) ((aPut kvs k x).map (·.2)) g' :=
                    r1.keep (fun b o e z => up b o (nF b o e z) e) (fun _ z => z) r3 fun b o e z => up b o (fun eq => by subst eq; have := lin b; have := h5 b; rw [if_pos rfl] at this; have := r4 b; (try dsimp only at *); omega) e
                  obtain ⟨d', f2, ed, re4, t4⟩ := fin (.dK (aPut ps k vx)) (.dct (aPut kvs k x)) (fun b => g' b + if b = a then 1 else 0) (fun _ => 0) trivial (.dct upd_same ⟨r2, nodup_aPut k x kvs hk2.2⟩ full' fun b => rfl) (by simp only [DE.D.ntr]; rw [ntrK_map]; exact r3) fun b => by have := h5 b; have := r4 b; (try dsimp only); omega
                  rw [ed] at out
                  simp only at out
                  exact out σ _ Fz3 _ re4 t4 fun _ _ => rfl
              · exact out.elim
          · exact out.elim
      · rw [if_neg hc] at out
        exact out.elim
/-- d[k] = v, keys tuples -/
theorem dset_imp {p : P} {k e : E} (h : LS K mg G W (.dset p k e) D σ H) : tAsg (LE K mg G W e) (gSub (LP K mg G W p) (LE K mg G W k) (rSetT K.P K.w K.K)) D σ H := by
  obtain ⟨ρ, Fz, Bz, f, re, wf, out⟩ := h
  simp only [exS] at out
  refine LE.sub (k := fun d ρ => R.ok d ρ) re (At.start wf) ?_ ?_ ?_
  · intro x ρ' e; rw [e] at out; exact fun cls dx H' Fz' fρ re' ex a => out cls dx σ H' Fz' fρ re' ex a fun _ _ => rfl
  · intro e; rw [e] at out; exact out
  · intro x ρ1 e1 vx H1 Fz1 fρ1 fx re1 rvx s1 t1
    rw [e1] at out
    simp only [R.sbind] at out
    refine LP.sub re1 t1 ?_ ?_ ?_
    · intro x ρ' e; rw [e] at out; exact fun cls dx H' Fz' fρ re' ex a => out cls dx σ H' Fz' fρ re' ex a fun _ _ => rfl
    · intro e; rw [e] at out; exact out
    · intro q ρ2 e2 u v z H2 Fz2 fρ2 re2 s2 t2 hv hp hg hz
      rw [e2] at out
      simp only at out
      by_cases hc : (q.2.isEmpty || k.pure) = true
      · rw [if_pos hc] at out
        refine LE.sub (k := fun d ρ => R.ok d ρ) re2 t2 ?_ ?_ ?_
        · intro x ρ' e; rw [e] at out; exact fun cls dx H' Fz' fρ re' ex a => out cls dx σ H' Fz' fρ re' ex a fun _ _ => rfl
        · intro e; rw [e] at out; exact out
        · intro y ρ3 e3 vy H3 Fz3 fρ3 fy re3 rvy s3 t3
          rw [e3] at out
          simp only at out
          have hp3 := path_on hp hc s3
          split at out
          · rename_i xd kvs kd e4
            split at out
            · rename_i hl
              rw [Bool.and_eq_true, decide_eq_true_eq] at hl
              have rvx2 := rvx.frame (.inl rfl) s2 (t1.wf.cong fun b => by omega)
              have rvx3 := rvx2.frame (.inl rfl) s3 (t2.wf.cong fun b => by omega)
              obtain ⟨a, es, ep, h3, eu⟩ : ∃ a es ep, H3 a = some (rawT a es ep) ∧ u = .ref a := by
                obtain ⟨fl, g, rl, _, _, _, _⟩ := re3.place hv hp3 e4 fun z => by cases z
                obtain ⟨a, es, ep, e, h3, _⟩ := rl.dtt_inv
                exact ⟨a, es, ep, h3, e⟩
              subst eu
              obtain ⟨fl, rl, nl, nF, lin, fin⟩ := write_at re3 t3 hv hp3 e4 (fun z => by cases z) h3 trivial fun fx r => by
                obtain ⟨a', es', ep', e, _, _, h5⟩ := r.dtt_inv
                cases e
                rw [h5, if_pos rfl]; exact Nat.le_refl _
              obtain ⟨a', es, ep, e, h3, drl, h5⟩ := rl.dtt_inv
              cases e
              cases rvy with
              | dat rpk _ =>
              cases rvx3 with
              | dat rpv _ =>
                refine ⟨a, es, ep, kvs, Fz3, Fz3, kd, xd, rfl, h3, drl, rpk, hl.1, rpv, by rw [sizeLine_eq]; exact hl.2, fun es' ep' dr => ?_⟩
                have up : ∀ b o, b ≠ a → H3 b = some o → (upd H3 a (rawT a es' ep')) b = some o := fun b o n e => by rw [upd_ne n]; exact e
                obtain ⟨d', f2, ed, re4, t4⟩ := fin (rawT a es' ep') (.dtt (aPut kvs kd xd)) (fun b => if b = a then 1 else 0) (fun _ => 0) trivial (.dtt upd_same (dr.keep (fun b o e z => up b o (nF b o e (z.elim .inl fun z => .inr (.inr z))) e) fun _ z => z) fun b => rfl) rfl fun b => by have := h5 b; (try dsimp only); omega
                rw [ed] at out
                simp only at out
                exact out σ _ Fz3 _ re4 t4 fun _ _ => rfl
            · exact out.elim
          · exact out.elim
      · rw [if_neg hc] at out
        exact out.elim
/-- o.f = v -/
theorem setf_imp {X : Cx} {xz : Xs} {W : WX} {D : Ends} {σ : L2.St} {H : Hp} {p : P} {fn : Str} {e : E} (hc : ∀ C ∈ xz.cl, ∀ c, X.mg C = some (.ref c) → Cls X.K c ∧ NoAttr X.K c fn) (h : LS (kx X xz) X.mg G W (.setf p fn e) D σ H) : sFld X.K (LP (kx X xz) X.mg G W p) (LE (kx X xz) X.mg G W e) fn D σ H := by
  obtain ⟨ρ, Fz, Bz, f, re, wf, out⟩ := h
  simp only [exS] at out
  refine LE.sub (k := fun d ρ => R.ok d ρ) re (At.start wf) ?_ ?_ ?_
  · intro x ρ' e; rw [e] at out; exact fun cls dx H' Fz' fρ re' ex a => out cls dx σ H' Fz' fρ re' ex a fun _ _ => rfl
  · intro e; rw [e] at out; exact out
  · intro x ρ1 e1 vx H1 Fz1 fρ1 fx re1 rvx s1 t1
    rw [e1] at out
    simp only [R.sbind] at out
    by_cases ho : x.own = true
    · rw [if_pos ho] at out
      have nx := ntr_of_own ho
      refine LP.sub re1 t1 ?_ ?_ ?_
      · intro x ρ' e; rw [e] at out; exact fun cls dx H' Fz' fρ re' ex a => out cls dx σ H' Fz' fρ re' ex a fun _ _ => rfl
      · intro e; rw [e] at out; exact out
      · intro q ρ2 e2 u v z H2 Fz2 fρ2 re2 s2 t2 hv hp hg hz
        rw [e2] at out
        simp only at out
        have rvx2 := rvx.frame (.inl nx) s2 (t1.wf.cong fun b => by omega)
        split at out
        · rename_i C fs e4
          split at out
          · rename_i hl
            obtain ⟨a, c, dx, vs, h3, hC, eu⟩ : ∃ a c dx vs, H2 a = some (.ins c dx vs) ∧ (C ∈ xz.cl ∧ X.mg C = some (.ref c)) ∧ u = .ref a := by
              obtain ⟨fl, g, rl, _, _, _, _⟩ := re2.place hv hp e4 fun z => by cases z
              obtain ⟨a, c, dx, vs, g0, e, h3, hC, _⟩ := rl.ins_inv
              exact ⟨a, c, dx, vs, h3, hC, e⟩
            subst eu
            obtain ⟨k1, k2⟩ := hc C hC.1 c hC.2
            obtain ⟨fl, rl, nl, nF, lin, fin⟩ := write_at re2 t2 hv hp e4 (fun z => by cases z) h3 trivial fun fx r => by
              obtain ⟨a', c', dx', vs', g0, e, _, _, _, _, h5⟩ := r.ins_inv
              cases e
              rw [h5, if_pos rfl]; omega
            obtain ⟨a', c', dx', vs', g0, e, h3', hC', hk2, h4, h5⟩ := rl.ins_inv
            cases e
            rw [h3] at h3'
            cases h3'
            simp only [DE.D.ntr] at nl
            rw [ntrF_map] at nl
            obtain ⟨g', r1, r2, r3, r4⟩ := RvL.tput (k := fn) hk2 h4 nl rvx2 nx
            have lps : vs.length = fs.length := by have := congrArg List.length hk2; simpa using this
            refine ⟨a, c, dx, vs, rfl, h3, k1, k2, by rw [lps]; exact of_decide_eq_true hl, ?_⟩
            rw [putF_aPut]
            have up : ∀ b o, b ≠ a → H2 b = some o → (upd H2 a (.ins c dx (aPut vs fn vx))) b = some o := fun b o n e => by rw [upd_ne n]; exact e
            have full' : RvL (kx X xz) (upd H2 a (.ins c dx (aPut vs fn vx))) Fz2 Bz ((aPut vs fn vx).map (·.2)) ((aPut fs fn x).map (·.2)) g' :=
              r1.keep (fun b o e z => up b o (nF b o e z) e) (fun _ z => z) r3 fun b o e z => up b o (fun eq => by subst eq; have := lin b; have := h5 b; rw [if_pos rfl] at this; have := r4 b; (try dsimp only at *); omega) e
            obtain ⟨d', f2, ed, re4, t4⟩ := fin (.ins c dx (aPut vs fn vx)) (.ins C (aPut fs fn x)) (fun b => g' b + if b = a then 1 else 0) (fun _ => 0) trivial (.ins upd_same hC r2 full' fun b => rfl) (by simp only [DE.D.ntr]; rw [ntrF_map]; exact r3) fun b => by have := h5 b; have := r4 b; (try dsimp only); omega
            rw [ed] at out
            simp only at out
            exact out σ _ Fz2 _ re4 t4 fun _ _ => rfl
          · exact out.elim
        · exact out.elim
    · rw [if_neg ho] at out
      exact out.elim
end
end DE
end

section
set_option Elab.async false
set_option linter.all false
/-! DE17: loops; defs. -/
namespace DE
open PySem PySem.Spec PyProof.Rows L2

section
variable {K : Kx} {mg : Str → Option Value} {G : List Fn} {W : WX} {σ σ0 σ1 : L2.St} {Bz Bz' Fz0 Fz Fz1 Fz2 : Addr → Prop} {pu p q : Bool} {H0 H H1 H2 : Hp} {f0 f r f1 r1 f2 g : Addr → Nat} {ρ ρ1 ρ2 : Env} {D : Ends} {asg asg1 : List Nat}
theorem Lk.keep {w : Option (Nat × DE.D)} {ra : Addr → Nat} {ρ' : Env} (h : Lk K H Fz Bz σ ρ w ra) (k : ∀ b o, H b = some o → (Fz b ∨ Bz b ∨ ¬ Ow o ∨ 1 ≤ ra b) → H1 b = some o) (m : ∀ b, Fz b → Fz1 b) (l : σ1.length = ρ'.length) (same : ∀ i d, w = some (i, d) → σ1[i]? = σ[i]?) : Lk K H1 Fz1 Bz σ1 ρ' w ra := by
  cases w with
  | none => trivial
  | some w =>
    obtain ⟨j, d⟩ := w
    obtain ⟨l0, n, v, hv, rv⟩ := h
    have e := same j d rfl
    rw [hv] at e
    refine ⟨by rw [← l]; exact (List.getElem?_eq_some_iff.mp e).1, n, v, e, rv.keep (fun b o e z => k b o e (by rcases z with z | z | z <;> simp [z])) m n fun b o e z => k b o e (by simp [z])⟩
/-- the source, looked at within -/
def OutBr (K : Kx) (mg : Str → Option Value) (Bz : Addr → Prop) (σ : L2.St) (H : Hp) (Fz : Addr → Prop) (f : Addr → Nat) (W : WX) (r : R (Nat × List Sel)) (Q : It → Hp → Prop) : Prop :=
  match r with
  | .ok q ρ => ∃ xs ds, getS (slot ρ q.1) q.2 = some (.lst xs) ∧ DE.D.viewL xs = some ds ∧ ∀ J H' Fz' Bz1 fb fi v, σ[q.1]? = some (some v) → (slot ρ q.1).ntr = true → Rv K H' Fz' Bz v (slot ρ q.1) fi → Re K H' Fz' Bz1 σ (ρ.set q.1 .dead) fb → (∀ b, Bz b → Bz1 b) → Wf H' Fz' Bz1 fb → At Bz false H Fz f H' Fz' fb fi → ItOk K Bz1 J (ds.map borD) H' Fz' fi → Q J H'
  | .ex x ρ => ∀ cls dx H' Fz' fρ, Re K H' Fz' Bz σ ρ fρ → Ex K H' Fz' x cls dx → At Bz false H Fz f H' Fz' fρ (fun _ => 0) → W cls dx σ H'
  | .no => False
def LBr (K : Kx) (mg : Str → Option Value) (G : List Fn) (W : WX) (p : P) : TI := fun σ H Q => ∃ ρ Fz Bz f, Re K H Fz Bz σ ρ f ∧ Wf H Fz Bz f ∧ OutBr K mg Bz σ H Fz f W (evP G p ρ) Q
theorem Wf.bless (m : ∀ b, Bz b → Bz' b) (w : Wf H Fz Bz' f) : Wf H Fz Bz f := ⟨w.lin, w.own, w.fz, fun b h => w.bz b (m b h)⟩
theorem Re.noBor : ∀ {s : L2.St} {r : Env} {f : Addr → Nat}, Re K H Fz Bz s r f → noBor r = true → Re K H Fz Bz' s r f
  | _, _, _, .nil z, _ => .nil z
  | _, _, _, .cons (d := d) r t q, n => by
    unfold DE.noBor at n
    rw [List.all_cons, Bool.and_eq_true] at n
    refine .cons ?_ (Re.noBor t n.2) q
    rcases r with r | ⟨v, e, nt, rv⟩
    · exact .inl r
    · rcases Bool.or_eq_true_iff.mp n.1 with o | o
      · exact .inr ⟨v, e, nt, rv.anyB o⟩
      · cases d <;> simp [DE.D.isD] at o
        cases rv with | dead z => exact .inr ⟨v, e, nt, .dead z⟩
theorem forB_imp {t : T} {p : P} {b : Ss} (h : LS K mg G W (.forB t p b) D σ H) : tFor (LBr K mg G W p) (TGt K.K t) (LSs K mg G W b) D σ H := by
  obtain ⟨ρ, Fz, Bz, f, re, wf, out⟩ := h
  simp only [exS] at out
  refine ⟨ρ, Fz, Bz, f, re, wf, ?_⟩
  cases hI0 : evP G p ρ with
  | no => rw [hI0] at out; exact out.elim
  | ex x ρ' => rw [hI0] at out; exact fun cls dx H' Fz' fρ re' ex a => out cls dx σ H' Fz' fρ re' ex a fun _ _ => rfl
  | ok q ρ1 =>
    rw [hI0] at out
    simp only [R.sbind] at out
    split at out
    · rename_i xs hg
      split at out
      · rename_i ds hd
        split at out
        · rename_i hw
          refine ⟨xs, ds, hg, hd, ?_⟩
          intro J H1 Fz1 Bz1 fb fi v0 hv nt rvd re1 bs wfb t1 hI
          have nolock : q.1 ∉ t.slots ++ b.asgs := fun hj => by
            rw [List.contains_iff_mem.mpr hj] at hw
            cases hw
          generalize ds.map borD = its at *
          let Wv : Nat → Nat → L2.St → Hp → Prop := fun i m σc Hc => m = its.length - i ∧ i ≤ its.length ∧ ∃ (ρc : Env) (Fzc : Addr → Prop) (fc : Addr → Nat), Re K Hc Fzc Bz1 σc ρc fc ∧ At Bz false H Fz f Hc Fzc fc fi ∧ Wf Hc Fzc Bz1 fc ∧
            (∀ b o, H1 b = some o → (Fz1 b ∨ Bz1 b ∨ ¬ Ow o ∨ 1 ≤ fi b) → Hc b = some o) ∧ (∀ b, Fz1 b → Fzc b) ∧ (∀ j, j ∉ t.slots ++ b.asgs → σc[j]? = σ[j]?) ∧
            OutS K mg Bz σ (t.slots ++ b.asgs) H Fz f W ((forL t (exSs G b) (its.drop i) ρc).shutB q.1 (slot ρ1 q.1)) D
          refine ⟨Wv, ⟨its.length, by simp, Nat.zero_le _, ρ1.set q.1 .dead, Fz1, fb, re1, t1, wfb, fun b o e _ => e, fun _ h => h, fun _ _ => rfl, by rw [List.drop_zero]; exact out⟩, ?_⟩
          rintro i m σc Hc ⟨rfl, hi, ρc, Fzc, fc, reC, tC, wfC, kC, mC, sC, outC⟩
          by_cases hlt : i < its.length
          · refine .inr ?_
            obtain ⟨x, hx⟩ : ∃ x, its[i]? = some x := ⟨its[i], List.getElem?_eq_getElem hlt⟩
            obtain ⟨go, nx, yl⟩ := (hI Hc Fzc kC mC i).2 x hx
            refine ⟨go, fun σn Hn => ∃ m', m' < its.length - i ∧ Wv (i + 1) m' σn Hn, fun _ _ z => z, fun v Hy y => ?_⟩
            obtain ⟨ext, rv⟩ := yl v Hy y
            have kY : ∀ b o, Hc b = some o → Hy b = some o := fun b o e => by
              rcases ext with rfl | ⟨q, o', hq, _, rfl⟩
              · exact e
              · rw [upd_ne (ne_of_none e hq)]; exact e
            have tY : At Bz false H Fz f Hy Fzc fc fi := by
              rcases ext with rfl | ⟨q, o', hq, _, rfl⟩
              · exact tC
              · exact tC.lay hq
            have wfY : Wf Hy Fzc Bz1 fc := by
              rcases ext with rfl | ⟨q, o', hq, _, rfl⟩
              · exact wfC
              · exact wfC.lay hq
            have reY : Re K Hy Fzc Bz1 σc ρc fc := reC.keep (fun b o e _ => kY b o e) (fun _ z => z) fun b o e _ => kY b o e
            have dr : its.drop i = x :: its.drop (i + 1) := by
              rw [List.drop_eq_getElem_cons hlt]
              rw [List.getElem?_eq_getElem hlt] at hx
              cases hx; rfl
            rw [dr, forL] at outC
            cases hs : storeT t x ρc with
            | none => rw [hs] at outC; exact outC.elim
            | some ρs =>
              rw [hs] at outC
              simp only at outC
              refine store_ri hs rv reY fun σ1 f1 re2 le1 same => ?_
              have tS : At Bz false H Fz f Hy Fzc f1 fi := tY.less fun b => by have := le1 b; omega
              have wfS : Wf Hy Fzc Bz1 f1 := wfY.le le1
              have sS : ∀ j, j ∉ t.slots ++ b.asgs → σ1[j]? = σ[j]? := fun j hj => (same j fun z => hj (List.mem_append_left _ z)).trans (sC j hj)
              refine ⟨ρs, Fzc, Bz1, f1, re2, wfS, ?_⟩
              cases hb : exSs G b ρs with
              | no => rw [hb] at outC; exact outC.elim
              | nx ρ' =>
                rw [hb] at outC
                intro σ' H' Fz' fρ re' a s
                have wfn : Wf H' Fz' Bz1 fρ := a.wf.le fun b => by omega
                refine ⟨its.length - (i + 1), by omega, rfl, hlt, ρ', Fz', fρ, re', ((tS.step a.stp (a.wf.bless bs)).cong fun b => by omega), wfn, fun b o e z => ?_, fun b z => a.stp.mono b (mC b z), fun j hj => (s j fun z => hj (List.mem_append_right _ z)).trans (sS j hj), outC⟩
                have e' := kY b o (kC b o e z)
                refine a.stp.keep b o e' (.inl ?_)
                have w1 := tS.wf.lin b
                (try dsimp only at w1)
                rcases z with z | z | z | z
                · have := (wfS.fz b (mC b z)).1; omega
                · have := (wfS.bz b z).1; omega
                · by_cases y : 1 ≤ f1 b
                  · obtain ⟨o', e2, ow⟩ := wfS.own b y
                    rw [e'] at e2; cases e2; exact absurd ow z
                  · omega
                · omega
              | rt d ρ' =>
                rw [hb] at outC
                exact outC.elim
              | ex x ρ' =>
                rw [hb] at outC
                exact outC.elim
          · have ei : i = its.length := by omega
            subst ei
            refine .inl ⟨(hI Hc Fzc kC mC _).1 (Nat.le_refl _), ?_⟩
            rw [List.drop_length, forL] at outC
            simp only [SR.shutB] at outC
            split at outC
            · rename_i hn
              rw [Bool.and_eq_true] at hn
              have hvc : σc[q.1]? = some (some v0) := (sC q.1 nolock).trans hv
              have lq : q.1 < ρc.length := by rw [← reC.length]; exact (List.getElem?_eq_some_iff.mp hvc).1
              have reB : Re K Hc Fzc Bz σc ρc fc := Re.noBor reC hn.1
              obtain ⟨o, f0, g0, eo, rs, hf, rest⟩ := reB.split lq
              have rvc : Rv K Hc Fzc Bz v0 (slot ρ1 q.1) fi := rvd.keep (fun b o e z => kC b o e (z.elim .inl fun z => z.elim (fun z => .inr (.inl (bs b z))) fun z => .inr (.inr (.inl z)))) mC nt fun b o e z => kC b o e (.inr (.inr (.inr z)))
              rw [hvc] at eo
              cases eo
              have re3 := rest.put' lq hvc (.inr ⟨v0, rfl, nt, rvc⟩) (f := fun b => fi b + g0 b) fun b => rfl
              exact outC σc Hc Fzc _ re3 (tC.less fun b => by have := hf b; (try dsimp only); omega) sC
            · exact outC.elim
        · exact out.elim
      · exact out.elim
    · exact out.elim
theorem li_borB {X : Cx} {xz : Xs} {G : List Fn} {W : WX} {tg : Expr} {p : P} {ee : Expr} (he : PE X ee (LP (kx X xz) X.mg G W p)) : PI X tg ee (LBr (kx X xz) X.mg G W p) := by
  refine PI.imp (pi_seq he) fun σ H Q ⟨ρ, Fz, Bz, f, re, wf, out⟩ => ?_
  refine LP.sub re (At.start wf) ?_ ?_ ?_
  · intro x ρ' e; rw [e] at out; exact out
  · intro e; rw [e] at out; exact out
  · intro q ρ1 e1 u v x H1 Fz1 fρ re1 s t hv hp hg hx
    rw [e1] at out
    obtain ⟨xs0, ds, hg0, hd, out⟩ := out
    rw [hg] at hg0
    cases hg0
    have ns := live_slot hg hx
    have l := slot_lt ns
    obtain ⟨o, fi, g0, eo, rs, hf, rest⟩ := re1.split l
    rcases rs with ⟨z, _⟩ | ⟨w, z, n, rv⟩
    · exact (ns z).elim
    · subst z
      rw [hv] at eo
      cases eo
      obtain ⟨u', fx, gx, hp', ru, ntx, hsx, _⟩ := rv.path q.2 hg n
      have eu := PathV.fun hp hp'
      subst eu
      obtain ⟨a, vs, g2, rfl, h3, h4, h5⟩ := ru.lst_inv
      have ntl : DE.D.ntrL xs0 = true := by simpa [DE.D.ntr] using ntx
      have bs : ∀ b, Bz b → (Bz b ∨ 1 ≤ fi b) := fun _ h => .inl h
      have rp : RvL (kx X xz) H1 Fz1 (fun b => Bz b ∨ 1 ≤ fi b) vs (ds.map borD) (fun _ => 0) := RpL.bors (fun b z => by
        rcases z with z | z | z
        · exact .inl z
        · exact .inr (.inl z)
        · exact .inr (.inr (by rw [hsx, h5]; omega))) (RvL.lookS h4 ntl hd)
      have w1 := t.wf
      have lin : ∀ b, fi b + g0 b ≤ 1 := fun b => by have := w1.lin b; have := hf b; (try dsimp only at *); omega
      have wb : Wf H1 Fz1 (fun b => Bz b ∨ 1 ≤ fi b) g0 := by
        refine ⟨fun b => by have := lin b; omega, fun b h => w1.own b (by show 1 ≤ fρ b + 0; have := hf b; omega), fun b h => ?_, fun b h => ?_⟩
        · obtain ⟨c, d⟩ := w1.fz b h
          exact ⟨by have := hf b; (try dsimp only at c); omega, d⟩
        · rcases h with h | h
          · obtain ⟨c, d⟩ := w1.bz b h
            exact ⟨by have := hf b; (try dsimp only at c); omega, d⟩
          · obtain ⟨o, e, _⟩ := w1.own b (by show 1 ≤ fρ b + 0; have := hf b; omega)
            exact ⟨by have := lin b; omega, o, e⟩
      refine ⟨a, rfl, .inl ⟨vs, SqL.of h3, out _ H1 Fz1 (fun b => Bz b ∨ 1 ≤ fi b) g0 fi v hv n rv (rest.bmono bs) bs wb ((t.cong fun b => by rw [hf]; omega).weak fun h => by cases h) (ItOk.list (ntrL_bors ds) fun H' Fz' k m => ⟨SqL.of (k a _ h3 (.inr (.inr (.inr (by rw [hsx, h5, if_pos rfl]; omega))))), ?_⟩)⟩⟩
      exact rp.keep (fun b o e z => k b o e (by rcases z with z | z | z <;> simp [z])) m (ntrL_bors ds) fun b o e z => by omega
theorem fors_imp {t : T} {it : I} {b : Ss} (h : LS K mg G W (.fors t it b) D σ H) : tFor (LI K mg G W it) (TGt K.K t) (LSs K mg G W b) D σ H := by
  obtain ⟨ρ, Fz, Bz, f, re, wf, out⟩ := h
  simp only [exS] at out
  refine ⟨ρ, Fz, Bz, f, re, wf, ?_⟩
  cases hI0 : evI G it ρ with
  | no => rw [hI0] at out; exact out.elim
  | ex x ρ' => rw [hI0] at out; exact fun cls dx H' Fz' fρ re' ex a => out cls dx σ H' Fz' fρ re' ex a fun _ _ => rfl
  | ok w ρ1 =>
    rw [hI0] at out
    simp only [R.sbind] at out
    split at out
    · rename_i hw
      intro J H1 Fz1 fρ ra re1 t1 hI hL
      have nolock : ∀ j d, w.2 = some (j, d) → j ∉ t.slots ++ b.asgs := fun j d e hj => by
        rw [e] at hw
        simp only [Option.all_some, Bool.not_eq_true'] at hw
        rw [List.contains_iff_mem.mpr hj] at hw
        cases hw
      let Wv : Nat → Nat → L2.St → Hp → Prop := fun i m σc Hc => m = w.1.length - i ∧ i ≤ w.1.length ∧ ∃ (ρc : Env) (Fzc : Addr → Prop) (fc : Addr → Nat), Re K Hc Fzc Bz σc ρc fc ∧ At Bz false H Fz f Hc Fzc fc ra ∧
        (∀ b o, H1 b = some o → (Fz1 b ∨ Bz b ∨ ¬ Ow o ∨ 1 ≤ ra b) → Hc b = some o) ∧ (∀ b, Fz1 b → Fzc b) ∧ (∀ j, j ∉ t.slots ++ b.asgs → σc[j]? = σ[j]?) ∧
        OutS K mg Bz σ (t.slots ++ b.asgs) H Fz f W ((forL t (exSs G b) (w.1.drop i) ρc).unlock w.2) D
      refine ⟨Wv, ⟨w.1.length, by simp, Nat.zero_le _, ρ1, Fz1, fρ, re1, t1, fun b o e _ => e, fun _ h => h, fun _ _ => rfl, by rw [List.drop_zero]; exact out⟩, ?_⟩
      rintro i m σc Hc ⟨rfl, hi, ρc, Fzc, fc, reC, tC, kC, mC, sC, outC⟩
      by_cases hlt : i < w.1.length
      · refine .inr ?_
        obtain ⟨x, hx⟩ : ∃ x, w.1[i]? = some x := ⟨w.1[i], List.getElem?_eq_getElem hlt⟩
        obtain ⟨go, nx, yl⟩ := (hI Hc Fzc kC mC i).2 x hx
        refine ⟨go, fun σn Hn => ∃ m', m' < w.1.length - i ∧ Wv (i + 1) m' σn Hn, fun _ _ z => z, fun v Hy y => ?_⟩
        obtain ⟨ext, rv⟩ := yl v Hy y
        have kY : ∀ b o, Hc b = some o → Hy b = some o := fun b o e => by
          rcases ext with rfl | ⟨q, o', hq, _, rfl⟩
          · exact e
          · rw [upd_ne (ne_of_none e hq)]; exact e
        have tY : At Bz false H Fz f Hy Fzc fc ra := by
          rcases ext with rfl | ⟨q, o', hq, _, rfl⟩
          · exact tC
          · exact tC.lay hq
        have reY : Re K Hy Fzc Bz σc ρc fc := reC.keep (fun b o e _ => kY b o e) (fun _ z => z) fun b o e _ => kY b o e
        have dr : w.1.drop i = x :: w.1.drop (i + 1) := by
          rw [List.drop_eq_getElem_cons hlt]
          rw [List.getElem?_eq_getElem hlt] at hx
          cases hx; rfl
        rw [dr, forL] at outC
        cases hs : storeT t x ρc with
        | none => rw [hs] at outC; exact outC.elim
        | some ρs =>
          rw [hs] at outC
          simp only at outC
          refine store_ri hs rv reY fun σ1 f1 re2 le1 same => ?_
          have tS : At Bz false H Fz f Hy Fzc f1 ra := tY.less fun b => by have := le1 b; omega
          have sS : ∀ j, j ∉ t.slots ++ b.asgs → σ1[j]? = σ[j]? := fun j hj => (same j fun z => hj (List.mem_append_left _ z)).trans (sC j hj)
          refine ⟨ρs, Fzc, Bz, f1, re2, tS.env, ?_⟩
          -- behind the body
          have go : ∀ {σ' : L2.St} {H' : Hp} {Fz' : Addr → Prop} {fρ rr : Addr → Nat}, At Bz false Hy Fzc f1 H' Fz' fρ rr → (∀ j, j ∉ b.asgs → σ'[j]? = σ1[j]?) →
              At Bz false H Fz f H' Fz' fρ (fun b => ra b + rr b) ∧ (∀ b o, H1 b = some o → (Fz1 b ∨ Bz b ∨ ¬ Ow o ∨ 1 ≤ ra b) → H' b = some o) ∧ (∀ b, Fz1 b → Fz' b) ∧ (∀ j, j ∉ t.slots ++ b.asgs → σ'[j]? = σ[j]?) := fun {σ' H' Fz' fρ rr} a s => by
            refine ⟨(tS.step a.stp a.wf).cong fun b => by omega, fun b o e z => ?_, fun b z => a.stp.mono b (mC b z), fun j hj => (s j fun z => hj (List.mem_append_right _ z)).trans (sS j hj)⟩
            have e' := kY b o (kC b o e z)
            refine a.stp.keep b o e' (.inl ?_)
            have w1 := tS.wf.lin b
            (try dsimp only at w1)
            rcases z with z | z | z | z
            · have := (tS.wf.fz b (mC b z)).1; (try dsimp only at this); omega
            · have := (tS.wf.bz b z).1; (try dsimp only at this); omega
            · by_cases y : 1 ≤ f1 b
              · obtain ⟨o', e2, ow⟩ := tS.wf.own b (by (try dsimp only); omega)
                rw [e'] at e2; cases e2; exact absurd ow z
              · omega
            · omega
          have opn : ∀ {σ' : L2.St} {H' : Hp} {Fz' : Addr → Prop} {fρ rr : Addr → Nat} {ρ' ρ3 : Env}, Re K H' Fz' Bz σ' ρ' fρ → At Bz false Hy Fzc f1 H' Fz' fρ rr → (∀ j, j ∉ b.asgs → σ'[j]? = σ1[j]?) → unlock w.2 ρ' = some ρ3 →
              ∃ f3 : Addr → Nat, Re K H' Fz' Bz σ' ρ3 f3 ∧ At Bz false H Fz f H' Fz' f3 rr ∧ (∀ j, j ∉ t.slots ++ b.asgs → σ'[j]? = σ[j]?) := fun {σ' H' Fz' fρ rr ρ' ρ3} re' a s hu => by
            obtain ⟨t', k', m', s'⟩ := go a s
            have hL' : Lk K H' Fz' Bz σ' ρ' w.2 ra := hL.keep k' m' re'.length fun j d e => s' j (nolock j d e)
            obtain ⟨f3, re3, le3⟩ := unlock_ok hL' re' rfl hu
            exact ⟨f3, re3, t'.less fun b => by have := le3 b; omega, s'⟩
          cases hb : exSs G b ρs with
          | no => rw [hb] at outC; exact outC.elim
          | nx ρ' =>
            rw [hb] at outC
            intro σ' H' Fz' fρ re' a s
            obtain ⟨t', k', m', s'⟩ := go a s
            exact ⟨w.1.length - (i + 1), by omega, rfl, hlt, ρ', Fz', fρ, re', t'.cong fun b => by omega, k', m', s', outC⟩
          | rt d ρ' =>
            rw [hb] at outC
            intro v σ' H' Fz' fρ fd re' own rv' a s
            simp only [SR.bind, SR.unlock] at outC
            cases hu : unlock w.2 ρ' with
            | none => rw [hu] at outC; exact outC.elim
            | some ρ3 =>
              rw [hu] at outC
              obtain ⟨f3, re3, t3, s3⟩ := opn re' a s hu
              exact outC v σ' H' Fz' f3 fd re3 own rv' t3 s3
          | ex x ρ' =>
            rw [hb] at outC
            intro cls dx σ' H' Fz' fρ re' ex a s
            simp only [SR.bind, SR.unlock] at outC
            cases hu : unlock w.2 ρ' with
            | none => rw [hu] at outC; exact outC.elim
            | some ρ3 =>
              rw [hu] at outC
              obtain ⟨f3, re3, t3, s3⟩ := opn re' a s hu
              exact outC cls dx σ' H' Fz' f3 re3 ex t3 s3
      · have ei : i = w.1.length := by omega
        subst ei
        refine .inl ⟨(hI Hc Fzc kC mC _).1 (Nat.le_refl _), ?_⟩
        rw [List.drop_length, forL] at outC
        simp only [SR.unlock] at outC
        cases hu : unlock w.2 ρc with
        | none => rw [hu] at outC; exact outC.elim
        | some ρ3 =>
          rw [hu] at outC
          have hL' : Lk K Hc Fzc Bz σc ρc w.2 ra := hL.keep kC mC reC.length fun j d e => sC j (nolock j d e)
          obtain ⟨f3, re3, le3⟩ := unlock_ok hL' reC rfl hu
          exact outC σc Hc Fzc f3 re3 (tC.less fun b => by have := le3 b; omega) sC
    · exact out.elim
theorem whileU_spec {c : Env → R DE.D} {b : Env → SR} {ρ : Env} (h : whileU c b ρ ≠ .no) : ∃ n, whileN c b n ρ = some (whileU c b ρ) := by
  unfold whileU at h ⊢
  split
  · rename_i hx
    exact ⟨_, Classical.choose_spec (Classical.choose_spec hx)⟩
  · rename_i hx
    rw [dif_neg hx] at h
    exact absurd rfl h
theorem whl_imp {c : E} {b : Ss} (h : LS K mg G W (.whl c b) D σ H) : tWhile (LT K mg G W c) (LSs K mg G W b) D σ H := by
  obtain ⟨ρ, Fz, Bz, f, re, wf, out⟩ := h
  simp only [exS] at out
  obtain ⟨n, hn⟩ := whileU_spec (c := evE G c) (b := exSs G b) (ρ := ρ) fun e => by rw [e] at out; exact out
  let Wv : Nat → L2.St → Hp → Prop := fun m σc Hc => ∃ (ρc : Env) (Fzc : Addr → Prop) (fc : Addr → Nat) (rr : SR), Re K Hc Fzc Bz σc ρc fc ∧ At Bz false H Fz f Hc Fzc fc (fun _ => 0) ∧ (∀ j, j ∉ b.asgs → σc[j]? = σ[j]?) ∧ whileN (evE G c) (exSs G b) m ρc = some rr ∧ OutS K mg Bz σ b.asgs H Fz f W rr D
  refine ⟨Wv, ⟨n, ρ, Fz, f, whileU (evE G c) (exSs G b) ρ, re, (At.start wf).weak (fun h => by cases h), fun _ _ => rfl, hn, out⟩, ?_⟩
  rintro m σc Hc ⟨ρc, Fzc, fc, rr, reC, tC, sC, hw, outC⟩
  cases m with
  | zero => simp [whileN] at hw
  | succ m =>
    rw [whileN] at hw
    refine LT.sub reC tC ?_ ?_ ?_
    · intro x ρ' e
      rw [e] at hw
      simp only [Option.some.injEq] at hw
      subst hw
      exact fun cls dx H' Fz' fρ re' ex a => outC cls dx σc H' Fz' fρ re' ex a sC
    · intro x ρ'
      refine ⟨fun e => ?_, fun e => ?_⟩
      · rw [e] at hw
        simp only [Option.some.injEq] at hw
        subst hw
        exact outC
      · rw [e] at hw
        cases x with
        | dat d => cases d with
          | bool k => exact ⟨k, rfl⟩
          | _ => simp only [Option.some.injEq] at hw; subst hw; exact False.elim outC
        | _ => simp only [Option.some.injEq] at hw; subst hw; exact False.elim outC
    · intro k ρ1 e H1 Fz1 f1 re1 t1
      rw [e] at hw
      have t1' : At Bz false H Fz f H1 Fz1 f1 (fun _ => 0) := t1.weak fun h => by cases h
      cases k with
      | false =>
        rw [if_neg (by decide)]
        simp only [Option.some.injEq] at hw
        subst hw
        exact outC σc H1 Fz1 f1 re1 t1' sC
      | true =>
        rw [if_pos rfl]
        refine ⟨fun σ' H' => ∃ m', m' < m + 1 ∧ Wv m' σ' H', fun _ _ z => z, ρ1, Fz1, Bz, f1, re1, t1'.env, ?_⟩
        simp only at hw
        cases hb : exSs G b ρ1 with
        | nx ρ2 =>
          rw [hb] at hw
          intro σ' H' Fz' fρ re' a s
          exact ⟨m, by omega, ρ2, Fz', fρ, rr, re', t1'.comp a, fun j hj => (s j hj).trans (sC j hj), hw, outC⟩
        | rt d ρ2 =>
          rw [hb] at hw
          simp only [Option.some.injEq] at hw
          subst hw
          exact OutS.on (D := D) t1' sC (fun _ h => h) outC
        | ex x ρ2 =>
          rw [hb] at hw
          simp only [Option.some.injEq] at hw
          subst hw
          exact OutS.on (D := D) t1' sC (fun _ h => h) outC
        | no =>
          rw [hb] at hw
          simp only [Option.some.injEq] at hw
          subst hw
          exact False.elim outC

/-! defs -/
theorem outs_ok : ∀ {io : List Bool} {vs : List V} {σ : L2.St} {ρ : Env} {f : Addr → Nat}, vs.length = io.length → Re K H Fz Bz σ ρ f → (∀ (j : Nat) (v : V), io[j]? = some true → vs[j]? = some v → σ[j]? = some (some v)) →
    ∃ fo : Addr → Nat, RvL K H Fz Bz vs (outsOf io ρ) fo ∧ ∀ b, fo b ≤ f b
  | [], [], _, _, _, _, _, _ => ⟨fun _ => 0, .nil fun _ => rfl, fun b => Nat.zero_le _⟩
  | [], _ :: _, _, _, _, h, _, _ => by simp at h
  | _ :: _, [], _, _, _, h, _, _ => by simp at h
  | b :: io, v :: vs, _, [], f, hl, .nil z, hs => by
    obtain ⟨fo, r, le⟩ := outs_ok (io := io) (vs := vs) (σ := []) (ρ := []) (f := f) (by simpa using hl) (.nil z) fun j w h1 h2 => by
      have := hs (j + 1) w (by simpa using h1) (by simpa using h2)
      simp at this
    exact ⟨fo, .cons (f := fun _ => 0) (.dead fun _ => rfl) r (fun b => by simp), le⟩
  | b :: io, v :: vs, _, d :: ρ, f, hl, .cons (o := o) (s := s) (f := f0) (g := g0) rs t q, hs => by
    obtain ⟨fo, r, le⟩ := outs_ok (io := io) (vs := vs) (by simpa using hl) t fun j w h1 h2 => by simpa using hs (j + 1) w (by simpa using h1) (by simpa using h2)
    rw [outsOf]
    cases b with
    | false => exact ⟨fo, .cons (f := fun _ => 0) (.dead fun _ => rfl) r (fun b => by simp), fun b => by have := le b; rw [q]; omega⟩
    | true =>
      have e := hs 0 v rfl rfl
      simp only [List.getElem?_cons_zero, Option.some.injEq] at e
      subst e
      rcases rs with ⟨e, z⟩ | ⟨w, e, n, rv⟩
      · subst e
        exact ⟨fo, .cons (f := fun _ => 0) (.dead fun _ => rfl) r (fun b => by simp), fun b => by have := le b; rw [q]; omega⟩
      · cases e
        exact ⟨fun b => f0 b + fo b, .cons rv r fun b => rfl, fun b => by have := le b; rw [q]; (try dsimp only); omega⟩
theorem start_ok : ∀ {vs : List V} {ds : List DE.D} {f : Addr → Nat} (n : Nat), RvL K H Fz Bz vs ds f → DE.D.ntrL ds = true → Re K H Fz Bz (vs.map some ++ List.replicate n none) (ds ++ List.replicate n .dead) f
  | _, _, f, 0, .nil z, _ => .nil z
  | _, _, f, n + 1, .nil z, h => .cons (f := fun _ => 0) (g := f) Rs.deadAny (start_ok (vs := []) (ds := []) n (.nil z) h) fun b => by simp
  | _, _, f, n, .cons r t q, h => by
    rw [DE.D.ntrL, Bool.and_eq_true] at h
    exact .cons (.inr ⟨_, rfl, h.1, r⟩) (start_ok n t h.2) q
end
/-- a def's check: parameters that come back are not stored to -/
def FnIR.ioOk (f : FnIR) : Bool := (List.range f.io.length).all fun j => !(f.io.getD j false) || !(f.body.asgs.contains j)

/-- THE RULE of a def -/
theorem fnG_of {ex : XC} {P : Program} {w : World} {K : PySem.W.Frag} {mg : Str → Option Value} {base : Heap} {k : Nat} {f : Addr} {fd : FuncData} {x qual : Str} {params : Arguments} {body : List Stmt} {scope : Scope} {kws : List (Str × V)} {N ps : List Str} {G : List Fn} {ir : FnIR}
    (F : FunD K x qual params body scope [] kws f fd) (S : FnScope N ps scope) (hn : ir.n = N.length) (hio : ir.io.length = ps.length) (hok : ir.ioOk = true)
    (hbody : ∀ (cdv : Value) (A : Around) (outer : List PySem.Env) (s : Shared) (H : Hp) (E : XK), A.guards = some [] → Room k (A.deeper (envOfC qual scope s.heap.objs.size f cdv)) →
      PSs (cxOf (L2.CX P w) P w K mg base N qual scope f cdv A outer s H E) body (LSs (kf P w K mg ex) mg G (fun cls d _ H => E cls d H) ir.body)) :
    FnG P w K mg base (L2.CX P w) (k + 1) f fd ps (spF (kf P w K mg ex) mg ps.length (runF G ir)) := by
  obtain ⟨oc, od, dV, kV, doc, pm, an, cdv, ct, osl, rfl, lk, hcd, _, _⟩ := F.ex
  refine ⟨fun vs H Q E h => h.1, fun A outer s H args us vs Q E gd hr e0 hb r hsp => ?_⟩
  obtain ⟨hl, ds, Fz, Bz, fa, rv, nt, wf, out⟩ := hsp
  have KX : K.In s.heap := e0.mod.kin.keeps fun b o e => (e0.bs b o e).1
  have lim : s.heap.NoLimit := e0.mod.nolimit.keeps fun b o e => (e0.bs b o e).1
  have kinds : ∀ y ∈ ps.zip us, scope.names.lookup y.1 = some .local ∨ (scope.names.lookup y.1 = some .cell ∧ ((cellsFrom (s.heap.objs.size + 1) scope.names []).lookup y.1).isSome = true) := fun y hy => by
    obtain ⟨n, v⟩ := y
    exact (S.par n (List.of_mem_zip hy).1).imp id fun q => ⟨q, PySem.W.cellsFrom_some _ _ _ (.inl q)⟩
  refine codeAny_call_function hr.depth (KX _ _ lk) rfl S.co S.gen rfl (PySem.W.codeRec_of KX hcd) (hb _ _ _ _ (wpAny_newFunctionEnv_cells S.kind kinds ?_))
  intro env he s1 ic
  subst he
  refine ⟨lim.keeps ic.toInCall.keep, codeAny_func ?_⟩
  have I : Inv (cxOf (L2.CX P w) P w K mg base N qual scope f cdv A outer s H E) [] (L2.start N vs) H s1 := inv_start S hr.hd e0 hl r ic
  have hpl : ps.length ≤ N.length := by have := congrArg List.length S.pre; rw [List.length_take] at this; omega
  have dl : ds.length = ps.length := by rw [← rv.length]; exact hl
  -- the body's run
  have reading : LSs (kf P w K mg ex) mg G (fun cls d _ H => E cls d H) ir.body { nx := fun _ H' => Q .non H', rt := Q } (L2.start N vs) H := by
    have re0 : Re (kf P w K mg ex) H Fz Bz (L2.start N vs) (ds ++ List.replicate (ir.n - ds.length) .dead) fa := by
      unfold L2.start
      rw [hn, dl, ← hl]
      exact start_ok _ rv nt
    refine ⟨_, Fz, Bz, fa, re0, wf, ?_⟩
    have hrun : runF G ir ds = match exSs G ir.body (ds ++ List.replicate (ir.n - ds.length) .dead) with
        | .rt d ρ => .ret d (outsOf ir.io ρ)
        | .nx ρ => .ret (.dat .none) (outsOf ir.io ρ)
        | .ex x ρ => .ex x (outsOf ir.io ρ)
        | .no => .no := by
      unfold runF
      rw [if_pos ⟨by rw [dl, hio], by rw [hio, hn]; exact hpl⟩]
      all_goals (cases exSs G ir.body (ds ++ List.replicate (ir.n - ds.length) .dead) <;> rfl)
    rw [hrun] at out
    have outs : ∀ {H' : Hp} {Fz' : Addr → Prop} {σ' : L2.St} {ρ : Env} {fρ : Addr → Nat}, Re (kf P w K mg ex) H' Fz' Bz σ' ρ fρ → (∀ j, j ∉ ir.body.asgs → σ'[j]? = (L2.start N vs)[j]?) → ∃ fo : Addr → Nat, RvL (kf P w K mg ex) H' Fz' Bz vs (outsOf ir.io ρ) fo ∧ ∀ b, fo b ≤ fρ b := fun {H' Fz' σ' ρ fρ} re' same => by
      have stl : ∀ j v, vs[j]? = some v → (L2.start N vs)[j]? = some (some v) := fun j v h => by
        have l : j < vs.length := (List.getElem?_eq_some_iff.mp h).1
        unfold L2.start
        rw [List.getElem?_append_left (by simpa using l), List.getElem?_map, h]; rfl
      have io' : ∀ j v, ir.io[j]? = some true → vs[j]? = some v → σ'[j]? = some (some v) := fun j v h1 h2 => by
        have lj : j < ir.io.length := (List.getElem?_eq_some_iff.mp h1).1
        have z := List.all_eq_true.mp hok j (List.mem_range.mpr lj)
        rw [List.getD_eq_getElem?_getD, h1] at z
        have nj : j ∉ ir.body.asgs := fun hj => by
          rw [List.contains_iff_mem.mpr hj] at z
          simp at z
        rw [same j nj]
        exact stl j v h2
      exact outs_ok (by rw [hio]; exact hl) re' io'
    cases hx : exSs G ir.body (ds ++ List.replicate (ir.n - ds.length) .dead) with
    | nx ρ =>
      rw [hx] at out
      intro σ' H' Fz' fρ re' a same
      obtain ⟨fo, ro, le⟩ := outs re' same
      exact out .non H' Fz' fo (fun _ => 0) ro rfl (.dat .non fun _ => rfl) (a.less fun b => by have := le b; omega)
    | rt d ρ =>
      rw [hx] at out
      intro v σ' H' Fz' fρ fd re' own rv' a same
      obtain ⟨fo, ro, le⟩ := outs re' same
      exact out v H' Fz' fo fd ro own rv' (a.less fun b => by have := le b; omega)
    | ex x ρ =>
      rw [hx] at out
      intro cls dx σ' H' Fz' fρ re' ex a same
      obtain ⟨fo, ro, le⟩ := outs re' same
      exact out cls dx H' Fz' fo ro ex (a.less fun b => by have := le b; omega)
    | no => rw [hx] at out; exact out
  have ht := hbody cdv A outer s H E gd (hr.deeper _)
  refine wpAny_mono (ht.run [] s1 (L2.start N vs) H _ I reading) (fun fl s' hs => ?_) fun e s' hs => hs
  have fin : ∀ {σ' : L2.St} {H' : Hp} {v : V} {u : Value}, Inv (cxOf (L2.CX P w) P w K mg base N qual scope f cdv A outer s H E) [] σ' H' s' → RelV v u → Q v H' → CE outer P w H s Q u s' :=
    fun {σ' H' v u} J rv q => ⟨v, H', J.os, J.bare, J.base, J.hok, rv, q⟩
  match fl, hs with
  | .ret u, ⟨v, σ', H', J, rv, q⟩ => exact fin J rv q
  | .next, ⟨σ', H', J, q⟩ => exact fin (v := V.non) (u := Value.none) J rfl q
  | .brk, ⟨_, _, _, q⟩ => exact False.elim q
  | .cont, ⟨_, _, _, q⟩ => exact False.elim q
end DE
end

section
set_option Elab.async false
set_option linter.all false
set_option maxHeartbeats 1000000
/-! DE17b: forgotten slots, exceptions: raised, caught, looked at. -/
namespace DE
open PySem PySem.Spec PyProof.Rows L2

section
variable {K : Kx} {mg : Str → Option Value} {G : List Fn} {W : WX} {σ σ0 σ1 : L2.St} {Bz Bz' Fz0 Fz Fz1 Fz2 : Addr → Prop} {pu p q : Bool} {H0 H H1 H2 : Hp} {f0 f r f1 r1 f2 g : Addr → Nat} {ρ ρ1 ρ2 : Env} {D : Ends} {asg asg1 : List Nat}
theorem kill_re {i : Nat} (re : Re K H Fz Bz σ ρ f) (o : Option V) : ∃ g, Re K H Fz Bz σ (ρ.set i .dead) g ∧ (i < ρ.length → Re K H Fz Bz (σ.set i o) (ρ.set i .dead) g) ∧ ∀ b, g b ≤ f b := by
  by_cases l : i < ρ.length
  · obtain ⟨o', fi, g, eo, rs', hf, rest⟩ := re.split l
    refine ⟨g, rest, fun _ => ?_, fun b => by rw [hf]; omega⟩
    exact rest.put (o := o) l Rs.deadAny (f := g) fun b => by simp
  · have e : ρ.set i DE.D.dead = ρ := List.set_eq_of_length_le (by omega)
    rw [e]
    exact ⟨f, re, fun h => absurd h l, fun b => Nat.le_refl _⟩
theorem kill_imp {i : Nat} {rs : Ss} (h : LSs K mg G W (.cons (.kill i) rs) D σ H) : LSs K mg G W rs D σ H := by
  obtain ⟨ρ, Fz, Bz, f, re, wf, out⟩ := h
  simp only [exSs, exS, SR.bind] at out
  obtain ⟨g, re', _, le⟩ := kill_re re none
  have t : At Bz true H Fz f H Fz g (fun _ => 0) := (At.start wf).less fun b => by have := le b; omega
  exact ⟨_, Fz, Bz, g, re', t.env, OutS.on (t.weak fun h => by cases h) (fun _ _ => rfl) (fun j h => by simp [Ss.asgs, S.asgs, h]) out⟩
end

/-! ### raise -/
section
variable {X : Cx} {xz : Xs} {G : List Fn} {W : WX} {pos pos2 p p2 : Pos}
theorem PS.imp {st : Stmt} {t t' : TS} (h : PS X st t) (i : ∀ D σ H, t' D σ H → t D σ H) : PS X st t' := ⟨fun pins s σ H D I z => h.run pins s σ H D I (i _ _ _ z)⟩
theorem PSs.imp {st : List Stmt} {t t' : TS} (h : PSs X st t) (i : ∀ D σ H, t' D σ H → t D σ H) : PSs X st t' := ⟨fun pins s σ H D I z => h.run pins s σ H D I (i _ _ _ z)⟩
/-- a class without a way to be made of its own, made of a text -/
theorem ps_rse0 {x m : Str} {c : Addr} {j : Nat} (hc : X.calm = true) (tk : Takes X W) (hex : x ∈ xz.ex) (q : PySem.W.excIn X.K c He.veBase "ValueError.__new__" = true) (gC : X.mg x = some (.ref c)) (kC : PySem.W.keepIn X.K (.ref c) = true) (h1 : PySem.W.subIn X.K (.ref c) (.type "BaseException") = some true) (h2 : PySem.W.typeIn X.K (.ref c) = some (.type "type")) (hg : Gl X x) (hd : (x == ("__debug__" : Str)) = false) :
    PS X (.Raise (some (.Call (.Name x p) [.Constant (.str m) j p2] [] pos)) none pos2) (LS (kx X xz) X.mg G W (.rse x [] (.cons (.cst (.str m)) .nil))) := by
  refine PS.imp (ps_raise hc tk (pmk_own PySem.F.excBase_ValueError q gC kC (raises_own h1 h2) hg hd)) fun D σ H ⟨ρ, Fz, Bz, f, re, wf, out⟩ => ?_
  have z : exS G (.rse x [] (.cons (.cst (.str m)) .nil)) ρ = .ex (.exc x []) ρ := by
    simp only [exS, evEs, evE, R.two, R.bind, R.sbind]
    rfl
  rw [z] at out
  exact out _ none σ H Fz f re ⟨x, [], c, rfl, hex, gC, rfl, rfl⟩ ((At.start wf).weak fun h => by cases h) fun _ _ => rfl
end

/-! ### an exception's own __init__ -/
theorem sq {x y : Str} (h : (x == y) = true) : x = y := by simpa using h
theorem method_cls {prog : Program} {w : World} {A : Around} {E : Value → Shared → Prop} {s : Shared} {K : PySem.W.Frag} {C : Addr} {name : Str} {v : Value} {pl : Sem Bool} {Q : Value × List Value → Shared → Prop} (X : K.In s.heap) (hr : PySem.W.readsIn K C (.type "type") = true)
    (e : PySem.W.findCls K (.ref C) (.type "type") name = some (.val v)) (hh : PySem.W.handedIn v = true) (h : Q (v, []) { s with toks := s.toks + 1 }) : wpAny (model prog w) A (getMethod (.ref C) name pl) Q E s := by
  simp only [PySem.W.readsIn, Bool.and_eq_true, beq_iff_eq] at hr
  obtain ⟨⟨⟨⟨a, b⟩, c'⟩, d⟩, f⟩ := hr
  obtain ⟨hk, d⟩ := Option.isSome_iff_exists.mp d
  unfold getMethod specialOf
  refine wpAny_bind (wpAny_bind ((PySem.W.looks_typeIn X b).here ((PySem.W.looks_findIn X c').here ?_)))
  simp only
  rw [if_pos PySem.W.canon_tga]
  refine wpAny_bind (wpAny_mono (Q := fun u => Q (u, [])) (E := E) ?_ (fun _ _ z => wpAny_pure z) fun _ _ z => z)
  exact PySem.W.cls_open X (PySem.W.looks_opaque X a) (PySem.W.looks_typeIn X b) c' (PySem.W.looks_hook X d) f e (wpAny_pure (by show wpAny _ _ (handedOut v) _ _ _; rw [PySem.W.handedOut_of hh]; exact wpAny_pure h))
section
variable {X : Cx} {e : Expr} {es : List Expr} {ta : TA} {p1 p2 pos : Pos} {x : Str} {le : Addr}
/-- BASE.__init__(self, ..), BASE an own class that has none of its own -/
theorem pe_leinit (hg : Gl X x) (hm : X.mg x = some (.ref le)) (hd : (x == ("__debug__" : Str)) = false) (rd : PySem.W.readsIn X.K le (.type "type") = true) (vV : PySem.W.findCls X.K (.ref le) (.type "type") "__init__" = some (.val (.builtin "ValueError.__init__"))) (ha : PA X (e :: es) ta)
    (hfew : ((backTo pos (starEach (e :: es) X.env)).all (fun x => !x.1) && (backToKw pos (keywordEach [] X.env)).all (fun x => x.1.isSome)
      && decide ((e :: es).length + ([] : List Keyword).length + (if ([] : List Keyword).isEmpty then 0 else 1) < 30)) = true) (hline : (p2.endLine == pos.line) = true)
    (he : starEach (e :: es) X.env = (false, eval e X.env) :: starEach es X.env := by rfl) (hpl : (backTo pos (starEach es X.env)).any (·.1) = false := by rfl) :
    PE X (.Call (.Attribute (.Name x p1) "__init__" p2) (e :: es) [] pos) (tVeI X.K ta) := by
  refine ⟨fun pins s σ H Q I h => ?_⟩
  have hform : methodCallForm ((e :: es).length + ([] : List Keyword).length) (backTo pos (starEach (e :: es) X.env)) (backToKw pos (keywordEach [] X.env)) = true := hfew
  have hpos : methodCallPos true (.Name x p1) X.env p2 pos = pure pos := by simp [methodCallPos, hline]
  rw [arm_eval_Call, show attributeBase (.Name x p1) "__init__" X.env (eval (.Name x p1) X.env) = eval (.Name x p1) X.env from rfl]
  refine wpAny_bind (ld_glob I hg hm ?_ hd)
  refine wpAny_bind (wpAny_standAt ?_)
  unfold methodCall
  rw [hform]
  refine wpAny_bind (wpAny_holding (method_cls I.kIn rd vV (by decide +kernel) ?_))
  refine wpAny_bind (wpAny_of_eq hpos ?_)
  show wpAny _ _ (callWith pos (Value.builtin "ValueError.__init__") [] (backTo pos (starEach (e :: es) X.env)) []) _ _ _
  refine PyProof.Rows.callWith_method1 (thn (ha.run pos pins _ σ H _ (I.tok _) h) fun us s1 ⟨vs, H1, I1, r1, a, C, ws, ev, hl, T, ea, q⟩ => ?_) he hpl
  subst ev
  cases r1 with
  | @cons _ u0 _ ur ra rw' =>
    obtain rfl : u0 = Value.ref a := ra
    refine oinit_ok T I1 ea ?_ fun s' J => ⟨.non, H1, J, rfl, q⟩
    rw [← Paired.length rw', sizeLine_eq]
    omega
end
/-- what such an __init__ leaves -/
def spI (K : PySem.W.Frag) (fs : List Str) : Sp := fun vs H Q _ => ∃ (a C : Addr) (ws : List V), vs = .ref a :: ws ∧ ws.length = fs.length ∧ OexC K C ∧ (∀ f ∈ fs, PySem.W.findIn K (.ref C) f = some none) ∧ H a = some (exo a C none) ∧
  ∀ dx, H dx = none → dx ≠ a → Q .non (upd (upd H dx (exd dx (fs.zip ws).reverse)) a (exo a C (some dx)))
theorem exd_ne {dx : Addr} {fs gs : List (Str × V)} {H : Hp} {a C : Addr} {d : Option Addr} : True := trivial
/-- def __init__(self, f): BASE.__init__(self, ".."); self.f = f -/
def ini1B (f : Str) (body : List Stmt) : Bool := match body with
  | [.Expr (.Call (.Attribute (.Name b _) m ap) [.Name s1 _, .Constant (.str _) _ _] [] cp) _, .Assign [.Attribute (.Name s2 _) g _] (.Name f2 _) _] => ap.endLine == cp.line && b == ("LineError" : Str) && m == ("__init__" : Str) && s1 == ("self" : Str) && s2 == ("self" : Str) && g == f && f2 == f
  | _ => false
def ini2B (f f' : Str) (body : List Stmt) : Bool := match body with
  | [.Expr (.Call (.Attribute (.Name b _) m ap) [.Name s1 _, .Constant (.str _) _ _] [] cp) _, .Assign [.Attribute (.Name s2 _) g _] (.Name f2 _) _, .Assign [.Attribute (.Name s3 _) g' _] (.Name f3 _) _] => ap.endLine == cp.line && b == ("LineError" : Str) && m == ("__init__" : Str) && s1 == ("self" : Str) && s2 == ("self" : Str) && g == f && f2 == f && s3 == ("self" : Str) && g' == f' && f3 == f'
  | _ => false
section
variable {X : Cx}
theorem vis_pe {i : Nat} {x : Str} {pos : Pos} (h : X.N[i]? = some x) (hl : X.env.scope.names.lookup x = some .local) (h3 : (x == ("__debug__" : Str)) = false) (h4 : (x == ("__classdict__" : Str)) = false) : PE X (.Name x pos) (tVar i) := pe_var h (.inl hl) h3 h4
theorem upd3 {H : Hp} {dx a : Addr} {o1 o2 o3 : HO} (h2 : dx ≠ a) : upd (upd (upd H dx o1) a o2) dx o3 = upd (upd H dx o3) a o2 := by
  funext b
  by_cases e1 : b = dx
  · subst e1; rw [upd_same, upd_ne h2, upd_same]
  · rw [upd_ne e1]
    by_cases e2 : b = a
    · subst e2; rw [upd_same, upd_same]
    · rw [upd_ne e2, upd_ne e2, upd_ne e1, upd_ne e1]
theorem ini1_run {f : Str} {le : Addr} {body : List Stmt} {a C : Addr} {w : V} {Q : VK} {H : Hp} (hb : ini1B f body = true) (hN : X.N = [("self" : Str), f]) (hs : X.env.scope.names.lookup ("self" : Str) = some NameKind.local) (hf : X.env.scope.names.lookup f = some NameKind.local) (hfd : (f == ("__debug__" : Str)) = false) (hfc : (f == ("__classdict__" : Str)) = false)
    (hg : Gl X "LineError") (hm : X.mg "LineError" = some (.ref le)) (rd : PySem.W.readsIn X.K le (.type "type") = true) (vV : PySem.W.findCls X.K (.ref le) (.type "type") "__init__" = some (.val (.builtin "ValueError.__init__")))
    (T : OexC X.K C) (no : PySem.W.findIn X.K (.ref C) f = some none) (ea : H a = some (exo a C none)) (q : ∀ dx, H dx = none → dx ≠ a → Q .non (upd (upd H dx (exd dx [(f, w)])) a (exo a C (some dx)))) :
    ∃ t, PSs X body t ∧ t { nx := fun _ H' => Q .non H', rt := Q } (L2.start X.N [.ref a, w]) H := by
  unfold ini1B at hb
  split at hb
  · simp only [Bool.and_eq_true] at hb
    obtain ⟨⟨⟨⟨⟨⟨h0, h1⟩, h2⟩, h3⟩, h4⟩, h5⟩, h6⟩ := hb
    have e1 := sq h1
    have e2 := sq h2
    have e3 := sq h3
    have e4 := sq h4
    have e5 := sq h5
    have e6 := sq h6
    subst e1 e2 e3 e4 e5 e6
    have v0 := fun p => vis_pe (X := X) (i := 0) (x := "self") (pos := p) (by rw [hN]; rfl) hs (by decide) (by decide)
    have v1 := fun p => vis_pe (X := X) (i := 1) (pos := p) (by rw [hN]; rfl) hf hfd hfc
    refine ⟨_, pss_cons (ps_expr (pe_leinit hg hm (by decide) rd vV (pa_cons (v0 _) (pa_cons pe_str pa_nil)) rfl h0)) (pss_one (ps_ost (v0 _) (v1 _))), ?_⟩
    rw [hN]
    refine ⟨_, rfl, a, C, [_], rfl, by simp, T, ea, ?_⟩
    exact ⟨_, rfl, _, rfl, a, C, rfl, T, no, .inl ⟨ea, fun dx h1 h2 => q dx h1 h2⟩⟩
  · cases hb
theorem ini2_run {f f' : Str} {le : Addr} {body : List Stmt} {a C : Addr} {w w' : V} {Q : VK} {H : Hp} (hb : ini2B f f' body = true) (hN : X.N = [("self" : Str), f, f']) (hs : X.env.scope.names.lookup ("self" : Str) = some NameKind.local) (hf : X.env.scope.names.lookup f = some NameKind.local) (hfd : (f == ("__debug__" : Str)) = false) (hfc : (f == ("__classdict__" : Str)) = false)
    (hf' : X.env.scope.names.lookup f' = some NameKind.local) (hfd' : (f' == ("__debug__" : Str)) = false) (hfc' : (f' == ("__classdict__" : Str)) = false)
    (hg : Gl X "LineError") (hm : X.mg "LineError" = some (.ref le)) (rd : PySem.W.readsIn X.K le (.type "type") = true) (vV : PySem.W.findCls X.K (.ref le) (.type "type") "__init__" = some (.val (.builtin "ValueError.__init__")))
    (T : OexC X.K C) (no : PySem.W.findIn X.K (.ref C) f = some none) (no' : PySem.W.findIn X.K (.ref C) f' = some none) (ea : H a = some (exo a C none)) (q : ∀ dx, H dx = none → dx ≠ a → Q .non (upd (upd H dx (exd dx [(f', w'), (f, w)])) a (exo a C (some dx)))) :
    ∃ t, PSs X body t ∧ t { nx := fun _ H' => Q .non H', rt := Q } (L2.start X.N [.ref a, w, w']) H := by
  unfold ini2B at hb
  split at hb
  · simp only [Bool.and_eq_true] at hb
    obtain ⟨⟨⟨⟨⟨⟨⟨⟨⟨h0, h1⟩, h2⟩, h3⟩, h4⟩, h5⟩, h6⟩, h7⟩, h8⟩, h9⟩ := hb
    have e1 := sq h1
    have e2 := sq h2
    have e3 := sq h3
    have e4 := sq h4
    have e5 := sq h5
    have e6 := sq h6
    have e7 := sq h7
    have e8 := sq h8
    have e9 := sq h9
    subst e1 e2 e3 e4 e5 e6 e7 e8 e9
    have v0 := fun p => vis_pe (X := X) (i := 0) (x := "self") (pos := p) (by rw [hN]; rfl) hs (by decide) (by decide)
    have v1 := fun p => vis_pe (X := X) (i := 1) (pos := p) (by rw [hN]; rfl) hf hfd hfc
    have v2 := fun p => vis_pe (X := X) (i := 2) (pos := p) (by rw [hN]; rfl) hf' hfd' hfc'
    refine ⟨_, pss_cons (ps_expr (pe_leinit hg hm (by decide) rd vV (pa_cons (v0 _) (pa_cons pe_str pa_nil)) rfl h0)) (pss_cons (ps_ost (v0 _) (v1 _)) (pss_one (ps_ost (v0 _) (v2 _)))), ?_⟩
    rw [hN]
    refine ⟨_, rfl, a, C, [_], rfl, by simp, T, ea, ?_⟩
    refine ⟨_, rfl, _, rfl, a, C, rfl, T, no, .inl ⟨ea, fun dx h1 h2 => ?_⟩⟩
    refine ⟨_, rfl, _, rfl, a, C, rfl, T, no', .inr ⟨dx, _, upd_same, by rw [upd_ne h2]; exact upd_same, by simp, ?_⟩⟩
    rw [upd3 h2]
    exact q dx h1 h2
  · cases hb
end

section
variable {X : Cx} {xz : Xs} {G : List Fn} {W : WX} {pos pos2 p : Pos}
/-- .. made by an __init__ that keeps what it is handed -/
theorem ps_rse1 {x : Str} {c fI : Addr} {fs : List Str} {es : Es} {y : Expr} {ys : List Expr} {k : Nat} {fd : FuncData} {ps : List Str} (hc : X.calm = true) (tk : Takes X W) (hex : x ∈ xz.ex) (hfs : fs.isEmpty = false) (hsm : fs.length ≤ 1000) (T : OexC X.K c) (no : ∀ f ∈ fs, PySem.W.findIn X.K (.ref c) f = some none)
    (iC : PySem.W.findIn X.K (.ref c) "__init__" = some (some (.ref fI))) (tI : PySem.W.typeIn X.K (.ref fI) = some (.type "function")) (F1 : FnOk X.prog X.w X.K X.mg X.base (L2.CX X.prog X.w) k fI fd ps (spI X.K fs)) (hr : Room (k + 1) X.A) (hb : Binds X.K fd ps [])
    (hg : Gl X x) (hm : X.mg x = some (.ref c)) (hd : (x == ("__debug__" : Str)) = false) (ha : PA X (y :: ys) (LEs (kx X xz) X.mg G W es)) (he : starEach (y :: ys) X.env = (false, eval y X.env) :: starEach ys X.env) (hpl : (backTo pos (starEach ys X.env)).any (·.1) = false) :
    PS X (.Raise (some (.Call (.Name x p) (y :: ys) [] pos)) none pos2) (LS (kx X xz) X.mg G W (.rse x fs es)) := by
  have passes : Passes (L2.CX X.prog X.w) X (fun _ _ _ => False) := fun _ _ _ _ _ _ _ z => by
    obtain ⟨_, _, _, _, _, _, _, _, _, _, _, _, w⟩ := z
    exact w.elim
  refine PS.imp (ps_raise hc tk (pmk_oex T iC tI F1 hr hb .nil passes hg hm ha hd he hpl)) fun D σ H ⟨ρ, Fz, Bz, f, re, wf, out⟩ => ?_
  simp only [exS] at out
  refine LEs.sub re (At.start wf) ?_ ?_ ?_
  · intro x ρ' e; rw [e] at out; exact fun cls dx H' Fz' fρ re' ex a => out cls dx σ H' Fz' fρ re' ex a fun _ _ => rfl
  · intro e; rw [e] at out; exact out
  · intro xs ρ1 e1 vs H1 Fz1 fρ fd1 re1 rv s1 t1
    rw [e1] at out
    simp only [R.sbind] at out
    cases hz : DE.D.fzL xs with
    | none => rw [hz] at out; exact out.elim
    | some ds =>
      rw [hz] at out
      simp only [excF, hfs] at out
      by_cases hl : fs.length = ds.length
      · rw [if_neg (by decide), if_pos hl] at out
        simp only at out
        have rp := rv.freeze hz
        have t2 := t1.freeze (r1 := fun _ => 0) (g := fd1) fun b => by omega
        have re2 := re1.monoF (Fz' := fun b => Fz1 b ∨ 1 ≤ fd1 b) fun b h => .inl h
        have hlv : vs.length = fs.length := by rw [rp.length]; exact hl.symm
        have small : vs.length ≤ 1000 := by rw [hlv]; exact hsm
        refine ⟨small, fun a na => ?_⟩
        rw [List.append_nil]
        refine ⟨a, c, vs, rfl, hlv, T, no, upd_same, fun dx hdx ne => ?_⟩
        rw [upd_ne ne] at hdx
        refine ⟨rfl, dx, (fs.zip vs).reverse, upd_same, by rw [upd_ne ne]; exact upd_same, hdx, ?_⟩
        have eH : upd (del (upd (upd (upd H1 a (exo a c none)) dx (exd dx (fs.zip vs).reverse)) a (exo a c (some dx))) a) dx (.xd (fs.zip vs).reverse) = upd H1 dx (.xd (fs.zip vs).reverse) := by
          funext b
          by_cases e1 : b = dx
          · subst e1; rw [upd_same, upd_same]
          · rw [upd_ne e1, upd_ne e1]
            by_cases e2 : b = a
            · subst e2; rw [del_same, na]
            · rw [del_ne e2, upd_ne e2, upd_ne e1, upd_ne e2]
        rw [eH]
        have no' : ¬ Ow (HO.xd (fs.zip vs).reverse) := fun z => z
        refine out _ (some dx) σ _ (fun b => Fz1 b ∨ 1 ≤ fd1 b) fρ (re2.keep (fun b o e _ => by rw [upd_ne (ne_of_none e hdx)]; exact e) (fun _ z => z) fun b o e _ => by rw [upd_ne (ne_of_none e hdx)]; exact e) ?_ ((t2.lay hdx).weak fun h => by cases h) fun _ _ => rfl
        refine ⟨x, (fs.zip ds).reverse, c, rfl, hex, hm, rfl, (fs.zip vs).reverse, upd_same, ?_, ?_⟩
        · rw [List.map_reverse, List.map_reverse, List.map_fst_zip (by omega), List.map_fst_zip (by omega)]
        · rw [List.map_reverse, List.map_reverse, List.map_snd_zip (by omega), List.map_snd_zip (by omega)]
          exact (rp.up hdx).reverse
      · rw [if_neg (by decide), if_neg hl] at out
        exact out.elim
end

/-! ### try -/
mutual
theorem nex_of_own : ∀ {d : D}, d.own = true → d.nex = true
  | .dat _, _ => rfl
  | .lst xs, h => by simp only [D.own] at h; simp only [D.nex]; exact nexL_of_own h
  | .dct kvs, h => by simp only [D.own] at h; simp only [D.nex]; exact nexK_of_own h
  | .dtt _, _ => rfl
  | .ins _ fs, h => by simp only [D.own] at h; simp only [D.nex]; exact nexF_of_own h
  | .exc _ _, h => by simp [D.own] at h
  | .bor _, _ => rfl
  | .tr _, h => by simp [D.own] at h
  | .dead, _ => rfl
theorem nexL_of_own : ∀ {d : List D}, D.ownL d = true → D.nexL d = true
  | [], _ => rfl
  | x :: r, h => by
    rw [D.ownL, Bool.and_eq_true] at h
    rw [D.nexL, nex_of_own h.1, nexL_of_own h.2]; rfl
theorem nexK_of_own : ∀ {d : List (L2.Key × D)}, D.ownK d = true → D.nexK d = true
  | [], _ => rfl
  | (_, x) :: r, h => by
    rw [D.ownK, Bool.and_eq_true] at h
    rw [D.nexK, nex_of_own h.1, nexK_of_own h.2]; rfl
theorem nexF_of_own : ∀ {d : List (Str × D)}, D.ownF d = true → D.nexF d = true
  | [], _ => rfl
  | (_, x) :: r, h => by
    rw [D.ownF, Bool.and_eq_true] at h
    rw [D.nexF, nex_of_own h.1, nexF_of_own h.2]; rfl
end
abbrev WnS : WX := fun _ _ _ _ => False
def refA : Value → Addr
  | .ref a => a
  | _ => 0
/-- with one more exception at hand -/
abbrev Kx.at (K : Kx) (a : Addr) (cls : Value) (d : Option Addr) : Kx := ⟨K.K, K.mg, ⟨K.xs.ex, (a, refA cls, d) :: K.xs.l, K.xs.cl⟩, K.P, K.w⟩
section
variable {K : Kx} {mg : Str → Option Value} {G : List Fn} {W : WX} {σ σ0 σ1 : L2.St} {Bz Bz' Fz0 Fz Fz1 Fz2 : Addr → Prop} {pu p q : Bool} {H0 H H1 H2 : Hp} {f0 f r f1 r1 f2 g : Addr → Nat} {ρ ρ1 ρ2 : Env} {D : Ends} {asg asg1 : List Nat}
theorem suite_none {rs : SR} (h : OutS K mg Bz σ asg H Fz f W (rs.suite none) D) : OutS K mg Bz σ asg H Fz f WnS rs D := by
  cases rs with
  | nx ρ => exact h
  | rt d ρ => exact h
  | ex x ρ => exact h.elim
  | no => exact h
theorem tri_only_imp {b s : Ss} {C : Str} {ups : List Str} {cv : Value} (hx : ∀ n ∈ K.xs.ex, ∀ a, K.mg n = some (.ref a) → PySem.W.exmOne K.K (.ref a) cv = some (ups.contains n)) (h : LS K mg G W (.tri b none C ups s) D σ H) :
    LSs K mg G (wOnly K.K cv (fun _ _ _ => LSs K mg G WnS s) W D) b D σ H := by
  obtain ⟨ρ, Fz, Bz, f, re, wf, out⟩ := h
  simp only [exS] at out
  have inL : ∀ j, j ∈ b.asgs → j ∈ (S.tri b none C ups s).asgs := fun j h => by simp [S.asgs, h]
  have inS : ∀ j, j ∈ s.asgs → j ∈ (S.tri b none C ups s).asgs := fun j h => by simp [S.asgs, h]
  refine ⟨ρ, Fz, Bz, f, re, wf, ?_⟩
  cases hb : exSs G b ρ with
  | nx ρ' => rw [hb] at out; exact fun σ' H' Fz' fρ re' a same => out σ' H' Fz' fρ re' a fun j hj => same j fun z => hj (inL j z)
  | rt d ρ' => rw [hb] at out; exact fun v σ' H' Fz' fρ fd re' own rv a same => out v σ' H' Fz' fρ fd re' own rv a fun j hj => same j fun z => hj (inL j z)
  | no => rw [hb] at out; exact out
  | ex x ρ' =>
    rw [hb] at out
    intro cls dx σ' H' Fz' fρ re' ex a same
    obtain ⟨n, fs, cc, rfl, hmem, hmg, rfl, xd⟩ := ex
    simp only at out
    refine ⟨ups.contains n, hx n hmem cc hmg, fun hb1 a0 ha0 => ?_, fun hb0 => ?_⟩
    · rw [if_pos hb1] at out
      exact ⟨ρ', Fz', Bz, fρ, re', a.env, suite_none (OutS.on a (fun j hj => same j fun z => hj (inL j z)) inS out)⟩
    · rw [hb0, if_neg (by decide)] at out
      exact out _ dx σ' H' Fz' fρ re' ⟨n, fs, cc, rfl, hmem, hmg, rfl, xd⟩ a fun j hj => same j fun z => hj (inL j z)
theorem tri_as_imp {b s : Ss} {i : Nat} {C : Str} {ups : List Str} {cv : Value} (hx : ∀ n ∈ K.xs.ex, ∀ a, K.mg n = some (.ref a) → PySem.W.exmOne K.K (.ref a) cv = some (ups.contains n)) (h : LS K mg G W (.tri b (some i) C ups s) D σ H) :
    LSs K mg G (wAs K.K cv i (fun a cls d D σ H => (∃ n c, n ∈ K.xs.ex ∧ K.mg n = some (.ref c) ∧ cls = .ref c) ∧ LSs (K.at a cls d) mg G WnS s D σ H) W D) b D σ H := by
  obtain ⟨ρ, Fz, Bz, f, re, wf, out⟩ := h
  simp only [exS] at out
  have inL : ∀ j, j ∈ b.asgs → j ∈ (S.tri b (some i) C ups s).asgs := fun j h => by simp [S.asgs, h]
  refine ⟨ρ, Fz, Bz, f, re, wf, ?_⟩
  cases hb : exSs G b ρ with
  | nx ρ' => rw [hb] at out; exact fun σ' H' Fz' fρ re' a same => out σ' H' Fz' fρ re' a fun j hj => same j fun z => hj (inL j z)
  | rt d ρ' => rw [hb] at out; exact fun v σ' H' Fz' fρ fd re' own rv a same => out v σ' H' Fz' fρ fd re' own rv a fun j hj => same j fun z => hj (inL j z)
  | no => rw [hb] at out; exact out
  | ex x ρ' =>
    rw [hb] at out
    intro cls dx σ' H' Fz' fρ re' ex t same
    obtain ⟨n, fs, cc, rfl, hmem, hmg, rfl, xd⟩ := ex
    simp only at out
    refine ⟨ups.contains n, hx n hmem cc hmg, fun hb1 a0 ha0 => ?_, fun hb0 => ?_⟩
    · rw [if_pos hb1] at out
      by_cases hc : (decide (i < ρ'.length) && DE.D.nexL ρ') = true
      · rw [if_pos hc] at out
        rw [Bool.and_eq_true] at hc
        have l := of_decide_eq_true hc.1
        have re2 : Re (K.at a0 (.ref cc) dx) H' Fz' Bz σ' ρ' fρ := Re.xmono (K := K) (K' := K.at a0 (.ref cc) dx) ⟨rfl, rfl, rfl, rfl, rfl, rfl⟩ (fun q hq => List.mem_cons_of_mem _ hq) re'
        have rv : Rv (K.at a0 (.ref cc) dx) H' Fz' Bz (.ref a0) (.exc n fs) (fun _ => 0) := .exc List.mem_cons_self ⟨hmem, hmg⟩ xd fun _ => rfl
        obtain ⟨f3, re3, le3⟩ := re2.store l rv rfl
        have t3 : At Bz false H Fz f H' Fz' f3 (fun _ => 0) := t.less fun b => by have := le3 b; omega
        refine ⟨⟨n, cc, hmem, hmg, rfl⟩, _, Fz', Bz, f3, re3, t3.env, ?_⟩
        have sameS : ∀ j, j ∉ (S.tri b (some i) C ups s).asgs → (σ'.set i (some (.ref a0)))[j]? = σ[j]? := fun j hj => by
          rw [List.getElem?_set_ne (fun e => hj (by simp [S.asgs, e]))]
          exact same j fun z => hj (inL j z)
        cases hs : exSs G s (ρ'.set i (.exc n fs)) with
        | no => rw [hs] at out; exact out
        | ex x ρ2 => rw [hs] at out; exact out.elim
        | nx ρ2 =>
          rw [hs] at out
          intro σ2 H2 Fz2 f4 re4 t4 same2
          simp only [SR.suite] at out
          by_cases hn : DE.D.nexL (ρ2.set i .dead) = true
          · rw [if_pos hn] at out
            have l2 : i < ρ2.length ∨ ¬ i < ρ2.length := Nat.lt_or_ge _ _ |>.imp id Nat.not_lt.mpr
            obtain ⟨g, k1, k2, le⟩ := kill_re re4 none
            have rk : Re (K.at a0 (.ref cc) dx) H2 Fz2 Bz (σ2.set i none) (ρ2.set i .dead) g := by
              rcases l2 with l2 | l2
              · exact k2 l2
              · have e : σ2.set i none = σ2 := List.set_eq_of_length_le (by rw [re4.length]; omega)
                rw [e]; exact k1
            refine out (σ2.set i none) H2 Fz2 g (Re.nexK (K := K.at a0 (.ref cc) dx) (K' := K) ⟨rfl, rfl, rfl, rfl, rfl, rfl⟩ rk hn) ((t3.comp t4).less fun b => by have := le b; omega) fun j hj => ?_
            rw [List.getElem?_set_ne (fun e => hj (by simp [S.asgs, e])), same2 j fun z => hj (by simp [S.asgs, z])]
            exact sameS j hj
          · rw [if_neg hn] at out; exact out.elim
        | rt d ρ2 =>
          rw [hs] at out
          intro v σ2 H2 Fz2 f4 fd re4 own rv4 t4 same2
          simp only [SR.suite] at out
          by_cases hn : DE.D.nexL (ρ2.set i .dead) = true
          · rw [if_pos hn] at out
            obtain ⟨g, k1, k2, le⟩ := kill_re re4 none
            refine out v σ2 H2 Fz2 g fd (Re.nexK (K := K.at a0 (.ref cc) dx) (K' := K) ⟨rfl, rfl, rfl, rfl, rfl, rfl⟩ k1 hn) own (Rv.nexK (K := K.at a0 (.ref cc) dx) (K' := K) ⟨rfl, rfl, rfl, rfl, rfl, rfl⟩ rv4 (nex_of_own own)) ((t3.comp t4).less fun b => by have := le b; omega) fun j hj => ?_
            rw [same2 j fun z => hj (by simp [S.asgs, z])]
            exact sameS j hj
          · rw [if_neg hn] at out; exact out.elim
      · rw [if_neg hc] at out
        exact out.elim
    · rw [hb0, if_neg (by decide)] at out
      exact out _ dx σ' H' Fz' fρ re' ⟨n, fs, cc, rfl, hmem, hmg, rfl, xd⟩ t fun j hj => same j fun z => hj (inL j z)
end

/-! ### isinstance of an exception at hand, its fields -/
section
open PySem.W
variable {prog : Program} {w : World} {A : Around} {E : Value → Shared → Prop} {s : Shared} {K : Frag} {e D : Addr} {oe : Obj}
theorem clsObj {od : Option Obj} {name : Str} {a g : Value} (hc : (clsIn K D).isSome = true) (ha : findIn K (.ref D) name = some (some a)) (hg : specialIn K a "__get__" = some (some g)) (ht : takesIn K a = some true) : findObj K D od name = some (.bind g a) := by
  obtain ⟨cd, hcd⟩ := Option.isSome_iff_exists.mp hc
  simp [findObj, hcd, ha, hg, ht]
theorem cls_of_exc {od : Option Obj} {Q : Option Value → Shared → Prop} (C : ExcC K D) (X : K.In s.heap) (I : InstAt s.heap e oe D od) (h : Q (some (.ref D)) { s with toks := s.toks + 1 }) : wpAny (model prog w) A (getAttr? (.ref e) "__class__") Q E s := by
  have hf : findObj K D od "__class__" = some (.bind (.builtin "getset_descriptor.__get__") (.builtin "object.__class__")) := clsObj (by obtain ⟨cd, hc, _⟩ := any_some C.hd; rw [hc]; rfl) C.ha C.hn C.ht
  obtain ⟨hp, gs, dr, tk, os⟩ := s
  have T0 := I.type (M := model prog w)
  have T1 := looks_findIn (M := model prog w) X C.hg
  have T2 := looks_findIn (M := model prog w) X C.hk
  have T3 := looks_find (M := model prog w) X I hf
  have below : Looks (model prog w) hp (isInstance (.ref e) (.type "BaseException")) true := T0.andThen (looks_subIn X C.hs)
  have n0 : (false && onTheHeap (Value.builtin "BaseException.__getattribute__")) = false := rfl
  have n1 : (Value.builtin "BaseException.__getattribute__" == Value.builtin "object.__getattribute__") = false := by decide +kernel
  have n2 : (onTheHeap (Value.ref D) && Value.builtin "BaseException.__getattribute__" == Value.builtin "object.__getattribute__") = false := by rw [n1]; rfl
  unfold getAttr? getAttrBy? getAttrBy
  refine wpAny_bind (wpAny_mkText (wpAny_bind (wpAny_attempt (wpAny_holding (wpAny_bind (T0.at (wpAny_bind (T1.at ?_))))))))
  show wpAny _ _ (if (onTheHeap (Value.ref D) && Value.builtin "BaseException.__getattribute__" == Value.builtin "object.__getattribute__") = true then _ else _) _ _ _
  rw [n2, if_neg Bool.false_ne_true]
  unfold getAttrByItsOwn hookBefore
  refine wpAny_bind (by
    rw [if_pos (show onTheHeap (Value.ref D) = true from rfl)]
    refine T2.at ?_
    refine wpAny_bind (wpAny_attempt (wpAny_holding ?_))
    unfold callGetattribute
    rw [n0, if_neg Bool.false_ne_true]
    unfold boundAndCalled
    rw [PySem.F.excAttr_ValueError.ga.bind (.ref e)]
    refine wpAny_bind (wpAny_pure ?_)
    show wpAny _ _ (call (.builtin "BaseException.__getattribute__") [.ref e, .str "__class__" tk]) _ _ _
    refine wpAny_call (codeAny_call_builtin PySem.F.excAttr_ValueError.ga.plain PySem.F.entry_bexc_ga ?_)
    refine @check_slot (model prog w) _ _ ⟨hp, gs, dr, tk + 1, os⟩ "BaseException.__getattribute__" "BaseException" "__getattribute__" (.ref e) [.str "__class__" tk] [] _ (by decide +kernel) (by decide +kernel) below (PySem.F.args_bexc_ga (.ref e) (.str "__class__" tk)) ?_
    unfold Builtin.«object.__getattribute__»
    refine wpAny_bind (wpAny_of_eq (a := ((Value.ref e : Value), [Value.str "__class__" tk])) (by first | rfl | (simp only [slotArgs]; rfl)) ?_)
    refine wpAny_bind (wpAny_pure (wpAny_bind (T0.at (wpAny_bind (T3.at ?_)))))
    show wpAny _ _ (holding [Value.builtin "object.__class__"] (call (.builtin "getset_descriptor.__get__") [.builtin "object.__class__", .ref e, .ref D]) >>= ret) _ _ _
    refine wpAny_bind (wpAny_holding (wpAny_call (class_get (s := ⟨hp, gs, dr, tk + 1, os⟩) (ox := oe) (od := od) X I C.hm ?_)))
    refine wpAny_pure ?_
    show wpAny _ _ (handedOut (.ref D)) _ _ _
    rw [handedOut_of (v := .ref D) rfl]
    first
      | exact wpAny_pure (wpAny_pure h)
      | exact wpAny_pure h
      | exact wpAny_pure (wpAny_bind (wpAny_pure (wpAny_pure h))))
theorem kitx_of_exc (C : ExcC K D) {od : Option Obj} : KitX K (.ref e) (.ref D) (fun h => InstAt h e oe D od) where
  ty := fun _ _ _ I => I.type
  it := fun M h X _ => by
    obtain ⟨cd, hcd, _⟩ := any_some C.hd
    unfold clsIn at hcd
    split at hcd
    · rename_i ho
      intro A1 Q1 E1 s1 k q
      unfold isType loadHead
      refine wpAny_bind (wpAny_loadPart (k _ _ (X _ _ ho)) (wpAny_pure q))
    · cases hcd
  ne := fun h tp dd its n sl X htp => by
    obtain ⟨cd, hcd, _⟩ := any_some C.hd
    refine Bool.eq_false_iff.mpr fun q => ?_
    obtain rfl : D = tp := Value.ref.inj (eq_of_beq q)
    unfold clsIn at hcd
    split at hcd
    · rename_i ho
      cases (X _ _ ho).symm.trans htp
    · cases hcd
  ca := fun X I k => cls_of_exc C X I k
end

/-- what an exception's class must say for isinstance, for its fields -/
structure ExqC (K : PySem.W.Frag) (c : Addr) : Prop where
  ex : ExcC K c
  fl : XfC K c
/-- the exceptions at hand are pinned -/
def PinOk (X : Cx) (xz : Xs) : Prop := ∀ a c d, (a, c, d) ∈ xz.l → ExqC X.K c ∧ ∃ oe, (a, oe) ∈ X.pn ∧ Zc (.ref c) d oe ∧ ∃ vs, oe.data = .fields vs
/-- where it stands -/
theorem exc_inst {X : Cx} {pins : List (Addr × Obj)} {σ : L2.St} {H : Hp} {s : Shared} {a c : Addr} {d : Option Addr} {oe : Obj} {S : Addr → Prop} {fs : List (Str × PyData)} (I : Inv X pins σ H s) (hp : (a, oe) ∈ X.pn) (hz : Zc (.ref c) d oe) (hf : ∃ vs, oe.data = .fields vs) (xd : XdR X.K H S d fs) :
    ∃ od, PySem.W.InstAt s.heap a oe c od := by
  obtain ⟨hget, _⟩ := I.pin (a, oe) (List.mem_append.mpr (.inl hp))
  obtain ⟨vs, hv⟩ := hf
  cases d with
  | none =>
    refine ⟨none, ?_⟩
    obtain ⟨oc, od, oda, osl⟩ := oe
    obtain ⟨h1, h2⟩ := hz
    simp only at h1 h2 hv
    subst h1 h2 hv
    exact ⟨hget, rfl, rfl, trivial⟩
  | some dd =>
    obtain ⟨ws, hd, _, _⟩ := xd
    have hx : ObjOk X.prog X.w H s.heap dd (.xd ws) := I.hok dd _ hd
    obtain ⟨mA, hns, hr⟩ := hx
    obtain ⟨od, ho, hl⟩ := lookIn_ns hns
    exact ⟨some od, hget, hz.1, by unfold PySem.W.notCls; rw [hv] <;> rfl, by rw [hz.2]; exact ho⟩
/-- isinstance(e, C), e an exception at hand -/
def rIsX (X : Cx) : List V → Hp → VK → Prop := fun vs H Q => ∃ (a c : Addr) (d : Option Addr) (oe : Obj) (S : Addr → Prop) (fs : List (Str × PyData)) (v : V) (cv : Value) (b : Bool), vs = [.ref a, v] ∧ (a, oe) ∈ X.pn ∧ Zc (.ref c) d oe ∧ (∃ ws, oe.data = .fields ws) ∧ XdR X.K H S d fs ∧ ExcC X.K c ∧
  (∀ u, RelV v u → u = cv) ∧ PySem.W.kitOne X.K (.ref c) cv = some b ∧ Q (.bl b) H
theorem call_isX {X : Cx} : CallR X (.builtin "isinstance") (rIsX X) := by
  intro pins s σ H vs us Q I r ⟨a, c, d, oe, S, fs, v, cv, b, e, hp, hz, hf, xd, C, hcv, hk, q⟩
  subst e
  obtain ⟨u1, u2, rfl, r1, r2⟩ := vals2 r
  cases r1
  have e2 := hcv _ r2
  subst e2
  obtain ⟨od, J⟩ := exc_inst I hp hz hf xd
  exact PySem.W.kia_one (kitx_of_exc C) I.kIn J hk (fun z => nomatch z) fun tk => ⟨.bl b, H, I.kept (t' := tk) fun _ _ z => z, rfl, q⟩
/-- isinstance(e, (A, B, ..)) -/
def rIsXT (X : Cx) : List V → Hp → VK → Prop := fun vs H Q => ∃ (a c tp : Addr) (d : Option Addr) (oe : Obj) (S : Addr → Prop) (fs : List (Str × PyData)) (cs : List V) (cvs : List Value) (b : Bool), vs = [.ref a, .ref tp] ∧ H tp = some (.tup cs) ∧ (a, oe) ∈ X.pn ∧ Zc (.ref c) d oe ∧ (∃ ws, oe.data = .fields ws) ∧ XdR X.K H S d fs ∧ ExcC X.K c ∧
  (∀ us, Vals cs us → us = cvs) ∧ PySem.W.kitAny X.K (.ref c) cvs = some b ∧ Q (.bl b) H
theorem call_isXT {X : Cx} : CallR X (.builtin "isinstance") (rIsXT X) := by
  intro pins s σ H vs us Q I r ⟨a, c, tp, d, oe, S, fs, cs, cvs, b, e, hT, hp, hz, hf, xd, C, hcv, hk, q⟩
  subst e
  obtain ⟨u1, u2, rfl, r1, r2⟩ := vals2 r
  cases r1
  cases r2
  obtain ⟨_, its, rv, o, h1, h2, n, h3⟩ := (show ObjOk X.prog X.w H s.heap tp (.tup cs) from I.hok tp _ hT)
  have e3 := hcv _ rv
  subst e3
  obtain ⟨oc, odd, dt, sl⟩ := o
  simp only at h2 h3
  subst h2 h3
  obtain ⟨od, J⟩ := exc_inst I hp hz hf xd
  exact PySem.W.kia_tup (kitx_of_exc C) I.kIn J h1 hk (fun z => nomatch z) fun tk => ⟨.bl b, H, I.kept (t' := tk) fun _ _ z => z, rfl, q⟩
/-- e.f -/
def tXfX (X : Cx) (f : Str) (te : TE) : TE := fun σ H Q => te σ H fun x H1 => ∃ (a c d : Addr) (oe : Obj) (vs : List (Str × V)) (v : V), x = .ref a ∧ (a, oe) ∈ X.pn ∧ Zc (.ref c) (some d) oe ∧ (∃ ws, oe.data = .fields ws) ∧ XfC X.K c ∧ PySem.W.findIn X.K (.ref c) f = some none ∧ H1 d = some (.xd vs) ∧ vs.lookup f = some v ∧ Q v H1
theorem pe_xfX {X : Cx} {e : Expr} {te : TE} {pos : Pos} {n : Str} (he : PE X e te) (hb : attributeBase e n X.env (eval e X.env) = eval e X.env) : PE X (.Attribute e n pos) (tXfX X n te) := by
  refine ⟨fun pins s σ H Q I h => ?_⟩
  refine attr_of hb (thn (he.run pins s σ H _ I h) fun u s1 ⟨x, H1, I1, rx, a, c, d, oe, vs, v, ex, hp, hz, hf, T, hno, hd, hl, q⟩ => ?_)
  subst ex
  cases rx
  obtain ⟨ha, _⟩ := I1.pin (a, oe) (List.mem_append.mpr (.inl hp))
  obtain ⟨ws, hv⟩ := hf
  have hx : ObjOk X.prog X.w H1 s1.heap d (.xd vs) := I1.hok d _ hd
  obtain ⟨mA, hns, hr⟩ := hx
  obtain ⟨od, ho, hl2⟩ := lookIn_ns hns
  obtain ⟨u, hu, ru⟩ := RelO.some_of (v := v) (o := mA n) (by rw [← hl]; exact hr n)
  have J : PySem.W.InstAt s1.heap a oe c (some od) := ⟨ha, hz.1, by unfold PySem.W.notCls; rw [hv] <;> rfl, by rw [hz.2]; exact ho⟩
  exact HandSPX.exc_get I1.kIn J T.ga T.gg T.exC (PySem.W.findObj_own T.hdC hno rfl (by rw [hl2, hu])) (handed_of ru) ⟨v, H1, I1.tok _, ru, q⟩

section
variable {X : Cx} {xz : Xs} {G : List Fn} {W : WX} {pos p p2 p3 : Pos}
/-- what stands in a slot that holds an exception -/
theorem slot_exc {σ : L2.St} {H : Hp} {Fz Bz : Addr → Prop} {ρ : Env} {f : Addr → Nat} {i : Nat} {C : Str} {fs : List (Str × PyData)} (re : Re (kx X xz) H Fz Bz σ ρ f) (e : slot ρ i = .exc C fs) :
    ∃ a c d, σ[i]? = some (some (.ref a)) ∧ (a, c, d) ∈ xz.l ∧ C ∈ xz.ex ∧ X.mg C = some (.ref c) ∧ XdR X.K H Fz d fs := by
  have l : i < ρ.length := slot_lt (by rw [e]; intro z; cases z)
  obtain ⟨o, fi, g, eo, rs, hf, _⟩ := re.split l
  rw [e] at rs
  rcases rs with ⟨z, _⟩ | ⟨v, z, _, rv⟩
  · cases z
  · subst z
    cases rv with
    | exc x c r z => exact ⟨_, _, _, eo, x, c.1, c.2, r⟩
theorem le_isx1 {i : Nat} {x t : Str} {ups : List Str} {v : V} {cv : Value} (pin : PinOk X xz) (hg : Gl X "isinstance") (hm : X.mg "isinstance" = none) (hx : PE X (.Name x p2) (tVar i)) (ht : PE X (.Name t p3) (tC v)) (hv : ∀ u, RelV v u → u = cv)
    (hk : ∀ n ∈ xz.ex, ∀ a, X.mg n = some (.ref a) → PySem.W.kitOne X.K (.ref a) cv = some (ups.contains n)) :
    PE X (.Call (.Name "isinstance" p) [.Name x p2, .Name t p3] [] pos) (LE (kx X xz) X.mg G W (.isx i ups)) := by
  refine PE.imp (pe_callB call_isX hg hm boot_isinstance (pa_cons hx (pa_cons ht pa_nil))) fun σ H Q ⟨ρ, Fz, Bz, f, re, wf, out⟩ => ?_
  simp only [evE] at out
  split at out
  · rename_i C fs e
    obtain ⟨a, c, d, eo, hl, hC, hmC, xd⟩ := slot_exc re e
    obtain ⟨q, oe, hp, hz, hf⟩ := pin a c d hl
    exact ⟨_, eo, a, c, d, oe, Fz, fs, v, cv, _, rfl, hp, hz, hf, xd, q.ex, hv, hk C hC c hmC, out _ H Fz f (fun _ => 0) re (.dat (.bl _) fun _ => rfl) (At.start wf)⟩
  · exact out.elim
theorem le_isxT {i : Nat} {x : Str} {ups : List Str} {es : List Expr} {tk : Nat} {vs : List V} {cvs : List Value} (pin : PinOk X xz) (hg : Gl X "isinstance") (hm : X.mg "isinstance" = none) (hx : PE X (.Name x p2) (tVar i)) (ht : PE X (.Tuple es tk p3) (fun σ H Q => ∀ q, H q = none → Q (.ref q) (upd H q (.tup vs)))) (hv : ∀ us, Vals vs us → us = cvs)
    (hk : ∀ n ∈ xz.ex, ∀ a, X.mg n = some (.ref a) → PySem.W.kitAny X.K (.ref a) cvs = some (ups.contains n)) :
    PE X (.Call (.Name "isinstance" p) [.Name x p2, .Tuple es tk p3] [] pos) (LE (kx X xz) X.mg G W (.isx i ups)) := by
  refine PE.imp (pe_callB call_isXT hg hm boot_isinstance (pa_cons hx (pa_cons ht pa_nil))) fun σ H Q ⟨ρ, Fz, Bz, f, re, wf, out⟩ => ?_
  simp only [evE] at out
  split at out
  · rename_i C fs e
    obtain ⟨a, c, d, eo, hl, hC, hmC, xd⟩ := slot_exc re e
    obtain ⟨q, oe, hp, hz, hf⟩ := pin a c d hl
    refine ⟨_, eo, fun tp np => ?_⟩
    have up : ∀ b o, H b = some o → (upd H tp (.tup vs)) b = some o := fun b o e => by rw [upd_ne (ne_of_none e np)]; exact e
    exact ⟨a, c, tp, d, oe, Fz, fs, vs, cvs, _, rfl, upd_same, hp, hz, hf, xd.keep (fun b o e _ => up b o e) (fun _ z => z), q.ex, hv, hk C hC c hmC,
      out _ _ Fz f (fun _ => 0) (re.keep (fun b o e _ => up b o e) (fun _ z => z) fun b o e _ => up b o e) (.dat (.bl _) fun _ => rfl) ((At.start wf).lay np)⟩
  · exact out.elim
theorem le_xf {i : Nat} {x n : Str} (pin : PinOk X xz) (hx : PE X (.Name x p2) (tVar i)) (hno : ∀ C ∈ xz.ex, ∀ a, X.mg C = some (.ref a) → PySem.W.findIn X.K (.ref a) n = some none) : PE X (.Attribute (.Name x p2) n pos) (LE (kx X xz) X.mg G W (.xf i n)) := by
  refine PE.imp (pe_xfX hx rfl) fun σ H Q ⟨ρ, Fz, Bz, f, re, wf, out⟩ => ?_
  simp only [evE] at out
  split at out
  · rename_i C fs e
    obtain ⟨a, c, d, eo, hl, hC, hmC, xd⟩ := slot_exc re e
    obtain ⟨q, oe, hp, hz, hf⟩ := pin a c d hl
    cases ed : fs.lookup n with
    | none => rw [ed] at out; exact out.elim
    | some y =>
      rw [ed] at out
      cases d with
      | none =>
        have : fs = [] := xd
        subst this
        cases ed
      | some dd =>
        obtain ⟨vs, w, hd, hw, rp⟩ := xd.get ed
        exact ⟨_, eo, a, c, dd, oe, vs, w, rfl, hp, hz, hf, q.fl, hno C hC c hmC, hd, hw, out w H Fz f (fun _ => 0) re (.dat rp fun _ => rfl) (At.start wf)⟩
  · exact out.elim
end
end DE
end

section
set_option Elab.async false
set_option linter.all false
set_option maxHeartbeats 1000000
/-! DE17c: chains, backward slices, methods of data, what is walked in two. -/
namespace DE
open PySem PySem.Spec PyProof.Rows L2
section
open HT
variable {prog : Program} {w : World} {A : Around} {E : Value → Shared → Prop} {s : Shared}
theorem adjust_back (n : Nat) : Builtin.Slice.sliceAdjust none none (-1) (n : Int) = ((n : Int) - 1, -1) := by
  unfold Builtin.Slice.sliceAdjust
  simp
theorem places_back (n : Nat) : Builtin.Slice.slicePlaces ((n : Int) - 1) (-1) (-1) = n := by
  unfold Builtin.Slice.slicePlaces
  simp
  omega
theorem applied_back {sl : Addr} {st : Value} {n : Nat} {Q : Int × Int × Nat → Shared → Prop} (hs : s.heap.IsSliceOf sl .none .none st) (ps : IsPart st (some (-1)))
    (h : Q ((n : Int) - 1, -1, n) s) : wpAny (model prog w) A (Builtin.Slice.sliceApplied (.ref sl) (pure (n : Int))) Q E s := by
  obtain ⟨os, hos, hcs, hds⟩ := id hs
  unfold Builtin.Slice.sliceApplied Builtin.Slice.sliceFields
  refine wpAny_bind (wpAny_bind (wpAny_field hos hds (x := .none) rfl (wpAny_bind (wpAny_field hos hds (x := .none) rfl (wpAny_bind (wpAny_field hos hds (x := st) rfl (wpAny_pure ?_)))))))
  refine wpAny_bind (slicePart_ ps ?_)
  show wpAny _ _ (if ((-1 : Int) == 0) = true then _ else _) _ _ s
  rw [if_neg (by decide)]
  refine wpAny_bind (slicePart_ .none (wpAny_bind (slicePart_ .none (wpAny_bind (wpAny_pure ?_)))))
  show wpAny _ _ (match Builtin.Slice.sliceAdjust none none (-1) (n : Int) with | (lo, hi) => pure (lo, (-1 : Int), Builtin.Slice.slicePlaces lo hi (-1))) _ _ s
  rw [adjust_back]
  show wpAny _ _ (pure ((n : Int) - 1, (-1 : Int), Builtin.Slice.slicePlaces ((n : Int) - 1) (-1) (-1))) _ _ s
  rw [places_back]
  exact wpAny_pure h
theorem fm_map {α β : Type} {f : α → Option β} {g : α → β} : ∀ {l : List α}, (∀ m ∈ l, f m = some (g m)) → l.filterMap f = l.map g
  | [], _ => rfl
  | a :: l, h => by
    rw [List.filterMap_cons, h a List.mem_cons_self, List.map_cons, fm_map fun m hm => h m (List.mem_cons_of_mem _ hm)]
theorem pick_back (xs : Array Value) : ((List.range xs.size).filterMap fun (m : Nat) => xs[(((xs.size : Nat) : Int) - 1 + (m : Int) * (-1)).toNat]?).toArray = xs.toList.reverse.toArray := by
  congr 1
  have e : (List.range xs.size).filterMap (fun (m : Nat) => xs[(((xs.size : Nat) : Int) - 1 + (m : Int) * (-1)).toNat]?) = (List.range xs.size).map (fun m => xs.toList.reverse.getD m .none) := by
    refine fm_map fun m hm => ?_
    have hl := List.mem_range.mp hm
    have e1 : (((xs.size : Nat) : Int) - 1 + (m : Int) * (-1)).toNat = xs.size - 1 - m := by omega
    rw [e1, List.getD_eq_getElem?_getD, List.getElem?_reverse (by simpa using hl)]
    rw [Array.length_toList, Array.getElem?_toList]
    rw [Array.getElem?_eq_getElem (by omega)]
    rfl
  rw [e]
  apply List.ext_getElem?
  intro i
  by_cases hi : i < xs.size
  · rw [List.getElem?_map, List.getElem?_range hi, Option.map_some, List.getD_eq_getElem?_getD, List.getElem?_eq_getElem (by simpa using hi)]
    rfl
  · rw [List.getElem?_eq_none (by simpa using hi), List.getElem?_eq_none (by simpa using hi)]
theorem item_back {t sl : Addr} {items : Array Value} {st : Value} {Q : Value → Shared → Prop} (ht : IsTup s.heap t items) (hs : s.heap.IsSliceOf sl .none .none st) (ps : IsPart st (some (-1)))
    (h : Q (.ref s.heap.objs.size) { s with heap := s.heap.push { cls := .type "tuple", data := .seq items.toList.reverse.toArray } })
    (hsz : items.size ≤ sizeLine) : wpAny (model prog w) A (getItem (.ref t) (.ref sl)) Q E s := by
  have room : sizeOk (.seq items.toList.reverse.toArray) := by
    show items.toList.reverse.toArray.size ≤ sizeLine
    simpa using hsz
  obtain ⟨os, hos, hcs, hds⟩ := id hs
  have hTs : s.TypeIs (.ref sl) "slice" := ⟨os, hos, hcs⟩
  unfold getItem
  try with_reducible refine wpAny_holding ?_
  first | refine wpAny_bind (wpAny_pure ?_) | skip
  refine wpAny_bind (wpAny_sequenceKey ht.typeIs (by decide) (wpAny_bind (wpAny_callSpecial?_slot (name := Str.ofString "__getitem__") ht.typeIs PyProof.Rows.slot_tuple_getitem
    (wpAny_call_entry PyProof.Rows.slot_tuple_getitem ht.typeIs entry_tuple_getitem ?_ (args_tuple_getitem _ _)))))
  show wpAny _ _ (Builtin.Tuple.tupleItemsOf (.ref t) >>= _) _ _ s
  refine wpAny_bind (tupleItemsOf_ ht (wpAny_bind (wpAny_typeOf hTs ?_)))
  rw [if_pos (by decide)]
  refine wpAny_bind (applied_back hs ps ?_)
  have hno : ¬ ((((items.size : Nat) : Int) - 1 == 0 && (-1 : Int) == 1 && items.size == items.size) = true) := by simp
  show wpAny _ _ (if (((items.size : Nat) : Int) - 1 == 0 && (-1 : Int) == 1 && items.size == items.size) = true then _ else _) _ _ s
  rw [if_neg hno, pick_back]
  first
    | exact wpAny_bind (m := Builtin.Tuple.tupleExact _) (wpAny_newObj_type (wpAny_pure ⟨_, rfl, wpAny_pure h⟩) room)
    | exact wpAny_bind (m := Builtin.Tuple.tupleExact _) (wpAny_newObj_type (wpAny_bind (wpAny_pure (wpAny_pure ⟨_, rfl, wpAny_pure h⟩))) room)
    | exact wpAny_bind (wpAny_bind (m := Builtin.Tuple.tupleExact _) (wpAny_newObj_type (wpAny_pure (wpAny_pure ⟨_, rfl, wpAny_pure h⟩)) room))
    | exact wpAny_bind (wpAny_bind (m := Builtin.Tuple.tupleExact _) (wpAny_newObj_type (wpAny_pure ⟨_, rfl, wpAny_pure h⟩) room))
end

/-- x[::-1], a list or a tuple -/
def tBack (K : PySem.W.Frag) (te : TE) : TE := fun σ H Q => te σ H fun x H1 => ∃ a xs, x = .ref a ∧ ((SqL K H1 a xs ∧ ∀ p, H1 p = none → Q (.ref p) (upd H1 p (.lst xs.reverse))) ∨ (SqT K H1 a xs ∧ TupQ H1 Q xs.reverse))
theorem pe_back {X : Cx} {e : Expr} {te : TE} {k : Nat} {p1 p2 p3 pos : Pos} (he : PE X e te) : PE X (.Subscript e (.Slice none none (some (.UnaryOp .USub (.Constant (.int 1) k p1) p2)) p3) pos) (tBack X.K te) := by
  refine ⟨fun pins s σ H Q I h => ?_⟩
  refine Subscript_ (thn (he.run pins s σ H _ I h) fun v s1 ⟨x, H1, I1, r1, a, xs, ex, q⟩ => ?_)
  subst ex
  cases r1
  have hst : PO X (some (.UnaryOp .USub (.Constant (.int 1) k p1) p2)) (tPart (tUn (rU fun i => .int (-i)) (tC (.int 1)))) := po_some (pe_un un_neg pe_int)
  refine wpAny_Slice (thn (po_none.run pins s1 σ H1 (fun o H2 => o = none ∧ H2 = H1) I1 ⟨rfl, rfl⟩) fun vl s2 ⟨l, H2, I2, pl, el, e2⟩ => ?_)
  subst el e2
  refine thn (po_none.run pins s2 σ H2 (fun o H3 => o = none ∧ H3 = H2) I2 ⟨rfl, rfl⟩) fun vu s3 ⟨u, H3, I3, pu, eu, e3⟩ => ?_
  subst eu e3
  refine thn (hst.run pins s3 σ H3 (fun o H4 => o = some (-1) ∧ H4 = H3) I3 ⟨1, rfl, -1, rfl, rfl, rfl⟩) fun vs s4 ⟨o, H4, I4, ps, eo, e4⟩ => ?_
  subst eo e4
  cases pl
  cases pu
  have I5 : Inv X pins σ H4 { s4 with heap := s4.heap.push { cls := .type "slice", data := .fields #[.none, .none, vs] } } := I4.kept (t' := s4.toks) fun b ob q => Heap.get?_push_of_some _ q
  show wpAny (model X.prog X.w) X.A (subscriptTail e (.Slice none none (some (.UnaryOp .USub (.Constant (.int 1) k p1) p2)) p3) (.ref a) (.ref s4.heap.objs.size)) (EP X pins σ Q) X.xe { s4 with heap := s4.heap.push { cls := .type "slice", data := .fields #[.none, .none, vs] } }
  rcases q with ⟨hx, q⟩ | ⟨hx, q⟩
  · obtain ⟨its, r, ht, hz⟩ := I5.list hx
    have hlen := r.length
    refine tail_any (ops := [.ref a, .ref s4.heap.objs.size]) ht.isList.typeIs (PySem.slot_list_getitem.lookup) ?_ (by with_unfolding_all rfl)
    refine wpAny_getItem_list_slice ht.isList (Heap.IsSliceOf.new _ _ _ vs) .none .none ps (by decide) ?_ (by rw [List.size_toArray]; omega)
    rw [PySem.W.krv_pick]
    refine ⟨.ref _, _, I5.laid (t' := s4.toks) (o := .lst xs.reverse) (fun b ob q => Heap.get?_push_of_some _ q) (Nat.le_refl _) ⟨by rw [List.length_reverse]; exact hz, _, 0, r.reverse, Heap.get?_push_size _ rfl⟩, rfl, q _ (I5.hok.fresh (Nat.le_refl _))⟩
  · obtain ⟨its, r, ht, hz⟩ := I5.tuple hx
    have hlen := r.length
    refine tail_any (ops := [.ref a, .ref s4.heap.objs.size]) ht.typeIs (PyProof.Rows.slot_tuple_getitem.lookup) ?_ (by with_unfolding_all rfl)
    refine item_back ht (Heap.IsSliceOf.new _ _ _ vs) ps ?_ (by rw [List.size_toArray]; omega)
    exact madeN (t' := s4.toks) I5 (by rw [List.length_reverse]; exact hz) r.reverse q
section
variable {X : Cx} {xz : Xs} {G : List Fn} {W : WX} {pos : Pos}
theorem le_rev {a : E} {e : Expr} {k : Nat} {p1 p2 p3 : Pos} (ha : PE X e (LE (kx X xz) X.mg G W a)) : PE X (.Subscript e (.Slice none none (some (.UnaryOp .USub (.Constant (.int 1) k p1) p2)) p3) pos) (LE (kx X xz) X.mg G W (.rev a)) := by
  refine PE.imp (pe_back ha) fun σ H Q ⟨ρ, Fz, Bz, f, re, wf, out⟩ => ?_
  simp only [evE] at out
  refine LE.one re (At.start wf) out ?_
  intro x ρ1 v H1 Fz1 fρ fd re1 rv s t out1
  split at out1
  · rename_i ds
    cases rv with
    | dat rp z =>
      obtain ⟨a, vs, rfl, ha, ra⟩ := rp.tuple_inv
      exact ⟨a, vs, rfl, .inr ⟨ha.sq, fun q ob hq hdn => out1.made (S := Fz1) re1 t (fun h => by simpa [E.pure] using h) (Mk.tuple hq hdn ra.reverse) fun _ h => h⟩⟩
  · split at out1
    · rename_i ds hz
      have rp := rv.freeze hz
      obtain ⟨a, vs, rfl, ha, ra⟩ := rp.list_inv
      have t' := t.freeze (r1 := fun _ => 0) (g := fd) fun b => by omega
      exact ⟨a, vs, rfl, .inl ⟨ha.seq, fun q hq => out1.made (S := fun b => Fz1 b ∨ 1 ≤ fd b) (re1.monoF fun b h => .inl h) t' (fun h => by simpa [E.pure] using h) (Mk.list hq ra.reverse) fun _ h => h⟩⟩
    · exact out1.elim
/-- a op b op' c -/
theorem chn_imp {o o' : CmpOp} {a b c : E} {σ : L2.St} {H : Hp} {Q : VK} (h : LE (kx X xz) X.mg G W (.chn o o' a b c) σ H Q) : tChain (rCmp X.K o) (rCmp X.K o') (LE (kx X xz) X.mg G W a) (LE (kx X xz) X.mg G W b) (LE (kx X xz) X.mg G W c) σ H Q := by
  obtain ⟨ρ, Fz, Bz, f, re, wf, out⟩ := h
  simp only [evE] at out
  refine LE.one re (At.start wf) out ?_
  intro x ρ1 v1 H1 Fz1 fρ1 fd1 re1 rv1 s1 t1 out1
  refine LE.one re1 t1 out1 ?_
  intro y ρ2 v2 H2 Fz2 fρ2 fd2 re2 rv2 s2 t2 out2
  split at out2
  · rename_i p q
    have rv1' := rv1.frame (.inl rfl) s2 (t1.wf.cong fun b => by omega)
    cases rv1' with
    | dat rp1 z1 =>
    cases rv2 with
    | dat rp2 z2 =>
    cases hk : cmpD o p q with
    | none => rw [hk] at out2; exact out2.elim
    | some k =>
      rw [hk] at out2
      refine ⟨_, _, p, q, k, rp1, rp2, hk, k, rfl, ?_⟩
      cases k with
      | false =>
        rw [if_neg (by decide)]
        exact out2.made (S := Fz2) re2 t2 (fun h => by simp only [E.pure, Bool.and_eq_true] at h; simp [h.1.1, h.1.2]) (.old (.bl _)) fun _ h => h
      | true =>
        rw [if_pos rfl]
        refine LE.one re2 t2 out2 ?_
        intro z ρ3 v3 H3 Fz3 fρ3 fd3 re3 rv3 s3 t3 out3
        split at out3
        · rename_i r
          have rv2' := (Rv.dat (K := kx X xz) (Bz := Bz) rp2 z2).frame (.inl rfl) s3 (t2.wf.le fun b => by (try dsimp only); omega)
          cases rv2' with
          | dat rp2' z2' =>
          cases rv3 with
          | dat rp3 z3 =>
          cases hk2 : cmpD o' q r with
          | none => rw [hk2] at out3; exact out3.elim
          | some k2 =>
            rw [hk2] at out3
            exact ⟨_, _, q, r, k2, rp2', rp3, hk2, out3.made (S := Fz3) re3 t3 (fun h => by simp only [E.pure, Bool.and_eq_true] at h; simp [h.1.1, h.1.2, h.2]) (.old (.bl _)) fun _ h => h⟩
        · exact out3.elim
  · exact out2.elim
theorem le_chn {o o' : CmpOp} {a b c : E} {ea eb ec : Expr} (hu : X.A.units + 65 < cLine) (ha : PE X ea (LE (kx X xz) X.mg G W a)) (hb : PE X eb (LE (kx X xz) X.mg G W b)) (hc : PE X ec (LE (kx X xz) X.mg G W c)) (hm : lastMarks [o, o'] [eb, ec] = false) : PE X (.Compare ea [o, o'] [eb, ec] pos) (LE (kx X xz) X.mg G W (.chn o o' a b c)) :=
  PE.imp (pe_chain (op_cmp o hu) (op_cmp o' hu) ha hb hc hm) fun σ H Q h => chn_imp h
theorem lt_chn {o o' : CmpOp} {a b c : E} {ea eb ec : Expr} (hu : X.A.units + 65 < cLine) (ha : PE X ea (LE (kx X xz) X.mg G W a)) (hb : PE X eb (LE (kx X xz) X.mg G W b)) (hc : PE X ec (LE (kx X xz) X.mg G W c)) (hm : lastMarks [o, o'] [eb, ec] = false) : PT X (.Compare ea [o, o'] [eb, ec] pos) (LT (kx X xz) X.mg G W (.chn o o' a b c)) :=
  PT.imp (pt_chain (op_cmp o hu) (op_cmp o' hu) ha hb hc hm) fun σ H Q h => chn_imp h.le
end

/-! ### methods of data -/
/-- what a method tells, in data -/
def rMt (K : PySem.W.Frag) (m : Mt) : V → List V → Hp → VK → Prop := fun x xs H Q => ∃ (S S' : Addr → Prop) (p : PyData) (ps : List PyData) (d : D), Rp K H S x p ∧ RpL K H S' xs ps ∧ mtD m p ps = some d ∧ ∀ v H', Mk K H (fun _ => False) d v H' → Q v H'
def mtT : Mt → String
  | .index | .count => "list"
  | .tindex => "tuple"
  | _ => "str"
section
variable {X : Cx} {xz : Xs} {G : List Fn} {W : WX} {pos : Pos}
theorem mt_imp {m : Mt} {a : E} {es : Es} {σ : L2.St} {H : Hp} {Q : VK} (hm : mtT m ≠ "tuple") (h : LE (kx X xz) X.mg G W (.mt m a es) σ H Q) : tBM X.K (mtT m) (rMt X.K m) (LE (kx X xz) X.mg G W a) (LEs (kx X xz) X.mg G W es) σ H Q := by
  obtain ⟨ρ, Fz, Bz, f, re, wf, out⟩ := h
  simp only [evE] at out
  refine LE.one re (At.start wf) out ?_
  intro x ρ1 v1 H1 Fz1 fρ1 fd1 re1 rv1 s1 t1 out1
  by_cases hc : ((x.ntr || es.pure) && mtTy m x.view) = true
  · rw [if_pos hc] at out1
    rw [Bool.and_eq_true] at hc
    obtain ⟨hn, ht⟩ := hc
    refine ⟨?_, ?_⟩
    · cases hx : x.view with
      | none => rw [hx] at ht; cases m <;> cases ht
      | some px =>
        rw [hx] at ht
        have rp := rv1.look hx
        cases rp with
        | lst h r => cases m <;> first | exact .inl ⟨rfl, _, h.seq⟩ | cases ht
        | str z => cases m <;> first | rfl | cases ht
        | tup h r => cases m <;> first | exact absurd rfl hm | cases ht
        | _ => cases m <;> cases ht
    · refine LEs.one re1 t1 out1 ?_
      intro ys ρ2 vs H2 Fz2 fρ2 fd2 re2 rvs s2 t2 out2
      split at out2
      · rename_i px pys hx hys
        cases hd : mtD m px pys with
        | none => rw [hd] at out2; exact out2.elim
        | some d =>
          rw [hd] at out2
          have rv1' := rv1.frame (by simpa using hn) s2 (t1.wf.cong fun b => by omega)
          exact ⟨_, _, px, pys, d, rv1'.look hx, rvs.look hys, hd, fun v H' mk => out2.made (S := fun _ => False) re2 t2 (fun h => by simpa [E.pure] using h) mk fun _ h => h.elim⟩
      · exact out2.elim
  · rw [if_neg hc] at out1
    exact out1.elim
theorem RpL.strs {K : PySem.W.Frag} {H : Hp} {S : Addr → Prop} : ∀ {vs : List V} {ds : List PyData} {ns : List Str}, RpL K H S vs ds → strsL ds = some ns → vs = ns.map V.str
  | _, _, _, .nil, e => by simp only [strsL, Option.some.injEq] at e; subst e; rfl
  | _, _, _, .cons (d := d) (ds := ds) r t, e => by
    cases r with
    | str i =>
      simp only [strsL] at e
      obtain ⟨ms, e1, e2⟩ := Option.map_eq_some_iff.mp e
      subst e2
      rw [RpL.strs t e1]; rfl
    | _ => simp [strsL] at e
theorem RpL.ofStrs {K : PySem.W.Frag} {H : Hp} {S : Addr → Prop} : ∀ l : List Str, RpL K H S (l.map V.str) (l.map PyData.str)
  | [] => .nil
  | x :: l => .cons (.str x) (RpL.ofStrs l)
theorem mt_impT {a : E} {es : Es} {σ : L2.St} {H : Hp} {Q : VK} (h : LE (kx X xz) X.mg G W (.mt .tindex a es) σ H Q) : tBMT X.K (rMt X.K .tindex) (LE (kx X xz) X.mg G W a) (LEs (kx X xz) X.mg G W es) σ H Q := by
  obtain ⟨ρ, Fz, Bz, f, re, wf, out⟩ := h
  simp only [evE] at out
  refine LE.one re (At.start wf) out ?_
  intro x ρ1 v1 H1 Fz1 fρ1 fd1 re1 rv1 s1 t1 out1
  by_cases hc : ((x.ntr || es.pure) && mtTy .tindex x.view) = true
  · rw [if_pos hc] at out1
    rw [Bool.and_eq_true] at hc
    obtain ⟨hn, ht⟩ := hc
    refine ⟨?_, ?_⟩
    · cases hx : x.view with
      | none => rw [hx] at ht; cases ht
      | some px =>
        rw [hx] at ht
        have rp := rv1.look hx
        cases rp with
        | tup h r => exact ⟨_, _, rfl, h⟩
        | _ => cases ht
    · refine LEs.one re1 t1 out1 ?_
      intro ys ρ2 vs H2 Fz2 fρ2 fd2 re2 rvs s2 t2 out2
      split at out2
      · rename_i px pys hx hys
        cases hd : mtD .tindex px pys with
        | none => rw [hd] at out2; exact out2.elim
        | some d =>
          rw [hd] at out2
          have rv1' := rv1.frame (by simpa using hn) s2 (t1.wf.cong fun b => by omega)
          exact ⟨_, _, px, pys, d, rv1'.look hx, rvs.look hys, hd, fun v H' mk => out2.made (S := fun _ => False) re2 t2 (fun h => by simpa [E.pure] using h) mk fun _ h => h.elim⟩
      · exact out2.elim
  · rw [if_neg hc] at out1
    exact out1.elim
theorem idx_facts (k : Int) : ∀ {ns : List Int}, k ∈ ns → ns[ns.idxOf k]? = some k ∧ ∀ m, m < ns.idxOf k → ns[m]? ≠ some k
  | n :: ns, h => by
    by_cases e : n = k
    · subst e
      rw [List.idxOf_cons_self]
      exact ⟨rfl, fun m hm => by omega⟩
    · have hm : k ∈ ns := (List.mem_cons.mp h).resolve_left fun z => e z.symm
      obtain ⟨a, b⟩ := idx_facts k hm
      have ei : (n :: ns).idxOf k = ns.idxOf k + 1 := by rw [List.idxOf_cons, beq_eq_false_iff_ne.mpr e]; rfl
      rw [ei]
      refine ⟨by simpa using a, fun m hm => ?_⟩
      cases m with
      | zero => simpa using e
      | succ m => simpa using b m (by omega)
theorem mtr_tindex : MtR X "tuple.index" (rMt X.K .tindex) := by
  intro pins s σ H x xs v us Q I rx rxs ⟨S, S', p, ps, d, hp, hps, hd, hQ⟩
  unfold mtD at hd
  split at hd <;> try contradiction
  rename_i ds k _
  obtain ⟨ns, hns, e⟩ := Option.bind_eq_some_iff.mp hd
  split at e
  · rename_i hk
    cases e
    have hk' : k ∈ ns := of_decide_eq_true hk
    obtain ⟨w, rfl, rw'⟩ := hps.one
    have e2 := rw'.int_inv; subst e2
    obtain ⟨a, vs, rfl, ha, ra⟩ := hp.tuple_inv
    have ev := ra.ints hns
    subst ev
    obtain ⟨h1, h2⟩ := idx_facts k hk'
    exact mt_tidx pins s σ H _ _ v us Q I rx rxs ⟨a, ns, k, ns.idxOf k, rfl, rfl, ha.sq, h1, h2, hQ _ _ (.old (.int _))⟩
  · cases e
theorem mtr_index (hu : X.A.units + 65 < cLine) : MtR X "list.index" (rMt X.K .index) := by
  intro pins s σ H x xs v us Q I rx rxs ⟨S, S', p, ps, d, hp, hps, hd, hQ⟩
  unfold mtD at hd
  split at hd <;> try contradiction
  · split at hd
    · rename_i ds y _ hs
      rw [Bool.and_eq_true] at hs
      obtain ⟨j, hj, e⟩ := Option.map_eq_some_iff.mp hd
      subst e
      obtain ⟨w, rfl, rw'⟩ := hps.one
      obtain ⟨a, vs, rfl, ha, ra⟩ := hp.list_inv
      obtain ⟨hl, h1, h2⟩ := List.findIdx?_eq_some_iff_getElem.mp hj
      refine mt_indexD hu pins s σ H _ _ v us Q I rx rxs ⟨a, w, y, ds, j, ds[j], rfl, rfl, hp.dp, rw'.dp, hs.1, hs.2, List.getElem?_eq_getElem hl, h1, fun m z hm hz => ?_, hQ _ _ (.old (.int _))⟩
      obtain ⟨hml, e⟩ := List.getElem?_eq_some_iff.mp hz
      have := h2 m hm
      rw [← e]
      simpa using this
    · cases hd
theorem mtr_split : MtR X "str.split" (rMt X.K .split) := by
  intro pins s σ H x xs v us Q I rx rxs ⟨S, S', p, ps, d, hp, hps, hd, hQ⟩
  unfold mtD at hd
  split at hd <;> try contradiction
  · split at hd
    · rename_i a b _ hs
      cases hd
      rw [Bool.and_eq_true] at hs
      obtain ⟨w, rfl, rw'⟩ := hps.one
      have e1 := hp.str_inv; have e2 := rw'.str_inv; subst e1 e2
      refine mt_split pins s σ H _ _ v us Q I rx rxs ⟨a, b, rfl, rfl, by simpa using of_decide_eq_true hs.1, by rw [sizeLine_eq]; exact of_decide_eq_true hs.2, fun q hq => hQ _ _ (Mk.new hq (RpL.ofStrs _))⟩
    · cases hd
theorem mtr_join : MtR X "str.join" (rMt X.K .join) := by
  intro pins s σ H x xs v us Q I rx rxs ⟨S, S', p, ps, d, hp, hps, hd, hQ⟩
  unfold mtD at hd
  split at hd <;> try contradiction
  · rename_i a ds _
    obtain ⟨ys, e1, e2⟩ := Option.bind_eq_some_iff.mp hd
    split at e2
    · rename_i hj
      cases e2
      obtain ⟨w, rfl, rw'⟩ := hps.one
      have e0 := hp.str_inv; subst e0
      obtain ⟨b, vs, rfl, hb, rb⟩ := rw'.list_inv
      have e3 := rb.strs e1
      subst e3
      exact mt_join pins s σ H _ _ v us Q I rx rxs ⟨a, b, ys, rfl, rfl, .inl hb.seq, of_decide_eq_true hj, hQ _ _ (.old (.str _))⟩
    · cases e2
theorem mtr_partition : MtR X "str.partition" (rMt X.K .partition) := by
  intro pins s σ H x xs v us Q I rx rxs ⟨S, S', p, ps, d, hp, hps, hd, hQ⟩
  unfold mtD at hd
  split at hd <;> try contradiction
  · split at hd
    · rename_i a b _ hs
      cases hd
      rw [Bool.and_eq_true] at hs
      obtain ⟨w, rfl, rw'⟩ := hps.one
      have e1 := hp.str_inv; have e2 := rw'.str_inv; subst e1 e2
      refine mt_partN pins s σ H _ _ v us Q I rx rxs ⟨a, b, rfl, rfl, by simpa using of_decide_eq_true hs.1, fits_line hs.2, fun q ob hq hdn => hQ _ _ (Mk.tuple hq hdn (.cons (.str _) (.cons (.str _) (.cons (.str _) .nil))))⟩
    · cases hd
variable {apos cpos : Pos} {ep e : Expr} {as : List Expr}
theorem le_tmt {a : E} {es : Es} (hp : PE X ep (LE (kx X xz) X.mg G W a)) (ha : PA X (e :: as) (LEs (kx X xz) X.mg G W es)) (hbase : attributeBase ep "index" X.env (eval ep X.env) = eval ep X.env)
    (hfew : ((backTo cpos (starEach (e :: as) X.env)).all (fun x => !x.1) && (backToKw cpos (keywordEach [] X.env)).all (fun x => x.1.isSome)
      && decide ((e :: as).length + ([] : List Keyword).length + (if ([] : List Keyword).isEmpty then 0 else 1) < 30)) = true)
    (hline : (apos.endLine == cpos.line) = true) (hs : starEach (e :: as) X.env = (false, eval e X.env) :: starEach as X.env) (hplain : (backTo cpos (starEach as X.env)).any (·.1) = false) :
    PE X (.Call (.Attribute ep "index" apos) (e :: as) [] cpos) (LE (kx X xz) X.mg G W (.mt .tindex a es)) :=
  PE.imp (pe_tm PySem.F.plainAttrs_tuple PySem.F.slot_tuple_index PySem.F.type_tuple_index mtr_tindex hp ha hbase hfew hline hs hplain) fun σ H Q h => mt_impT h
theorem le_mt (hu : X.A.units + 65 < cLine) {m : Mt} {nm : Str} {a : E} {es : Es} (hm : (m = .index ∧ nm = "index") ∨ (m = .split ∧ nm = "split") ∨ (m = .join ∧ nm = "join") ∨ (m = .partition ∧ nm = "partition")) (hp : PE X ep (LE (kx X xz) X.mg G W a)) (ha : PA X (e :: as) (LEs (kx X xz) X.mg G W es)) (hbase : attributeBase ep nm X.env (eval ep X.env) = eval ep X.env)
    (hfew : ((backTo cpos (starEach (e :: as) X.env)).all (fun x => !x.1) && (backToKw cpos (keywordEach [] X.env)).all (fun x => x.1.isSome)
      && decide ((e :: as).length + ([] : List Keyword).length + (if ([] : List Keyword).isEmpty then 0 else 1) < 30)) = true)
    (hline : (apos.endLine == cpos.line) = true) (hs : starEach (e :: as) X.env = (false, eval e X.env) :: starEach as X.env) (hplain : (backTo cpos (starEach as X.env)).any (·.1) = false) :
    PE X (.Call (.Attribute ep nm apos) (e :: as) [] cpos) (LE (kx X xz) X.mg G W (.mt m a es)) := by
  rcases hm with ⟨rfl, rfl⟩ | ⟨rfl, rfl⟩ | ⟨rfl, rfl⟩ | ⟨rfl, rfl⟩
  · exact PE.imp (pe_bm PySem.F.plainAttrs_list PySem.F.slot_list_index PySem.F.type_list_index (mtr_index hu) hp ha hbase hfew hline hs hplain) fun σ H Q h => mt_imp (by decide) h
  · exact PE.imp (pe_bm PySem.F.plainAttrs_str PySem.F.slot_str_split PySem.F.type_str_split mtr_split hp ha hbase hfew hline hs hplain) fun σ H Q h => mt_imp (by decide) h
  · exact PE.imp (pe_bm PySem.F.plainAttrs_str PySem.F.slot_str_join PySem.F.type_str_join mtr_join hp ha hbase hfew hline hs hplain) fun σ H Q h => mt_imp (by decide) h
  · exact PE.imp (pe_bm PySem.F.plainAttrs_str PySem.F.slot_str_partition PySem.F.type_str_partition mtr_partition hp ha hbase hfew hline hs hplain) fun σ H Q h => mt_imp (by decide) h
theorem RvL.ins {K : Kx} {H : Hp} {Fz Bz : Addr → Prop} : ∀ {i : Nat} {vs : List V} {ds : List D} {f g h : Addr → Nat} {v : V} {d : D}, RvL K H Fz Bz vs ds f → i ≤ ds.length → Rv K H Fz Bz v d g → (∀ b, h b = f b + g b) → RvL K H Fz Bz (vs.take i ++ [v] ++ vs.drop i) (ds.insertIdx i d) h
  | 0, vs, ds, f, g, h, v, d, r, _, rv, q => by
    rw [List.take_zero, List.drop_zero, List.nil_append, List.insertIdx_zero]
    exact .cons rv r fun b => by rw [q]; omega
  | i + 1, _, _, _, g, h, v, d, .nil z, l, rv, q => by simp at l
  | i + 1, _, _, _, g, h, v, d, .cons (v := v0) (vs := vs) (d := d0) (ds := ds) (f := f0) (g := g0) r t q0, l, rv, q => by
    have ih := RvL.ins (i := i) (h := fun b => g0 b + g b) t (by simpa using l) rv fun b => rfl
    rw [List.take_succ_cons, List.drop_succ_cons, List.insertIdx_succ_cons, List.cons_append, List.cons_append]
    exact .cons r ih fun b => by rw [q, q0]; omega
theorem ntrL_ins : ∀ {l : List D} {i : Nat} {d : D}, D.ntrL l = true → d.ntr = true → D.ntrL (l.insertIdx i d) = true
  | l, 0, d, h, h' => by rw [List.insertIdx_zero, D.ntrL, h, h']; rfl
  | [], i + 1, d, h, h' => by simp [D.ntrL]
  | c :: l, i + 1, d, h, h' => by
    rw [D.ntrL, Bool.and_eq_true] at h
    rw [List.insertIdx_succ_cons, D.ntrL, h.1, ntrL_ins h.2 h']; rfl
theorem le_insert {p : P} {es : Es} (hp : PE X ep (LP (kx X xz) X.mg G W p)) (ha : PA X (e :: as) (LEs (kx X xz) X.mg G W es)) (hbase : attributeBase ep "insert" X.env (eval ep X.env) = eval ep X.env)
    (hfew : ((backTo cpos (starEach (e :: as) X.env)).all (fun x => !x.1) && (backToKw cpos (keywordEach [] X.env)).all (fun x => x.1.isSome)
      && decide ((e :: as).length + ([] : List Keyword).length + (if ([] : List Keyword).isEmpty then 0 else 1) < 30)) = true)
    (hline : (apos.endLine == cpos.line) = true) (hs : starEach (e :: as) X.env = (false, eval e X.env) :: starEach as X.env) (hplain : (backTo cpos (starEach as X.env)).any (·.1) = false) :
    PE X (.Call (.Attribute ep "insert" apos) (e :: as) [] cpos) (LE (kx X xz) X.mg G W (.pm .insert p es)) := by
  refine PE.imp (pe_bm PySem.F.plainAttrs_list PySem.F.slot_list_insert PySem.F.type_list_insert mt_insert hp ha hbase hfew hline hs hplain) fun σ H Q h => ?_
  refine pm_core h fun a vs ys xs ds xs' y H2 Fz2 Bz fx fy ha rx ry nx hd k => ?_
  unfold pmD at hd
  split at hd <;> try contradiction
  · split at hd
    · rename_i hl
      cases hd
      simp only [Bool.and_eq_true] at hl
      obtain ⟨⟨⟨h0, h1⟩, h2⟩, ho⟩ := hl
      have h0 := of_decide_eq_true h0
      have h1 := of_decide_eq_true h1
      have h2 := of_decide_eq_true h2
      obtain ⟨w1, ws, g, g', rfl, r1, rt, q1⟩ := ry.cons_inv
      obtain ⟨w, f0, rfl, r2, q2⟩ := rt.one_inv
      cases r1 with
      | dat rp z1 =>
        have e := rp.int_inv; subst e
        have len := rx.length
        refine ⟨a, vs, _, w, rfl, rfl, ha, by rw [len, sizeLine_eq]; exact h2, h0, by omega, ?_⟩
        exact k _ .non (fun b => fx b + f0 b) (fun _ => 0) (rx.ins (by omega) r2 fun b => rfl) (ntrL_ins nx (ntr_of_own ho)) (.dat .non fun _ => rfl) rfl fun b => by rw [q1, q2]; omega
    · cases hd
theorem le_clear {p : P} (hp : PE X ep (LP (kx X xz) X.mg G W p)) (hbase : attributeBase ep "clear" X.env (eval ep X.env) = eval ep X.env)
    (hline : (apos.endLine == cpos.line) = true) :
    PE X (.Call (.Attribute ep "clear" apos) [] [] cpos) (LE (kx X xz) X.mg G W (.pm .clear p .nil)) := by
  refine PE.imp (pe_bm0 PySem.F.plainAttrs_list PySem.F.slot_list_clear PySem.F.type_list_clear mt_clear hp hbase hline) fun σ H Q h => ?_
  have h' := pm_core (R2' := fun u ys H2 => ys = [] ∧ rClear u [] H2 Q) h fun a vs ys xs ds xs' y H2 Fz2 Bz fx fy ha rx ry nx hd k => by
    unfold pmD at hd
    split at hd <;> try contradiction
    · cases hd
      obtain ⟨rfl, _⟩ := ry.nil_inv
      exact ⟨rfl, a, vs, rfl, rfl, ha, k [] .non (fun _ => 0) (fun _ => 0) (.nil fun _ => rfl) rfl (.dat .non fun _ => rfl) rfl fun b => by omega⟩
  obtain ⟨ρ, Fz, Bz, f, re, wf, out⟩ := h'
  refine ⟨ρ, Fz, Bz, f, re, wf, ?_⟩
  revert out
  cases evP G p ρ with
  | no => exact id
  | ex x ρ' => exact id
  | ok q ρ' =>
    intro out u v x H' Fz' fρ re' t hv hp hg hx
    obtain ⟨ty, hl⟩ := out u v x H' Fz' fρ re' t hv hp hg hx
    exact ⟨ty, (nil_imp hl).2⟩
end
end DE
end

section
set_option Elab.async false
set_option linter.all false
/-! DE18: terms held against the program's text. -/
namespace DE
open PySem PySem.Spec PyProof.Rows L2

structure FnT where
  name : Str
  ps : List Str
  k : Nat
  cl : Option Str
/-- a program's tables: global constants; the classes of exceptions that may fly; those that are raised, with their fields; names in except clauses and isinstance, with those of the former below them; fields that are read -/
structure Tb where
  blt : List Str
  glb : List (Str × PyData)
  exs : List Str
  rs : List (Str × List Str)
  ups : List (Str × List Str)
  fds : List Str
  cls : List Str
  ifs : List Str
structure Ck where
  N : List Str
  sc : Scope
  fnc : List Str
  fns : List FnT
  k : Nat
  tb : Tb
  hot : Bool

def notStar : Expr → Bool
  | .Starred _ _ => false
  | _ => true
def notSlice : Expr → Bool
  | .Slice _ _ _ _ => false
  | _ => true
def notSet : Expr → Bool
  | .Set _ _ _ => false
  | _ => true
def notCall : Expr → Bool
  | .Call _ _ _ _ => false
  | _ => true
def notCall0 : Expr → Bool
  | .Call _ [] [] _ => false
  | _ => true
def notLC : Expr → Bool
  | .ListComp _ _ _ _ => false
  | .SetComp _ _ _ _ => false
  | .DictComp _ _ _ _ _ => false
  | _ => true
def notTup : Expr → Bool
  | .Tuple _ _ _ => false
  | _ => true
def plainT : Expr → Bool
  | .UnaryOp .Not _ _ => false
  | .BoolOp _ _ _ => false
  | .IfExp _ _ _ _ => false
  | .Compare _ _ _ _ => false
  | _ => true
section
variable {env : PySem.Env} {pos : Pos}
theorem star_ok {e : Expr} {es : List Expr} (h : notStar e = true) : starEach (e :: es) env = (false, eval e env) :: starEach es env := by
  cases e <;> first | rfl | cases h
theorem slice_ok {b : Expr} (h : notSlice b = true) : PlainIx b := by
  intro o i
  cases b <;> first | rfl | cases h
theorem set_ok {b : Expr} (h : notSet b = true) : ∀ x, foldedSetIterable b env x = pure x := by
  intro x
  cases b <;> first | rfl | cases h
theorem base_ok {o : Expr} {name : Str} {w : Sem Value} (h : notCall0 o = true) : attributeBase o name env w = w := by
  cases o with
  | Call f as ks p => cases as with
    | nil => cases ks with
      | nil => cases h
      | cons _ _ => cases f <;> rfl
    | cons _ _ => cases f <;> rfl
  | _ => rfl
theorem plain_ok {e : Expr} (h : plainT e = true) : ∀ whole, isTrue e env whole = (do let v ← whole; standAt e.pos; holding [v] (truthy v)) := by
  intro whole
  cases e with
  | UnaryOp op x p => cases op <;> first | rfl | cases h
  | BoolOp _ _ _ => cases h
  | IfExp _ _ _ _ => cases h
  | Compare _ _ _ _ => cases h
  | _ => rfl
theorem stars_any : ∀ {es : List Expr}, es.all notStar = true → (backTo pos (starEach es env)).any (·.1) = false
  | [], _ => rfl
  | e :: es, h => by
    rw [List.all_cons, Bool.and_eq_true] at h
    rw [star_ok h.1]
    show (false || (backTo pos (starEach es env)).any (·.1)) = false
    rw [stars_any h.2]; rfl
theorem stars_all : ∀ {es : List Expr}, es.all notStar = true → (backTo pos (starEach es env)).all (fun x => !x.1) = true
  | [], _ => rfl
  | e :: es, h => by
    rw [List.all_cons, Bool.and_eq_true] at h
    rw [star_ok h.1]
    show (true && (backTo pos (starEach es env)).all (fun x => !x.1)) = true
    rw [stars_all h.2]; rfl
theorem few_ok {e : Expr} {es : List Expr} (h : (e :: es).all notStar = true) (hl : (e :: es).length < 30) : ((backTo pos (starEach (e :: es) env)).all (fun x => !x.1) && (backToKw pos (keywordEach [] env)).all (fun x => x.1.isSome)
      && decide ((e :: es).length + ([] : List Keyword).length + (if ([] : List Keyword).isEmpty then 0 else 1) < 30)) = true := by
  rw [stars_all h]
  have : decide ((e :: es).length + ([] : List Keyword).length + (if ([] : List Keyword).isEmpty then 0 else 1) < 30) = true := decide_eq_true (by simpa using hl)
  rw [this]; rfl
/-- o.m(..) -/
theorem ht_ok {o : Expr} {name : Str} {apos : Pos} {args : List Expr} (h0 : notCall0 o = true) (hs : args.all notStar = true) (hl : args.length < 29) (hline : (apos.endLine == pos.line) = true) :
    eval (.Call (.Attribute o name apos) args [] pos) env = (do
      let ov ← eval o env
      standAt apos.atName
      let (f, first) ← holding [ov] (getMethod ov name (do return (← importBound o env).getD true))
      callWith pos f first (backTo pos (starEach args env)) (backToKw pos (keywordEach [] env))) := by
  have hform : methodCallForm (args.length + ([] : List Keyword).length) (backTo pos (starEach args env)) (backToKw pos (keywordEach [] env)) = true := by
    unfold methodCallForm
    rw [stars_all hs]
    have e : decide (args.length + ([] : List Keyword).length + (if (backToKw pos (keywordEach [] env)).isEmpty then 0 else 1) < 30) = true := decide_eq_true (by
      have : (if (backToKw pos (keywordEach [] env)).isEmpty = true then 0 else 1) ≤ 1 := by split <;> omega
      simp only [List.length_nil, Nat.add_zero]
      omega)
    rw [e]; rfl
  have hpos : methodCallPos true o env apos pos = pure pos := by unfold methodCallPos; simp [hline]
  have hc : ∀ ov, methodCall o name apos pos env ov (args.length + ([] : List Keyword).length) (backTo pos (starEach args env)) (backToKw pos (keywordEach [] env)) = (do
      let (f, first) ← holding [ov] (getMethod ov name (do return (← importBound o env).getD true))
      callWith pos f first (backTo pos (starEach args env)) (backToKw pos (keywordEach [] env))) := fun ov => by
    unfold methodCall
    rw [hform, hpos]
    rfl
  rw [arm_eval_Call, base_ok h0]
  simp only [hc]
theorem lc_ok {v : Expr} {t : Option Expr} {line : Nat} (h : notLC v = true) : swapsWith v t line env = pure false := by
  cases v <;> first | rfl | cases h
end
/-- whether a comprehension's store is swapped -/
def swapB (sc : Scope) (v : Expr) (t : Str) (p : Pos) : Bool :=
  match v with
  | .ListComp _ _ s vp => sc.names.lookup t == some .local && p.line == vp.line && !(s.names.any fun (n, k) => n == t && (k == .local || k == .cell))
  | _ => false
theorem swap_ok {X : Cx} {v : Expr} {t : Str} {p : Pos} {line : Nat} (hk : X.env.scope.kind = .function) (hv : (match v with | .SetComp _ _ _ _ => false | .DictComp _ _ _ _ _ => false | _ => true) = true) : swapsWith v (some (.Name t p)) line X.env = pure (swapB X.env.scope v t p) := by
  have hb : X.env.blockKind = .function := by unfold PySem.Env.blockKind; rw [hk]; rfl
  cases v with
  | ListComp _ _ s vp =>
    unfold swapsWith swapB
    simp only [hb]
    rfl
  | SetComp _ _ _ _ => cases hv
  | DictComp _ _ _ _ _ => cases hv
  | _ => rfl

def visB (C : Ck) (i : Nat) (x : Str) : Bool := C.N[i]? == some x && (match C.sc.names.lookup x with | some .local => true | some .cell => true | some .free => true | _ => false) && !(x == ("__debug__" : Str)) && !(x == ("__classdict__" : Str))
def locB (C : Ck) (i : Nat) (x : Str) : Bool := C.N[i]? == some x && (match C.sc.names.lookup x with | some .local => true | some .cell => C.fnc.contains x | _ => false)
def glB (C : Ck) (x : Str) : Bool := C.sc.names.lookup x == some .globalImplicit && !(x == ("__debug__" : Str)) && !(x == ("__name__" : Str))
def bltB (C : Ck) (x : Str) : Bool := glB C x && C.tb.blt.contains x
mutual
/-- the same data -/
def same : PyData → PyData → Bool
  | .none, .none => true
  | .bool b, .bool c => b == c
  | .int i, .int j => i == j
  | .str x, .str y => x == y
  | .tuple xs, .tuple ys => sameL xs ys
  | _, _ => false
def sameL : List PyData → List PyData → Bool
  | [], [] => true
  | x :: xs, y :: ys => same x y && sameL xs ys
  | _, _ => false
end
mutual
theorem same_ok : ∀ {x y : PyData}, same x y = true → x = y
  | .none, .none, _ => rfl
  | .bool b, .bool c, h => by
    have h : (b == c) = true := by simpa [same] using h
    rw [eq_of_beq h]
  | .int b, .int c, h => by
    have h : b = c := by simpa [same] using h
    rw [h]
  | .str b, .str c, h => by
    have h : b = c := by simpa [same] using h
    rw [h]
  | .tuple xs, .tuple ys, h => by
    have h : sameL xs ys = true := by simpa [same] using h
    rw [sameL_ok h]
theorem sameL_ok : ∀ {x y : List PyData}, sameL x y = true → x = y
  | [], [], _ => rfl
  | x :: xs, y :: ys, h => by
    simp only [sameL, Bool.and_eq_true] at h
    rw [same_ok h.1, sameL_ok h.2]
end
def gloB (C : Ck) (x : Str) (d : PyData) : Bool := C.tb.glb.any fun y => y.1 == x && same y.2 d
def upB (C : Ck) (t : Str) (us : List Str) : Bool := C.tb.ups.any fun y => y.1 == t && y.2 == us
def cstB : PyData → Const → Bool
  | .none, .none => true
  | .bool b, .bool c => b == c
  | .int i, .int j => i == j
  | .str x, .str y => x == y
  | _, _ => false
/-- names of built-in functions, types -/
def Bi.nm : Bi → String
  | .len => "len" | .sum => "sum" | .max => "max" | .min => "min" | .abs => "abs" | .int => "int" | .str => "str" | .all => "all" | .any => "any" | .list => "list" | .tuple => "tuple" | .sorted => "sorted" | .sortedRev => "sorted" | .repr => "repr" | .lset => "lset"
def Bi.easy : Bi → Bool
  | .sortedRev => false
  | .lset => false
  | _ => true
def Bi.calm : Bi → Bool
  | .sum | .max | .min | .all | .any | .list => false
  | _ => true
def Pm.nm : Pm → String
  | .append => "append" | .extend => "extend" | .pop => "pop" | .popAt => "pop" | .insert => "insert" | .clear => "clear"
def Pm.easy1 : Pm → Bool
  | .append => true | .extend => true | .popAt => true | .insert => true | _ => false
def Mt.nm : Mt → String
  | .index => "index" | .tindex => "index" | .count => "count" | .split => "split" | .join => "join" | .partition => "partition"
def Mt.easy : Mt → Bool
  | .index => true | .tindex => true | .split => true | .join => true | .partition => true | _ => false
/-- the names of a tuple of classes -/
def tnsB (C : Ck) : List Expr → Option (List Str)
  | [] => some []
  | .Name t _ :: r => (match C.tb.ups.lookup t, tnsB C r with
    | some us, some vs => if glB C t && !(t == ("__debug__" : Str)) then some (us ++ vs) else none
    | _, _ => none)
  | _ :: _ => none
def isiT : List String := ["int", "bool", "str", "list", "tuple"]
def blkB (N : List Str) (sc scope : Scope) (own : List Nat) : Bool :=
  scope.kind == .function && scope.names.all (fun y => scope.names.lookup y.1 == some y.2) && own.all (fun i => decide (i < N.length)) &&
  scope.names.all (fun y => !(y.2 == .free) || sc.names.lookup y.1 == some .cell || sc.names.lookup y.1 == some .free) &&
  scope.names.all (fun y => !(y.2 == .local || y.2 == .cell) || (own.map fun i => N.getD i "").contains y.1 || !(N.contains y.1))
def Ck.blk (C : Ck) (scope : Scope) : Ck := { C with sc := relS scope C.sc, fnc := (scope.names.filter fun y => y.2 == .cell).map (·.1) }
def tgB (C : Ck) : T → Expr → Bool
  | .nm i, .Name x _ => locB C i x
  | .tp is, .Tuple es _ _ => go is es
  | _, _ => false
where go : List Nat → List Expr → Bool
  | [], [] => true
  | i :: is, .Name x _ :: es => locB C i x && go is es
  | _, _ => false
def nodupB : List Nat → Bool
  | [] => true
  | a :: l => !(l.contains a) && nodupB l

/-- zip and enumerate ask for a display of targets -/
def tgOk : I → Expr → Bool
  | .zip _ _, .Tuple _ _ _ => true
  | .zip _ _, _ => false
  | .enum _, .Tuple _ _ _ => true
  | .enum _, _ => false
  | _, _ => true
mutual
def chkE (C : Ck) : E → Bool → Expr → Bool
  | .var i, _, a => (match a with | .Name x _ => visB C i x | _ => false)
  | .mv i, _, a => (match a with | .Name x _ => visB C i x | _ => false)
  | .cst d, _, a => (match a with | .Constant c _ _ => cstB d c | _ => false)
  | .glo x d, _, a => (match a with | .Name y _ => x == y && glB C x && gloB C x d | _ => false)
  | .rd p, t, a => (!t || plainT a) && chkP C p a
  | .bp p, t, a => (!t || plainT a) && chkP C p a
  | .neg e, _, a => (match a with | .UnaryOp .USub x _ => chkE C e false x | _ => false)
  | .not e, t, a => (match a with | .UnaryOp .Not x _ => chkE C e t x | _ => false)
  | .bin o e f, _, a => (match a with | .BinOp x o' y _ => decide (o = o') && chkE C e false x && chkE C f false y | _ => false)
  | .cmp o e f, _, a => (match a with | .Compare x [o'] [y] _ => decide (o = o') && notSet y && chkE C e false x && chkE C f false y | _ => false)
  | .chn o o' e f g, _, a => (match a with | .Compare x [p, p'] [y, z] _ => decide (o = p) && decide (o' = p') && notSet y && notSet z && chkE C e false x && chkE C f false y && chkE C g false z | _ => false)
  | .and e f, t, a => (match a with
    | .BoolOp .And [x, y] _ => chkE C e t x && chkE C f t y
    | .BoolOp .And (x :: y :: z :: r) p => chkE C e t x && chkE C f t (.BoolOp .And (y :: z :: r) p)
    | _ => false)
  | .or e f, t, a => (match a with
    | .BoolOp .Or [x, y] _ => chkE C e t x && chkE C f t y
    | .BoolOp .Or (x :: y :: z :: r) p => chkE C e t x && chkE C f t (.BoolOp .Or (y :: z :: r) p)
    | _ => false)
  | .ife c e f, t, a => (match a with | .IfExp z x y _ => chkE C c true z && chkE C e t x && chkE C f t y | _ => false)
  | .tup es, _, a => (match a with | .Tuple xs _ _ => chkEs C es xs | _ => false)
  | .lst es, _, a => (match a with | .List xs _ => chkEs C es xs | _ => false)
  | .ix e i, _, a => (match a with | .Subscript x y _ => notSlice y && chkE C e false x && chkE C i false y | _ => false)
  | .sl e lo hi, _, a => (match a with | .Subscript x (.Slice l h .none _) _ => chkE C e false x && chkO C lo l && chkO C hi h | _ => false)
  | .rev e, _, a => (match a with | .Subscript x (.Slice none none (some (.UnaryOp .USub (.Constant (.int 1) _ _) _)) _) _ => chkE C e false x | _ => false)
  | .mt m e es, _, a => (match a with
    | .Call (.Attribute o nm apos) (y :: ys) [] pos => m.easy && nm == (m.nm : Str) && apos.endLine == pos.line && decide ((y :: ys).length < 30) && notCall0 o && chkE C e false o && chkEs C es (y :: ys)
    | _ => false)
  | .isx i ups, _, a => (match a with
    | .Call (.Name f _) [.Name x _, .Name t _] [] _ => C.hot && f == ("isinstance" : Str) && bltB C f && visB C i x && glB C t && upB C t ups
    | .Call (.Name f _) [.Name x _, .Tuple es _ _] [] _ => C.hot && f == ("isinstance" : Str) && bltB C f && visB C i x && tnsB C es == some ups && decide (es.length ≤ 1000)
    | _ => false)
  | .xf i n, _, a => (match a with | .Attribute (.Name x _) f _ => C.hot && n == f && C.tb.fds.contains n && visB C i x | _ => false)
  | .bi .lset es, _, a => (match es, a with
    | .cons e .nil, .Call (.Name f _) [.Call (.Name g _) [x] [] _] [] _ => !C.hot && f == ("len" : Str) && bltB C f && g == ("set" : Str) && bltB C g && notStar x && chkE C e false x
    | _, _ => false)
  | .bi .sortedRev es, _, a => (match a with | .Call (.Name x _) (y :: ys) [⟨some n, .Constant (.bool true) _ _, _⟩] _ => n == ("reverse" : Str) && x == ("sorted" : Str) && bltB C x && chkEs C es (y :: ys) | _ => false)
  | .bi b es, _, a => (match a with | .Call (.Name x _) (y :: ys) [] _ => b.easy && (b.calm || !C.hot) && x == (b.nm : Str) && bltB C x && chkEs C es (y :: ys) | _ => false)
  | .isi e ts one, _, a => (match a with | .Call (.Name f _) [x, .Name t _] [] _ => f == ("isinstance" : Str) && bltB C f && bltB C t && chkE C e false x && notStar x && (match ts with | [s] => t == (s : Str) && isiT.contains s | _ => false) | _ => false)
  | .pm m p es, _, a => (match a with
    | .Call (.Attribute o nm apos) (y :: ys) [] pos => m.easy1 && nm == (m.nm : Str) && apos.endLine == pos.line && decide ((y :: ys).length < 30) && chkP C p o && chkEs C es (y :: ys)
    | .Call (.Attribute o nm apos) [] [] pos => (match m, es with | .pop, .nil => nm == ("pop" : Str) | .clear, .nil => nm == ("clear" : Str) | _, _ => false) && apos.endLine == pos.line && chkP C p o
    | _ => false)
  | .call n f _ as, _, a => (match a with
    | .Call (.Name x _) (y :: ys) [] _ => !C.hot && (match C.fns[n]? with | some t => t.cl.isNone && t.name == x && decide (t.k ≤ C.k) | none => false) && glB C x && chkAs C as (y :: ys)
    | _ => false)
  | .comp e t it c own, _, a => (match a with
    | .ListComp x [⟨tg, iter, ifs, as⟩] scope _ => !C.hot && decide (as = 0) && notSet iter && blkB C.N C.sc scope own && nodupB own && t.slots.all (fun i => own.contains i) && chkI C it iter && tgOk it tg && tgB (C.blk scope) t tg &&
        (match ifs with | [] => (match c with | .none => true | _ => false) | [y] => chkO1 (C.blk scope) c y | _ => false) && chkE (C.blk scope) e false x
    | _ => false)
  | .frz e, t, a => (!t || plainT a) && chkE C e false a
  | .lrg e, _, a => (match a with | .Call (.Name f _) [.Call (.Name g _) [x] [] _] [] _ => !C.hot && f == ("list" : Str) && bltB C f && g == ("range" : Str) && bltB C g && notStar x && chkE C e false x | _ => false)
  | .trg e, _, a => (match a with | .Call (.Name f _) [.Call (.Name g _) [x] [] _] [] _ => !C.hot && f == ("tuple" : Str) && bltB C f && g == ("range" : Str) && bltB C g && notStar x && chkE C e false x | _ => false)
  | .dcK ks es, _, a => (match a with | .Dict keys vals _ => decide (ks.length ≤ 15) && keysB ks keys && decide (es.len = ks.length) && chkEs C es vals | _ => false)
  | .dtE, _, a => (match a with | .Dict [] [] _ => true | _ => false)
  | .dt1 k v, _, a => (match a with | .Dict [some x] [y] _ => chkE C k false x && chkE C v false y | _ => false)
  | .dget p k, _, a => (match a with | .Subscript x y _ => notSlice y && chkP C p x && chkE C k false y | _ => false)
  | .inD neg k p, _, a => (match a with | .Compare x [o] [y] _ => decide (o = if neg then .NotIn else .In) && notSet y && chkE C k false x && chkP C p y | _ => false)
  | .get2 p k d, _, a => (match a with
    | .Call (.Attribute o nm apos) [x, y] [] pos => nm == ("get" : Str) && apos.endLine == pos.line && notStar x && notStar y && chkP C p o && chkE C k false x && chkE C d false y
    | _ => false)
  | .new n cn as, _, a => (match a with
    | .Call (.Name x _) args [] _ => !C.hot && x == cn && C.tb.cls.contains x && (match C.fns[n]? with | some t => t.cl == some x && t.name == ("__init__" : Str) && decide (t.k + 1 ≤ C.k) | none => false) && glB C x && (match as, args with | .nil, [] => true | _, [] => false | _, y :: ys => chkAs C as (y :: ys))
    | _ => false)
  | .mcall n cn m p as, _, a => (match a with
    | .Call (.Attribute o nm apos) args [] pos => !C.hot && nm == m && !(m == ("__init__" : Str)) && C.tb.cls.contains cn && (match C.fns[n]? with | some t => t.cl == some cn && t.name == m && decide (t.k ≤ C.k) | none => false) && apos.endLine == pos.line && decide (args.length < 29) && chkP C p o && (match as, args with | .nil, [] => true | _, [] => false | _, y :: ys => chkAs C as (y :: ys))
    | _ => false)
  | .srtD p, _, a => (match a with | .Call (.Name f _) [x] [] _ => !C.hot && f == ("sorted" : Str) && bltB C f && notStar x && chkP C p x | _ => false)
  | .rdx p e, _, a => (match a with | .Subscript x y _ => notSlice y && chkP C p x && chkE C e false y | _ => false)
  | .tupP p, _, a => (match a with | .Call (.Name x _) [y] [] _ => x == ("tuple" : Str) && bltB C x && notStar y && chkP C p y | _ => false)
  | .fldE e f, _, a => (match a with | .Attribute x g _ => g == f && C.tb.ifs.contains f && notCall0 x && chkE C e false x | _ => false)
  | .compP e t it own, _, a => (match a with
    | .ListComp x [⟨tg, iter, [], as⟩] scope _ => !C.hot && decide (as = 0) && notSet iter && blkB C.N C.sc scope own && nodupB own && t.slots.all (fun i => own.contains i) && chkSr C it iter && tgOk it tg && tgB (C.blk scope) t tg && chkE (C.blk scope) e false x
    | _ => false)
  | .pm2 p p' es, _, a => (match a with
    | .Call (.Attribute o nm apos) [.Call (.Attribute o' nm' apos') (y :: ys) [] pos'] [] pos => nm == ("append" : Str) && nm' == ("pop" : Str) && apos.endLine == pos.line && apos'.endLine == pos'.line && decide ((y :: ys).length < 30) && chkP C p o && chkP C p' o' && chkEs C es (y :: ys)
    | _ => false)
def chkEs (C : Ck) : Es → List Expr → Bool
  | .nil, xs => xs.isEmpty
  | .cons e r, xs => (match xs with | x :: ys => notStar x && chkE C e false x && chkEs C r ys | [] => false)
def chkO (C : Ck) : O → Option Expr → Bool
  | .none, x => x.isNone
  | .some e, x => (match x with | some x => chkE C e false x | none => false)
def chkO1 (C : Ck) : O → Expr → Bool
  | .none, _ => false
  | .some e, x => chkE C e true x
def chkAs (C : Ck) : As → List Expr → Bool
  | .nil, xs => xs.isEmpty
  | .val e r, xs => (match xs with | x :: ys => notStar x && chkE C e false x && chkAs C r ys | [] => false)
  | .ref p r, xs => (match xs with | x :: ys => notStar x && chkP C p x && chkAs C r ys | [] => false)
  | .look p r, xs => (match xs with | x :: ys => notStar x && chkP C p x && chkAs C r ys | [] => false)
def chkP (C : Ck) : P → Expr → Bool
  | .root i, a => (match a with | .Name x _ => visB C i x | _ => false)
  | .idx p e, a => (match a with | .Subscript x y _ => notSlice y && chkP C p x && chkE C e false y | _ => false)
  | .fld p f, a => (match a with | .Attribute x g _ => g == f && C.tb.ifs.contains f && chkP C p x | _ => false)
def chkI (C : Ck) : I → Expr → Bool
  | .val e, a => chkE C e false a
  | .ref p, a => chkP C p a
  | .rng1 e, a => (match a with | .Call (.Name g _) [x] [] _ => g == ("range" : Str) && bltB C g && notStar x && chkE C e false x | _ => false)
  | .rng2 e f, a => (match a with | .Call (.Name g _) [x, y] [] _ => g == ("range" : Str) && bltB C g && notStar x && notStar y && chkE C e false x && chkE C f false y | _ => false)
  | .rrng1 e, a => (match a with | .Call (.Name r _) [.Call (.Name g _) [x] [] _] [] _ => r == ("reversed" : Str) && bltB C r && g == ("range" : Str) && bltB C g && notStar x && chkE C e false x | _ => false)
  | .zip e f, a => (match a with | .Call (.Name g _) [x, y] [] _ => g == ("zip" : Str) && bltB C g && notStar x && notStar y && chkE C e false x && chkE C f false y | _ => false)
  | .enum e, a => (match a with | .Call (.Name g _) [x] [] _ => g == ("enumerate" : Str) && bltB C g && notStar x && chkE C e false x | _ => false)
  | .revd e, a => (match a with | .Call (.Name g _) [x] [] _ => g == ("reversed" : Str) && bltB C g && notStar x && chkE C e false x | _ => false)
  | .keys p, a => chkP C p a
  | .bor _, _ => false
def chkSr (C : Ck) : I → Expr → Bool
  | .bor p, a => chkP C p a
  | .val e, a => chkE C e false a
  | _, _ => false
end
end DE
end

section
set_option Elab.async false
set_option linter.all false
/-! DE19: a term that fits the text keeps what its run promises. -/
namespace DE
open PySem PySem.Spec PyProof.Rows L2

/-- where a def, a method stands -/
def StOk (K : PySem.W.Frag) (mg : Str → Option Value) (t : FnT) (f : Addr) : Prop := match t.cl with
  | none => mg t.name = some (.ref f) ∧ PySem.W.keepIn K (.ref f) = true
  | some C => ∃ c, mg C = some (.ref c) ∧ ((t.name = ("__init__" : Str) ∧ L2.Mk K c f) ∨ (t.name ≠ ("__init__" : Str) ∧ Meth K c t.name f))
abbrev Tb.xc (tb : Tb) : XC := (tb.exs, tb.cls)
structure FnsOk (P : Program) (w : World) (K : PySem.W.Frag) (mg : Str → Option Value) (base : Heap) (ex : XC) (G : List Fn) (fns : List FnT) : Prop where
  fn : ∀ n t, fns[n]? = some t → ∃ f fd, StOk K mg t f ∧ Binds K fd t.ps [] ∧ FnG P w K mg base (L2.CX P w) t.k f fd t.ps (spF (kf P w K mg ex) mg t.ps.length (fnAt G n)) ∧ ∀ ds, fnAt G n ds ≠ .no → ds.length = t.ps.length
/-- a class without a way to be made of its own -/
def Rs0 (K : PySem.W.Frag) (mg : Str → Option Value) (x : Str) : Prop := ∃ c, mg x = some (.ref c) ∧ PySem.W.excIn K c He.veBase "ValueError.__new__" = true ∧ PySem.W.keepIn K (.ref c) = true ∧ PySem.W.subIn K (.ref c) (.type "BaseException") = some true ∧ PySem.W.typeIn K (.ref c) = some (.type "type")
/-- .. with an __init__ that keeps what it is handed -/
def Rs1 (P : Program) (w : World) (K : PySem.W.Frag) (mg : Str → Option Value) (base : Heap) (x : Str) (fs : List Str) : Prop := ∃ c fI fd ps, mg x = some (.ref c) ∧ OexC K c ∧ (∀ f ∈ fs, PySem.W.findIn K (.ref c) f = some none) ∧ PySem.W.findIn K (.ref c) "__init__" = some (some (.ref fI)) ∧
  PySem.W.typeIn K (.ref fI) = some (.type "function") ∧ FnOk P w K mg base (L2.CX P w) 1 fI fd ps (spI K fs) ∧ Binds K fd ps []
/-- a name in an except clause, in isinstance -/
def UpOk (K : PySem.W.Frag) (mg : Str → Option Value) (ex : List Str) (t : Str) (us : List Str) : Prop := ∃ cv v, (∀ u, RelV v u → u = cv) ∧ RelV v cv ∧ (mg t = some cv ∨ (mg t = none ∧ bootBuiltins t = some cv ∧ t ≠ "__name__")) ∧ (t == ("__debug__" : Str)) = false ∧
  ∀ n ∈ ex, ∀ a, mg n = some (.ref a) → PySem.W.kitOne K (.ref a) cv = some (us.contains n) ∧ PySem.W.exmOne K (.ref a) cv = some (us.contains n)
structure TbOk (P : Program) (w : World) (K : PySem.W.Frag) (mg : Str → Option Value) (base : Heap) (tb : Tb) : Prop where
  free : ∀ x ∈ tb.blt, mg x = none
  glb : ∀ x d, (x, d) ∈ tb.glb → ∃ v u, mg x = some u ∧ RelV v u ∧ ∀ H S, Rp K H S v d
  exq : ∀ n ∈ tb.exs, ∀ c, mg n = some (.ref c) → ExqC K c
  rs : ∀ x fs, (x, fs) ∈ tb.rs → x ∈ tb.exs ∧ (if fs.isEmpty then Rs0 K mg x else Rs1 P w K mg base x fs ∧ fs.length ≤ 1000)
  ups : ∀ t us, (t, us) ∈ tb.ups → UpOk K mg tb.exs t us
  cls : ∀ C ∈ tb.cls, ∀ c, mg C = some (.ref c) → Cls K c ∧ ∀ f ∈ tb.ifs, NoAttr K c f
  fds : ∀ f ∈ tb.fds, ∀ n ∈ tb.exs, ∀ a, mg n = some (.ref a) → PySem.W.findIn K (.ref a) f = some none
structure CxOk (X : Cx) (xz : Xs) (C : Ck) (G : List Fn) (W : WX) : Prop where
  N : X.N = C.N
  sc : X.env.scope = C.sc
  nd : X.N.Nodup
  calm : C.hot = false → X.calm = true
  gd : X.A.guards = some []
  room : C.hot = false → Room C.k X.A
  un : X.A.units + 65 < cLine
  tk : Takes X W
  ex : xz.ex = C.tb.exs
  cl : xz.cl = C.tb.cls
  nil : C.hot = false → xz.l = []
  fns : FnsOk X.prog X.w X.K X.mg X.base C.tb.xc G C.fns
  tb : TbOk X.prog X.w X.K X.mg X.base C.tb
  fnc : ∀ x ∈ C.fnc, X.fn x = true
  pin : C.hot = true → PinOk X xz

section
variable {X : Cx} {xz : Xs} {C : Ck} {G : List Fn} {W : WX} {pos : Pos} {t : T}
theorem str_eq {x y : Str} (h : (x == y) = true) : x = y := by simpa using h
theorem CxOk.units (c : CxOk X xz C G W) : X.A.units + 65 < cLine := c.un
theorem CxOk.vis (c : CxOk X xz C G W) {i : Nat} {x : Str} (h : visB C i x = true) : PE X (.Name x pos) (tVar i) := by
  unfold visB at h
  simp only [Bool.and_eq_true, Bool.not_eq_true'] at h
  obtain ⟨⟨⟨h1, h2⟩, h3⟩, h4⟩ := h
  refine pe_var (by rw [c.N]; simpa using h1) ?_ h3 h4
  rw [Vis, c.sc]
  revert h2
  cases C.sc.names.lookup x with
  | none => intro h; cases h
  | some k => cases k <;> intro h <;> first | exact .inl rfl | exact .inr (.inl rfl) | exact .inr (.inr rfl) | cases h
theorem CxOk.gl (c : CxOk X xz C G W) {x : Str} (h : glB C x = true) : Gl X x ∧ (x == ("__debug__" : Str)) = false ∧ x ≠ ("__name__" : Str) := by
  unfold glB at h
  simp only [Bool.and_eq_true, Bool.not_eq_true'] at h
  refine ⟨?_, h.1.2, fun e => by subst e; exact absurd h.2 (by decide)⟩
  unfold Gl PySem.Env.kindOf
  rw [c.sc]
  simpa using h.1.1
theorem CxOk.bl (c : CxOk X xz C G W) {x : Str} (h : bltB C x = true) : Gl X x ∧ (x == ("__debug__" : Str)) = false ∧ x ≠ ("__name__" : Str) ∧ X.mg x = none := by
  unfold bltB at h
  rw [Bool.and_eq_true] at h
  obtain ⟨h1, h2, h3⟩ := c.gl h.1
  exact ⟨h1, h2, h3, c.tb.free x (List.contains_iff_mem.mp h.2)⟩
theorem CxOk.loc (c : CxOk X xz C G W) {i : Nat} {x : Str} (h : locB C i x = true) : PG X (.Name x pos) (gName i) := by
  unfold locB at h
  rw [Bool.and_eq_true] at h
  have hN : X.N[i]? = some x := by rw [c.N]; simpa using h.1
  have hk : (X.env.scope.names.lookup x = some .local) ∨ (X.env.scope.names.lookup x = some .cell ∧ X.fn x = true) := by
    rw [c.sc]
    revert h
    cases C.sc.names.lookup x with
    | none => intro h; cases h.2
    | some k => cases k <;> intro h <;> first | exact .inl rfl | exact .inr ⟨rfl, c.fnc x (List.contains_iff_mem.mp h.2)⟩ | cases h.2
  rcases hk with hk | ⟨hk, hf⟩
  · exact pg_name c.nd hN (.inl hk) (.inr hk)
  · exact pg_name c.nd hN (.inr hk) (.inl hf)
theorem names_len {env : PySem.Env} {C : Ck} : ∀ {is : List Nat} {es : List Expr}, tgB.go C is es = true → (assignEach es env).length = is.length ∧ (assignEach es env).findIdx? (·.1) = none
  | [], [], _ => ⟨rfl, rfl⟩
  | [], _ :: _, h => by simp [tgB.go] at h
  | _ :: _, [], h => by simp [tgB.go] at h
  | i :: is, e :: es, h => by
    cases e with
    | Name x p =>
      simp only [tgB.go, Bool.and_eq_true] at h
      obtain ⟨h1, h2⟩ := names_len (env := env) h.2
      refine ⟨by show (assignEach es env).length + 1 = _; rw [h1]; rfl, ?_⟩
      show List.findIdx? _ ((false, assign (.Name x p) env) :: assignEach es env) = none
      rw [List.findIdx?_cons, h2]; rfl
    | _ => simp [tgB.go] at h
theorem CxOk.names (c : CxOk X xz C G W) : ∀ {is : List Nat} {es : List Expr}, tgB.go C is es = true → PGs X es (gNames is)
  | [], [], _ => pgs_nil
  | [], _ :: _, h => by simp [tgB.go] at h
  | _ :: _, [], h => by simp [tgB.go] at h
  | i :: is, e :: es, h => by
    cases e with
    | Name x p =>
      simp only [tgB.go, Bool.and_eq_true] at h
      exact pgs_cons (c.loc h.1) (c.names h.2)
    | _ => simp [tgB.go] at h
theorem CxOk.tg (c : CxOk X xz C G W) (hh : C.hot = false ∨ ∃ i, t = .nm i) {tg : Expr} (h : tgB C t tg = true) : PG X tg (TGt X.K t) := by
  cases t with
  | nm i => cases tg with
    | Name x p => exact c.loc (by simpa [tgB] using h)
    | _ => simp [tgB] at h
  | tp is => cases tg with
    | Tuple es k p =>
      have h' : tgB.go C is es = true := by simpa [tgB] using h
      obtain ⟨h1, h2⟩ := names_len (env := X.env) h'
      rcases hh with hh | ⟨i, hh⟩
      · exact pg_tup (c.calm hh) (c.names h') h1 h2
      · cases hh
    | _ => simp [tgB] at h
theorem takes_blk {Y : Cx} : Takes Y Wn := fun _ _ x => by
  obtain ⟨_, _, _, _, _, _, _, _, _, _, _, _, _, _, _, _, w⟩ := x
  exact w.elim
theorem CxOk.blk (c : CxOk X xz C G W) (hh : C.hot = false) (scope : Scope) (hu : ∀ y ∈ scope.names, scope.names.lookup y.1 = some y.2) (s : Shared) (H : Hp) (A : Addr) (cl : List (Str × Addr)) (fp : List Addr) : CxOk (X.blk s H scope (compEnvC scope cl A X.env) fp) xz (C.blk scope) G Wn where
  N := c.N
  sc := by show relS scope X.env.scope = relS scope C.sc; rw [c.sc]
  nd := c.nd
  calm := c.calm
  gd := c.gd
  room := c.room
  un := c.un
  tk := takes_blk
  ex := c.ex
  cl := c.cl
  nil := c.nil
  fns := c.fns
  tb := c.tb
  pin := fun z => by
    have z' : C.hot = true := z
    rw [hh] at z'
    cases z'
  fnc := fun x hx => by
    obtain ⟨y, hy, rfl⟩ := List.mem_map.mp hx
    obtain ⟨h1, h2⟩ := List.mem_filter.mp hy
    show (scope.names.lookup y.1 == some NameKind.cell) = true
    rw [hu y h1]
    simpa using h2
theorem nodup_of : ∀ {l : List Nat}, nodupB l = true → l.Nodup
  | [], _ => .nil
  | a :: l, h => by
    simp only [nodupB, Bool.and_eq_true, Bool.not_eq_true'] at h
    refine List.nodup_cons.mpr ⟨fun z => ?_, nodup_of h.2⟩
    rw [List.contains_iff_mem.mpr z] at h
    cases h.1
theorem cst_ok {d : PyData} {c : Const} {j : Nat} (h : cstB d c = true) : PE X (.Constant c j pos) (LE (kx X xz) X.mg G W (.cst d)) := by
  cases d <;> cases c <;> simp only [cstB] at h <;> first | cases h | skip
  · exact le_cst pe_non fun _ _ => .non
  · rw [beq_iff_eq] at h
    subst h
    exact le_cst pe_bl fun _ _ => .bl _
  · rw [beq_iff_eq] at h
    subst h
    exact le_cst pe_int fun _ _ => .int _
  · have e := str_eq h
    subst e
    exact le_cst pe_str fun _ _ => .str _
end
end DE
end

section
set_option Elab.async false
set_option linter.all false
/-! DE20: expressions that fit. -/
namespace DE
open PySem PySem.Spec PyProof.Rows L2

section
variable {X : Cx} {xz : Xs} {C : Ck} {G : List Fn} {W : WX} {pos : Pos}
theorem RpL.intsV {K : Kx} {H : Hp} {S : Addr → Prop} (g : Nat → Int) : ∀ l : List Nat, RpL K.K H S (l.map fun k => V.int (g k)) (l.map fun k => PyData.int (g k))
  | [] => .nil
  | k :: l => .cons (.int _) (RpL.intsV g l)
theorem rg_rp {K : Kx} {H : Hp} {S : Addr → Prop} {j : Int} : RpL K.K H S (rgV 0 j) ((List.range j.toNat).map fun (k : Nat) => PyData.int (k : Int)) := by
  unfold rgV
  have e1 : (j - 0).toNat = j.toNat := by rw [Int.sub_zero]
  rw [e1]
  have e2 : ((List.range j.toNat).map fun (i : Nat) => V.int (0 + (i : Int))) = (List.range j.toNat).map fun (i : Nat) => V.int (i : Int) := by simp
  rw [e2]
  exact RpL.intsV (fun k => (k : Int)) _
theorem rngL_eq (n : Nat) : rngL 0 n = ((List.range n).map fun (k : Nat) => PyData.int (k : Int)).map .dat := by
  unfold rngL
  rw [List.map_map]
  refine List.map_congr_left fun k _ => ?_
  simp
theorem le_lrg {e : E} {ee : Expr} {p p2 pos2 : Pos} (hg : Gl X "range") (hm : X.mg "range" = none) (hg2 : Gl X "list") (hm2 : X.mg "list" = none) (hc : X.calm = true) (he : PE X ee (LE (kx X xz) X.mg G W e)) (hs : starEach [ee] X.env = (false, eval ee X.env) :: starEach [] X.env) :
    PE X (.Call (.Name "list" p2) [.Call (.Name "range" p) [ee] [] pos] [] pos2) (LE (kx X xz) X.mg G W (.lrg e)) := by
  refine PE.imp (pe_listRg hc hg2 hm2 (prg_1 hg hm he hs)) fun σ H Q ⟨ρ, Fz, Bz, f, re, wf, out⟩ => ?_
  simp only [evE] at out
  refine LE.one re (At.start wf) out ?_
  intro x ρ1 v H1 Fz1 fρ fd re1 rv s t out1
  split at out1
  · split at out1
    · rename_i j hj
      rw [Bool.and_eq_true] at hj
      cases rv with
      | dat rp z =>
        have e := rp.int_inv; subst e
        obtain ⟨h1, h2⟩ := rngOk_b hj.1
        have hz := fits_line hj.2
        rw [sizeLine_eq] at hz
        refine ⟨j, rfl, ⟨by omega, by omega, h1, h2, by rw [Int.sub_zero]; omega⟩, fun q hq => ?_⟩
        rw [rngL_eq] at out1
        exact out1.made (S := Fz1) re1 t (fun h => by simpa [E.pure] using h) (Mk.list hq rg_rp) fun _ h => h
    · exact out1.elim
  · exact out1.elim
theorem le_trg {e : E} {ee : Expr} {p p2 pos2 : Pos} (hg : Gl X "range") (hm : X.mg "range" = none) (hg2 : Gl X "tuple") (hm2 : X.mg "tuple" = none) (hc : X.calm = true) (he : PE X ee (LE (kx X xz) X.mg G W e)) (hs : starEach [ee] X.env = (false, eval ee X.env) :: starEach [] X.env) :
    PE X (.Call (.Name "tuple" p2) [.Call (.Name "range" p) [ee] [] pos] [] pos2) (LE (kx X xz) X.mg G W (.trg e)) := by
  refine PE.imp (pe_tupRgN hc hg2 hm2 (prg_1 hg hm he hs)) fun σ H Q ⟨ρ, Fz, Bz, f, re, wf, out⟩ => ?_
  simp only [evE] at out
  refine LE.one re (At.start wf) out ?_
  intro x ρ1 v H1 Fz1 fρ fd re1 rv s t out1
  split at out1
  · split at out1
    · rename_i j hj
      rw [Bool.and_eq_true] at hj
      cases rv with
      | dat rp z =>
        have e := rp.int_inv; subst e
        obtain ⟨h1, h2⟩ := rngOk_b hj.1
        have hz := fits_line hj.2
        rw [sizeLine_eq] at hz
        refine ⟨j, rfl, ⟨by omega, by omega, h1, h2, by rw [Int.sub_zero]; omega⟩, fun q ob hq hdn => ?_⟩
        exact out1.made (S := Fz1) re1 t (fun h => by simpa [E.pure] using h) (Mk.tuple hq hdn rg_rp) fun _ h => h
    · exact out1.elim
  · exact out1.elim
def isiN (a t : String) : Bool := a == t || (a == "bool" && t == "int")
theorem isi_tab : ∀ a ∈ ["NoneType", "bool", "int", "str", "list", "tuple", "dict"], ∀ t ∈ isiT, kitB a t = some (isiN a t) := by decide +kernel
theorem isi_kit (d : PyData) {t : String} (h : isiT.contains t = true) : kitB (tyName d) t = some (isiD d t) := by
  have e := isi_tab (tyName d) (by cases d <;> simp [tyName]) t (List.contains_iff_mem.mp h)
  rw [e]
  have m : t = "int" ∨ t = "bool" ∨ t = "str" ∨ t = "list" ∨ t = "tuple" := by simpa [isiT] using h
  rcases m with e | e | e | e | e <;> subst e <;> cases d <;> simp [isiN, isiD, tyName]
theorem isi_boot {t : String} (h : isiT.contains t = true) : bootBuiltins (t : Str) = some (.type t) := by
  have m : t = "int" ∨ t = "bool" ∨ t = "str" ∨ t = "list" ∨ t = "tuple" := by simpa [isiT] using h
  rcases m with e | e | e | e | e <;> subst e <;> decide +kernel
theorem le_isi {e : E} {ee : Expr} {t : String} {one : Bool} {p p2 : Pos} (ht : isiT.contains t = true) (hg : Gl X "isinstance") (hm : X.mg "isinstance" = none) (hg2 : Gl X (t : Str)) (hm2 : X.mg (t : Str) = none) (hd2 : ((t : Str) == ("__debug__" : Str)) = false) (hn2 : (t : Str) ≠ ("__name__" : Str))
    (he : PE X ee (LE (kx X xz) X.mg G W e)) (hs : starEach [ee, .Name (t : Str) p2] X.env = (false, eval ee X.env) :: starEach [.Name (t : Str) p2] X.env) :
    PE X (.Call (.Name "isinstance" p) [ee, .Name (t : Str) p2] [] pos) (LE (kx X xz) X.mg G W (.isi e [t] one)) := by
  refine PE.imp (pe_callB call_isi hg hm boot_isinstance (pa_cons he (pa_cons (pe_bltn hg2 hm2 (isi_boot ht) (v := .ty t) rfl hn2 hd2) pa_nil) hs) (by decide) (by decide) hs (stars_any (by rfl))) fun σ H Q ⟨ρ, Fz, Bz, f, re, wf, out⟩ => ?_
  simp only [evE] at out
  refine LE.one re (At.start wf) out ?_
  intro x ρ1 v H1 Fz1 fρ fd re1 rv s t1 out1
  unfold isiV at out1
  cases hv : x.view with
  | none => rw [hv] at out1; exact out1.elim
  | some d =>
    rw [hv] at out1
    refine ⟨v, .ty t, _, _, isiD d t, rfl, .ty t, tyX_of (rv.look hv), kit_ty (isi_kit d ht), ?_⟩
    have e : ([t].any (isiD d)) = isiD d t := by simp
    simp only [Option.map_some, e] at out1
    exact out1.made (S := Fz1) re1 t1 (fun h => by simpa [E.pure] using h) (.old (.bl _)) fun _ h => h
/-- a built-in function -/
theorem le_bi (c : CxOk X xz C G W) {b : Bi} {es : Es} {y : Expr} {ys : List Expr} {p : Pos} (hb : b.easy = true) (hcm : b.calm = true ∨ C.hot = false) (hx : bltB C (b.nm : Str) = true) (ha : PA X (y :: ys) (LEs (kx X xz) X.mg G W es)) (hs : (y :: ys).all notStar = true) :
    PE X (.Call (.Name (b.nm : Str) p) (y :: ys) [] pos) (LE (kx X xz) X.mg G W (.bi b es)) := by
  obtain ⟨hg, hd, hn, hm⟩ := c.bl hx
  rw [List.all_cons, Bool.and_eq_true] at hs
  have h1 := star_ok (env := X.env) (es := ys) hs.1
  have h2 := stars_any (env := X.env) (pos := pos) hs.2
  have mB : ∀ {id : String}, CallR X (.builtin id) (rBiV X.K (biD b)) → b.makes = false → bootBuiltins (b.nm : Str) = some (.builtin id) → PE X (.Call (.Name (b.nm : Str) p) (y :: ys) [] pos) (LE (kx X xz) X.mg G W (.bi b es)) := fun hc hk hv =>
    PE.imp (pe_callB hc hg hm hv ha hn hd h1 h2) fun σ H Q h => bi_impV hk h
  have mT : ∀ {id : String}, CallR X (.type id) (rBiV X.K (biD b)) → b.makes = false → bootBuiltins (b.nm : Str) = some (.type id) → PE X (.Call (.Name (b.nm : Str) p) (y :: ys) [] pos) (LE (kx X xz) X.mg G W (.bi b es)) := fun hc hk hv =>
    PE.imp (pe_callTy hc hg hm hv ha hn hd h1 h2) fun σ H Q h => bi_impV hk h
  have mF : ∀ {id : String}, CallR X (.type id) (rBiF X.K (biF b)) → b.makes = true → bootBuiltins (b.nm : Str) = some (.type id) → PE X (.Call (.Name (b.nm : Str) p) (y :: ys) [] pos) (LE (kx X xz) X.mg G W (.bi b es)) := fun hc hk hv =>
    PE.imp (pe_callTy hc hg hm hv ha hn hd h1 h2) fun σ H Q h => bi_impF hk h
  have cl : b.calm = false → X.calm = true := fun z => hcm.elim (fun y => by rw [z] at y; cases y) c.calm
  cases b with
  | len => exact mB cb_len rfl (by decide +kernel)
  | sum => exact mB (cb_sum (cl rfl)) rfl (by decide +kernel)
  | max => exact mB (cb_max c.units (cl rfl)) rfl (by decide +kernel)
  | min => exact mB (cb_min c.units (cl rfl)) rfl (by decide +kernel)
  | abs => exact mB cb_abs rfl (by decide +kernel)
  | int => exact mT cb_int rfl (by decide +kernel)
  | str => exact mT cb_str rfl (by decide +kernel)
  | all => exact mB (cb_all (cl rfl)) rfl (by decide +kernel)
  | any => exact mB (cb_any (cl rfl)) rfl (by decide +kernel)
  | list => exact mF (cb_list (cl rfl)) rfl (by decide +kernel)
  | tuple => exact mF cb_tuple rfl (by decide +kernel)
  | repr => exact mB (cb_repr c.gd c.units) rfl (by decide +kernel)
  | sorted => exact PE.imp (pe_callB (cb_sorted c.units) hg hm (by decide +kernel) ha hn hd h1 h2) fun σ H Q h => bi_impF rfl h
  | sortedRev => cases hb
  | lset => cases hb
theorem cb_tupP : CallR X (.type "tuple") (fun xs H Q => ∃ a vs S, xs = [V.ref a] ∧ FzL X.K H S a vs ∧ TupQ H Q vs) := by
  intro pins s σ H xs us Q I r ⟨a, vs, S, e, ha, q⟩
  subst e
  exact call_tupN pins s σ H _ us Q I r ⟨a, vs, rfl, .inl ⟨ha.seq, q⟩⟩
theorem le_tupP {p : P} {ep : Expr} {q : Pos} (hg : Gl X "tuple") (hm : X.mg "tuple" = none) (ha : PE X ep (LP (kx X xz) X.mg G W p)) (hs : starEach [ep] X.env = (false, eval ep X.env) :: starEach [] X.env) :
    PE X (.Call (.Name "tuple" q) [ep] [] pos) (LE (kx X xz) X.mg G W (.tupP p)) := by
  refine PE.imp (pe_callTy cb_tupP hg hm (by decide +kernel) (pa_cons ha pa_nil hs) (by decide) (by decide) hs (by rfl)) fun σ H Q ⟨ρ, Fz, Bz, f, re, wf, out⟩ => ?_
  simp only [evE] at out
  refine LP.one re (At.start wf) out ?_
  intro q ρ1 u v x H1 Fz1 fρ re1 s1 t1 hv hp hgt hx out1
  split at out1
  · rename_i xs e
    rw [hgt] at e
    cases e
    cases hd : D.dats xs with
    | none => rw [hd] at out1; exact out1.elim
    | some ds =>
      rw [hd] at out1
      obtain ⟨fx, g, rv, nx, hs, l, ctx⟩ := re1.place hv hp hgt hx
      cases rv with
      | lst h r qf =>
        have e2 := dats_map hd
        subst e2
        have rp := r.rp
        exact ⟨_, _, fun _ => True, rfl, .inl ⟨h, trivial⟩, fun l ob hl hdn => out1.made (S := Fz1) re1 t1 (fun h => by simpa [E.pure] using h) (Mk.tuple hl hdn rp) fun _ h => h⟩
  · exact out1.elim
theorem CxOk.xcK (c : CxOk X xz C G W) : kf X.prog X.w X.K X.mg C.tb.xc = (kx X xz).bare := by
  show (⟨X.K, X.mg, ⟨C.tb.exs, [], C.tb.cls⟩, X.prog, X.w⟩ : Kx) = ⟨X.K, X.mg, ⟨xz.ex, [], xz.cl⟩, X.prog, X.w⟩
  rw [c.ex, c.cl]
theorem CxOk.clsAt (c : CxOk X xz C G W) {f : Str} (h : C.tb.ifs.contains f = true) : ∀ n ∈ xz.cl, ∀ a, X.mg n = some (.ref a) → Cls X.K a ∧ NoAttr X.K a f := fun n hn a ha => by
  rw [c.cl] at hn
  obtain ⟨h1, h2⟩ := c.tb.cls n hn a ha
  exact ⟨h1, h2 f (List.contains_iff_mem.mp h)⟩
theorem LEs.mono {es : Es} {σ : L2.St} {H : Hp} {Q Q' : List V → Hp → Prop} (h : LEs (kx X xz) X.mg G W es σ H Q) (m : ∀ v H, Q v H → Q' v H) : LEs (kx X xz) X.mg G W es σ H Q' := by
  obtain ⟨ρ, Fz, Bz, f, re, wf, out⟩ := h
  refine ⟨ρ, Fz, Bz, f, re, wf, ?_⟩
  cases q : evEs G es ρ with
  | ok d ρ' => rw [q] at out; exact fun v H' Fz' fρ fd re rv t => m _ _ (out v H' Fz' fρ fd re rv t)
  | ex x ρ' => rw [q] at out; exact out
  | no => rw [q] at out; exact out
/-- a class's instance -/
theorem le_new' (c : CxOk X xz C G W) (hh : C.hot = false) {n : Nat} {cn : Str} {as : As} {args : List Expr} {p : Pos} {t : FnT} (ht : C.fns[n]? = some t) (hk : t.k + 1 ≤ C.k) (hcl : t.cl = some cn) (hn0 : t.name = ("__init__" : Str)) (hC : C.tb.cls.contains cn = true) (hx : glB C cn = true)
    (ha : (as = .nil ∧ args = []) ∨ ∃ y ys, args = y :: ys ∧ PA X (y :: ys) (LA (kx X xz) X.mg G W as) ∧ (y :: ys).all notStar = true) :
    PE X (.Call (.Name cn p) args [] pos) (LE (kx X xz) X.mg G W (.new n cn as)) := by
  obtain ⟨hg, hd, _⟩ := c.gl hx
  obtain ⟨f, fd, hst, bd, F, hl⟩ := c.fns.fn n t ht
  unfold StOk at hst
  rw [hcl] at hst
  obtain ⟨cc, hm, hst⟩ := hst
  have M : L2.Mk X.K cc f := hst.elim (fun z => z.2) fun z => (z.1 hn0).elim
  rw [c.xcK] at F
  have hC' : cn ∈ xz.cl := by rw [c.cl]; exact List.contains_iff_mem.mp hC
  have hr := (c.room hh).mono hk
  rcases ha with ⟨rfl, rfl⟩ | ⟨y, ys, rfl, ha, hs⟩
  · exact le_new0 M F c.gd hr hg hC' hm rfl bd c.tk hl hd
  · rw [List.all_cons, Bool.and_eq_true] at hs
    exact le_new M F c.gd hr hg hC' hm rfl bd c.tk hl ha hd (star_ok hs.1) (stars_any hs.2)
/-- a method -/
theorem le_mcall' (c : CxOk X xz C G W) (hh : C.hot = false) {n : Nat} {cn mn : Str} {p : P} {as : As} {o : Expr} {args : List Expr} {apos : Pos} {t : FnT} (ht : C.fns[n]? = some t) (hk : t.k ≤ C.k) (hcl : t.cl = some cn) (hn0 : t.name = mn) (hn1 : mn ≠ ("__init__" : Str)) (hC : C.tb.cls.contains cn = true)
    (ho : PE X o (LP (kx X xz) X.mg G W p)) (h0 : notCall0 o = true) (hl29 : args.length < 29) (hline : (apos.endLine == pos.line) = true)
    (ha : (as = .nil ∧ args = []) ∨ ∃ y ys, args = y :: ys ∧ PA X (y :: ys) (LA (kx X xz) X.mg G W as) ∧ (y :: ys).all notStar = true) :
    PE X (.Call (.Attribute o mn apos) args [] pos) (LE (kx X xz) X.mg G W (.mcall n cn mn p as)) := by
  obtain ⟨f, fd, hst, bd, F, hl⟩ := c.fns.fn n t ht
  unfold StOk at hst
  rw [hcl] at hst
  obtain ⟨cc, hm, hst⟩ := hst
  have M : Meth X.K cc mn f := hst.elim (fun z => (hn1 (hn0.symm.trans z.1)).elim) fun z => hn0 ▸ z.2
  rw [c.xcK] at F
  have cls := (c.tb.cls cn (List.contains_iff_mem.mp hC) cc hm).1
  have hr := (c.room hh).mono hk
  rcases ha with ⟨rfl, rfl⟩ | ⟨y, ys, rfl, ha, hs⟩
  · exact le_mcall0 cls M F c.gd hr hm bd c.tk hl ho (ht_ok h0 rfl hl29 hline)
  · have hs' := hs
    rw [List.all_cons, Bool.and_eq_true] at hs'
    exact le_mcall cls M F c.gd hr hm bd c.tk hl ho ha (star_ok hs'.1) (stars_any hs'.2) (ht_ok h0 hs hl29 hline)
/-- len(set(x)) -/
theorem nub_mem {x : Int} : ∀ {l : List Int}, x ∈ nub l ↔ x ∈ l
  | [] => by simp [nub]
  | y :: r => by
    rw [nub]
    split
    · rename_i h
      rw [nub_mem (l := r), List.mem_cons]
      exact ⟨.inr, fun e => e.elim (fun e => e ▸ h) id⟩
    · rw [List.mem_cons, List.mem_cons, nub_mem (l := r)]
theorem nub_nodup : ∀ l : List Int, (nub l).Nodup
  | [] => by simp [nub]
  | y :: r => by
    rw [nub]
    split
    · exact nub_nodup r
    · rename_i h
      exact List.nodup_cons.mpr ⟨fun e => h (nub_mem.mp e), nub_nodup r⟩
theorem nodup_le : ∀ (l D : List Int), l.Nodup → (∀ x ∈ l, x ∈ D) → l.length ≤ D.length
  | [], D, _, _ => by simp
  | x :: l, D, hn, hs => by
    have hx := hs x List.mem_cons_self
    obtain ⟨n1, n2⟩ := List.nodup_cons.mp hn
    have := nodup_le l (D.erase x) n2 fun y hy => (List.mem_erase_of_ne fun (e : y = x) => n1 (by rw [← e]; exact hy)).mpr (hs y (List.mem_cons_of_mem _ hy))
    rw [List.length_erase_of_mem hx] at this
    have := List.length_pos_of_mem hx
    simp only [List.length_cons]
    omega
theorem nodup_len {l m : List Int} (hl : l.Nodup) (hm : m.Nodup) (h : ∀ x, x ∈ l ↔ x ∈ m) : l.length = m.length :=
  Nat.le_antisymm (nodup_le l m hl fun x hx => (h x).mp hx) (nodup_le m l hm fun x hx => (h x).mpr hx)
theorem firstMet_nd (val : Nat → Int) : ∀ i, (PyProof.Rows.firstMet val i).Nodup
  | 0 => by simp [PyProof.Rows.firstMet_zero]
  | i + 1 => by
    rw [PyProof.Rows.firstMet_succ]
    unfold PyProof.Rows.step_dedup
    split
    · exact firstMet_nd val i
    · rename_i h
      rw [List.nodup_append]
      refine ⟨firstMet_nd val i, by simp, fun a ha b hb => ?_⟩
      rw [List.mem_singleton.mp hb]
      exact fun e => h (List.any_eq_true.mpr ⟨a, ha, by rw [e]; simp⟩)
theorem firstMet_nub (ns : List Int) : (PyProof.Rows.firstMet (fun i => ns.getD i 0) ns.length).length = (nub ns).length := by
  refine nodup_len (firstMet_nd _ _) (nub_nodup _) fun x => ?_
  rw [nub_mem]
  have h := PyProof.Rows.firstMet_any (fun i => ns.getD i 0) ns.length x
  have e : (List.range ns.length).map (fun i => ns.getD i 0) = ns := by
    refine List.ext_getElem (by simp) fun i h1 h2 => ?_
    simp at h1
    simp [List.getD_eq_getElem?_getD, h1]
  rw [e] at h
  have a1 : (PyProof.Rows.firstMet (fun i => ns.getD i 0) ns.length).any (· == x) = true ↔ x ∈ PyProof.Rows.firstMet (fun i => ns.getD i 0) ns.length := by
    rw [List.any_eq_true]
    exact ⟨fun ⟨y, hy, e⟩ => eq_of_beq e ▸ hy, fun hx => ⟨x, hx, by simp⟩⟩
  have a2 : ns.any (· == x) = true ↔ x ∈ ns := by
    rw [List.any_eq_true]
    exact ⟨fun ⟨y, hy, e⟩ => eq_of_beq e ▸ hy, fun hx => ⟨x, hx, by simp⟩⟩
  rw [← a1, ← a2, h]
def tLenSetG (K : PySem.W.Frag) (ta : TE) : TE := fun σ H Q => ta σ H fun x H1 => ∃ (l : Addr) (ns : List Int), x = .ref l ∧ (SqL K H1 l (ns.map V.int) ∨ SqT K H1 l (ns.map V.int)) ∧ ns.length ≤ 4000 ∧ Q (.int ((nub ns).length : Nat)) H1
theorem pe_lenSetG {a : Expr} {ta : TE} {p p2 q pos : Pos} (hg : Gl X "len") (hm : X.mg "len" = none) (hg2 : Gl X "set") (hm2 : X.mg "set" = none) (ha : PE X a ta) (hc : X.calm = true)
    (na : starEach [a] X.env = (false, eval a X.env) :: starEach [] X.env) : PE X (.Call (.Name "len" p) [.Call (.Name "set" p2) [a] [] q] [] pos) (tLenSetG X.K ta) := by
  refine ⟨fun pins s σ H Q I h => ?_⟩
  refine Call_ (ld_blt I hg hm PySem.boot_len ?_)
  refine PyProof.Rows.callWith_builtin1 (PyProof.Rows.args_cons ?_ rfl) rfl rfl
  refine Call_ (ld_blt I hg2 hm2 PyProof.Rows.boot_set ?_)
  refine PyProof.Rows.callWith_type1 (PyProof.Rows.args_cons (thn (ha.run pins s σ H _ I h) fun v s1 ⟨x, H1, I1, r1, q1⟩ => PyProof.Rows.args_nil ?_) na) na rfl
  obtain ⟨l, ns, rfl, hq, hl, q1⟩ := q1
  cases r1
  rcases hq with hq | hq
  · obtain ⟨its, r, pl, hz⟩ := I1.list hq
    have hlen : its.toArray.size = ns.length := by rw [List.size_toArray, ← r.length, List.length_map]
    refine PySem.call_set_list (I1.ok.hd hc) pl.isList (by simpa using RZ.intsAre_vals r) (by rw [hlen]; unfold scanBound; omega) fun h' tk hS hk => ?_
    refine PyProof.Rows.args_nil ?_
    rw [hlen, firstMet_nub] at hS
    obtain ⟨o, es, ep, t, ho, hex, hd, _, _, _, hf, hn⟩ := hS
    have I2 : Inv X pins σ H1 { s1 with heap := h', toks := tk } := I1.kept fun b o e => hk b o (Heap.lt_size e) e
    have nl : (nub ns).length ≤ 4000 := Nat.le_trans (nodup_le _ ns (nub_nodup ns) fun x hx => nub_mem.mp hx) hl
    exact call_len_set ho hex hd hf (by rw [hn] <;> omega) ⟨.int (nub ns).length, H1, I2.tok _, ⟨_, by rw [hn]⟩, q1⟩
  · obtain ⟨its, r, pl, hz⟩ := I1.tuple hq
    have ia := RZ.intsAre_vals r
    refine call_set_tupI ns (I1.ok.hd hc) (show s1.heap.IsTuple l its.toArray from pl) (by simpa using ia) (by unfold scanBound; omega) fun h' tk c hS hc hk => ?_
    refine PyProof.Rows.args_nil ?_
    obtain ⟨o, es, ep, t, ho, hex, hd, _, hnd, hmem, _, hf, hn, _⟩ := hS
    have I2 : Inv X pins σ H1 { s1 with heap := h', toks := tk } := I1.kept fun b o e => hk b o e
    have nl : (nub ns).length ≤ 4000 := Nat.le_trans (nodup_le _ ns (nub_nodup ns) fun x hx => nub_mem.mp hx) hl
    have en : es.size = (nub ns).length := by
      have := nodup_len hnd (nub_nodup ns) fun x => by rw [← hmem x, nub_mem, decide_eq_true_eq]
      rw [← this]; simp
    exact call_len_set ho hex hd hf (by rw [en] <;> omega) ⟨.int (nub ns).length, H1, I2.tok _, ⟨_, by rw [en]⟩, q1⟩
theorem le_lset {e : E} {ee : Expr} {p p2 q : Pos} (hg : Gl X "len") (hm : X.mg "len" = none) (hg2 : Gl X "set") (hm2 : X.mg "set" = none) (hc : X.calm = true) (he : PE X ee (LE (kx X xz) X.mg G W e)) (hs : starEach [ee] X.env = (false, eval ee X.env) :: starEach [] X.env) :
    PE X (.Call (.Name "len" p) [.Call (.Name "set" p2) [ee] [] q] [] pos) (LE (kx X xz) X.mg G W (.bi .lset (.cons e .nil))) := by
  refine PE.imp (pe_lenSetG hg hm hg2 hm2 he hc hs) fun σ H Q ⟨ρ, Fz, Bz, f, re, wf, out⟩ => ?_
  simp only [evE, evEs, R.two, Es.pure, Bool.or_true, if_true, R.bind] at out
  refine LE.sub (k := fun d ρ => R.ok d ρ) re (At.start wf) ?_ ?_ ?_
  · intro x ρ' e; rw [e] at out; exact out
  · intro e; rw [e] at out; exact out
  · intro x ρ1 e1 v H1 Fz1 fρ fd re1 rv s t
    rw [e1] at out
    simp only [biV, Bi.makes, Bool.false_eq_true, if_false, D.viewL] at out
    cases hv : x.view with
    | none => rw [hv] at out; exact out.elim
    | some p =>
      rw [hv] at out
      simp only [Option.bind_some, biD] at out
      have rp := rv.look hv
      cases p with
      | list xs =>
        simp only [lsetD] at out
        cases hi : intsL xs with
        | none => rw [hi] at out; exact out.elim
        | some ns =>
          rw [hi] at out
          simp only [Option.bind_some] at out
          split at out
          · rename_i hk
            simp only [decide_eq_true_eq] at hk
            obtain ⟨a, vs, rfl, h1, h2⟩ := rp.list_inv
            have e := h2.ints hi
            subst e
            exact ⟨a, ns, rfl, .inl h1.seq, hk, out.made (S := Fz1) re1 t (fun h => by simpa [E.pure, Es.pure] using h) (.old (.int _)) fun _ h => h⟩
          · exact out.elim
      | tuple xs =>
        simp only [lsetD] at out
        cases hi : intsL xs with
        | none => rw [hi] at out; exact out.elim
        | some ns =>
          rw [hi] at out
          simp only [Option.bind_some] at out
          split at out
          · rename_i hk
            simp only [decide_eq_true_eq] at hk
            obtain ⟨a, vs, rfl, h1, h2⟩ := rp.tuple_inv
            have e := h2.ints hi
            subst e
            exact ⟨a, ns, rfl, .inr h1.sq, hk, out.made (S := Fz1) re1 t (fun h => by simpa [E.pure, Es.pure] using h) (.old (.int _)) fun _ h => h⟩
          · exact out.elim
      | _ => exact out.elim
theorem le_call (c : CxOk X xz C G W) (hh : C.hot = false) {n : Nat} {fn : Str} {pu : Bool} {as : As} {y : Expr} {ys : List Expr} {p : Pos} {t : FnT} (ht : C.fns[n]? = some t) (hk : t.k ≤ C.k) (hn0 : t.cl = none) (hx : glB C t.name = true) (ha : PA X (y :: ys) (LA (kx X xz) X.mg G W as)) (hs : (y :: ys).all notStar = true) :
    PE X (.Call (.Name t.name p) (y :: ys) [] pos) (LE (kx X xz) X.mg G W (.call n fn pu as)) := by
  obtain ⟨hg, hd, hn⟩ := c.gl hx
  rw [List.all_cons, Bool.and_eq_true] at hs
  obtain ⟨f, fd, hst, bd, F, hl⟩ := c.fns.fn n t ht
  unfold StOk at hst
  rw [hn0] at hst
  obtain ⟨hm, kp⟩ := hst
  rw [c.xcK] at F
  exact PE.imp (pe_callG F c.gd ((c.room hh).mono hk) hg hm kp bd (fun σ => passAt c.tk σ) ha hd (star_ok hs.1) (stars_any hs.2)) fun σ H Q h => call_imp h hl
theorem pe_of {a : Expr} {e : E} (h : PE X a (LE (kx X xz) X.mg G W e)) (hp : plainT a = true) : PE X a (LE (kx X xz) X.mg G W e) ∧ PT X a (LT (kx X xz) X.mg G W e) := ⟨h, lt_val h (plain_ok hp)⟩
theorem pw_of {op : PySem.BoolOp} {vs : List Expr} {t : TT} (h : PT X (.BoolOp op vs pos) t) : PW X (.BoolOp op vs pos) t := ⟨fun wh => h.run⟩
theorem mark_ok {o : CmpOp} {b : Expr} (h : notSet b = true) : behindInMarks o b = false := by
  cases b <;> first | rfl | cases h
theorem chkEs_stars {C : Ck} : ∀ {es : Es} {xs : List Expr}, chkEs C es xs = true → xs.all notStar = true
  | .nil, xs, h => by
    cases xs with
    | nil => rfl
    | cons _ _ => simp [chkEs] at h
  | .cons e r, xs, h => by
    cases xs with
    | nil => simp [chkEs] at h
    | cons x ys =>
      simp only [chkEs, Bool.and_eq_true] at h
      rw [List.all_cons, h.1.1, chkEs_stars h.2]; rfl
theorem chkAs_stars {C : Ck} : ∀ {es : As} {xs : List Expr}, chkAs C es xs = true → xs.all notStar = true
  | .nil, xs, h => by
    cases xs with
    | nil => rfl
    | cons _ _ => simp [chkAs] at h
  | .val e r, xs, h => by
    cases xs with
    | nil => simp [chkAs] at h
    | cons x ys =>
      simp only [chkAs, Bool.and_eq_true] at h
      rw [List.all_cons, h.1.1, chkAs_stars h.2]; rfl
  | .ref e r, xs, h => by
    cases xs with
    | nil => simp [chkAs] at h
    | cons x ys =>
      simp only [chkAs, Bool.and_eq_true] at h
      rw [List.all_cons, h.1.1, chkAs_stars h.2]; rfl
  | .look e r, xs, h => by
    cases xs with
    | nil => simp [chkAs] at h
    | cons x ys =>
      simp only [chkAs, Bool.and_eq_true] at h
      rw [List.all_cons, h.1.1, chkAs_stars h.2]; rfl
theorem chkP_call {C : Ck} {p : P} {x : Expr} (h : chkP C p x = true) : notCall0 x = true := by
  cases p with
  | root i => simp only [chkP] at h; split at h <;> first | rfl | cases h
  | idx p e => simp only [chkP] at h; split at h <;> first | rfl | cases h
  | fld p f => simp only [chkP] at h; split at h <;> first | rfl | cases h
theorem blkB_ok {N : List Str} {sc scope : Scope} {own : List Nat} (h : blkB N sc scope own = true) : ∃ ownP : List (Str × Nat), ownP.map (·.2) = own ∧ BlkOk N sc scope ownP := by
  unfold blkB at h
  simp only [Bool.and_eq_true] at h
  obtain ⟨⟨⟨⟨h1, h2⟩, h3⟩, h4⟩, h5⟩ := h
  refine ⟨own.map fun i => (N.getD i "", i), by rw [List.map_map]; exact List.map_id' own, ?_, ?_, ?_, ?_, ?_⟩
  · simpa using h1
  · intro y hy
    have := List.all_eq_true.mp h2 y hy
    simpa using this
  · intro p hp
    obtain ⟨i, hi, rfl⟩ := List.mem_map.mp hp
    have l : i < N.length := of_decide_eq_true (List.all_eq_true.mp h3 i hi)
    show N[i]? = some (N.getD i "")
    rw [List.getElem?_eq_getElem l, List.getD_eq_getElem?_getD, List.getElem?_eq_getElem l]; rfl
  · intro y hy e
    have := List.all_eq_true.mp h4 y hy
    rw [e] at this
    simpa using this
  · intro y hy e
    have := List.all_eq_true.mp h5 y hy
    have z : (y.2 == NameKind.local || y.2 == NameKind.cell) = true := by rcases e with e | e <;> rw [e] <;> rfl
    rw [z] at this
    have e2 : (own.map fun i => (N.getD i "", i)).map (·.1) = own.map fun i => N.getD i "" := by rw [List.map_map]; rfl
    rw [e2]
    rcases (Bool.or_eq_true _ _).mp this with z | z
    · exact .inl (List.contains_iff_mem.mp (by simpa using z))
    · exact .inr fun w => by rw [List.contains_iff_mem.mpr w] at z; cases z
/-! classes by their names -/
theorem UpOk.names {t : Str} {us : List Str} (u : UpOk X.K X.mg xz.ex t us) (hg : Gl X t) : ∃ cv v, (∀ p, PE X (.Name t p) (tC v)) ∧ (∀ u, RelV v u → u = cv) ∧ Names X t cv ∧
    ∀ n ∈ xz.ex, ∀ a, X.mg n = some (.ref a) → PySem.W.kitOne X.K (.ref a) cv = some (us.contains n) ∧ PySem.W.exmOne X.K (.ref a) cv = some (us.contains n) := by
  obtain ⟨cv, v, h1, h2, h3, hd, h4⟩ := u
  refine ⟨cv, v, fun p => ?_, h1, ⟨hg, hd, ?_⟩, h4⟩
  · rcases h3 with h3 | ⟨h3, h5, h6⟩
    · exact pe_glob hg h3 h2 hd
    · exact pe_bltn hg h3 h5 h2 h6 hd
  · rcases h3 with h3 | ⟨h3, h5, h6⟩
    · exact .inl h3
    · exact .inr ⟨h3, h5, h6⟩
theorem kitAny_of {K : PySem.W.Frag} {t c : Value} {cs : List Value} {a b : Bool} (h1 : PySem.W.kitOne K t c = some a) (h2 : PySem.W.kitAny K t cs = some b) : PySem.W.kitAny K t (c :: cs) = some (a || b) := by
  unfold PySem.W.kitAny
  rw [h1]
  cases a with
  | true => rfl
  | false => exact h2
def tAll (vs : List V) : TA := fun _ H Q => Q vs H
theorem up_mem {tb : Tb} {t : Str} {us : List Str} (h : tb.ups.lookup t = some us) : (t, us) ∈ tb.ups := PySem.mem_of_lookup h
theorem tns_ok (c : CxOk X xz C G W) : ∀ {es : List Expr} {ups : List Str}, tnsB C es = some ups → ∃ vs cvs, PA X es (tAll vs) ∧ vs.length = es.length ∧ (∀ us, Vals vs us → us = cvs) ∧ ∀ n ∈ xz.ex, ∀ a, X.mg n = some (.ref a) → PySem.W.kitAny X.K (.ref a) cvs = some (ups.contains n)
  | [], ups, h => by
    simp only [tnsB, Option.some.injEq] at h
    subst h
    refine ⟨[], [], PA.imp pa_nil fun σ H Q h => h, rfl, fun us r => ?_, fun n hn a ha => rfl⟩
    cases r; rfl
  | e :: es, ups, h => by
    cases e with
    | Name t p =>
      simp only [tnsB] at h
      cases h1 : C.tb.ups.lookup t with
      | none => rw [h1] at h; cases h
      | some us =>
        cases h2 : tnsB C es with
        | none => rw [h1, h2] at h; cases h
        | some vs2 =>
          rw [h1, h2] at h
          simp only at h
          split at h
          · rename_i hb
            cases h
            rw [Bool.and_eq_true] at hb
            obtain ⟨hg, _, _⟩ := c.gl hb.1
            have U := c.tb.ups t us (up_mem h1)
            rw [← c.ex] at U
            obtain ⟨cv, v, pe, rv, _, hk⟩ := U.names hg
            obtain ⟨ws, cvs, pa, len, rvs, hks⟩ := tns_ok c h2
            refine ⟨v :: ws, cv :: cvs, PA.imp (pa_cons (pe p) pa (star_ok rfl)) fun σ H Q h => h, by rw [List.length_cons, List.length_cons, len], fun us r => ?_, fun n hn a ha => ?_⟩
            · cases r with
              | cons r1 r2 => rw [rv _ r1, rvs _ r2]
            · rw [kitAny_of (hk n hn a ha).1 (hks n hn a ha)]
              congr 1
              rw [Bool.eq_iff_iff]
              simp [List.mem_append]
          · cases h
    | _ => simp [tnsB] at h
theorem isxT_ok (c : CxOk X xz C G W) (hh : C.hot = true) {i : Nat} {x : Str} {es : List Expr} {ups : List Str} {k : Nat} {p p2 p3 : Pos} (hb : bltB C "isinstance" = true) (hx : visB C i x = true) (ht : tnsB C es = some ups) (hl : es.length ≤ 1000) :
    PE X (.Call (.Name "isinstance" p) [.Name x p2, .Tuple es k p3] [] pos) (LE (kx X xz) X.mg G W (.isx i ups)) := by
  obtain ⟨hg, _, _, hm⟩ := c.bl hb
  obtain ⟨vs, cvs, pa, len, rvs, hk⟩ := tns_ok c ht
  refine le_isxT (c.pin hh) hg hm (c.vis hx) (PE.imp (pe_tup pa) fun σ H Q h => ?_) rvs hk
  exact ⟨by rw [len, sizeLine_eq]; omega, h⟩
theorem isx1_ok (c : CxOk X xz C G W) (hh : C.hot = true) {i : Nat} {x t : Str} {ups : List Str} {p p2 p3 : Pos} (hb : bltB C "isinstance" = true) (hx : visB C i x = true) (hgt : glB C t = true) (ht : upB C t ups = true) :
    PE X (.Call (.Name "isinstance" p) [.Name x p2, .Name t p3] [] pos) (LE (kx X xz) X.mg G W (.isx i ups)) := by
  obtain ⟨hg, _, _, hm⟩ := c.bl hb
  obtain ⟨hg2, _, _⟩ := c.gl hgt
  obtain ⟨⟨t2, us⟩, hy, e⟩ := List.any_eq_true.mp ht
  rw [Bool.and_eq_true] at e
  have e1 := str_eq e.1
  have e2 : us = ups := by simpa using e.2
  subst e1 e2
  have U := c.tb.ups _ _ hy
  rw [← c.ex] at U
  obtain ⟨cv, v, pe, rv, _, hk⟩ := U.names hg2
  exact le_isx1 (c.pin hh) hg hm (c.vis hx) (pe p3) rv fun n hn a ha => (hk n hn a ha).1
theorem glo_ok (c : CxOk X xz C G W) {x : Str} {d : PyData} (hg : glB C x = true) (h : gloB C x d = true) : PE X (.Name x pos) (LE (kx X xz) X.mg G W (.glo x d)) := by
  obtain ⟨⟨y, e⟩, hy, z⟩ := List.any_eq_true.mp h
  rw [Bool.and_eq_true] at z
  have e1 := str_eq z.1
  have e2 := same_ok z.2
  subst e1 e2
  obtain ⟨hg, hd, hn⟩ := c.gl hg
  obtain ⟨v, u, h1, h2, h3⟩ := c.tb.glb _ _ hy
  exact le_glo (pe_glob hg h1 h2 hd) h3
theorem lm_ok {o o' : CmpOp} {b c : Expr} (h : notSet b = true) (h' : notSet c = true) : lastMarks [o, o'] [b, c] = false := by
  cases b <;> cases c <;> first | rfl | exact absurd h Bool.false_ne_true | exact absurd h' Bool.false_ne_true
theorem le_mt' (c : CxOk X xz C G W) {m : Mt} {e : E} {es : Es} {o y : Expr} {ys : List Expr} {apos cpos : Pos} (he : m.easy = true) (ho : PE X o (LE (kx X xz) X.mg G W e)) (ha : PA X (y :: ys) (LEs (kx X xz) X.mg G W es)) (h0 : notCall0 o = true) (hs : (y :: ys).all notStar = true) (hl : (y :: ys).length < 30) (hline : (apos.endLine == cpos.line) = true) :
    PE X (.Call (.Attribute o (m.nm : Str) apos) (y :: ys) [] cpos) (LE (kx X xz) X.mg G W (.mt m e es)) := by
  have st := hs
  rw [List.all_cons, Bool.and_eq_true] at st
  by_cases ht : m = .tindex
  · subst ht
    exact le_tmt ho ha (base_ok h0) (few_ok hs hl) hline (star_ok st.1) (stars_any st.2)
  refine le_mt c.units ?_ ho ha (base_ok h0) (few_ok hs hl) hline (star_ok st.1) (stars_any st.2)
  cases m <;> first | exact absurd rfl ht | exact .inl ⟨rfl, rfl⟩ | exact .inr (.inl ⟨rfl, rfl⟩) | exact .inr (.inr (.inl ⟨rfl, rfl⟩)) | exact .inr (.inr (.inr ⟨rfl, rfl⟩)) | cases he
end
end DE
end

section
set_option Elab.async false
set_option linter.all false
/-! DE21: the check is enough, for expressions. -/
namespace DE
open PySem PySem.Spec PyProof.Rows L2

mutual
theorem chkE_ok {G : List Fn} {xz : Xs} : ∀ (e : E) {X : Cx} {C : Ck} {W : WX} (c : CxOk X xz C G W) (a : Expr), (chkE C e false a = true → PE X a (LE (kx X xz) X.mg G W e)) ∧ (chkE C e true a = true → PT X a (LT (kx X xz) X.mg G W e))
  | .var i, X, C, W, c, a => by
    have key : ∀ t, chkE C (.var i) t a = true → PE X a (LE (kx X xz) X.mg G W (.var i)) ∧ PT X a (LT (kx X xz) X.mg G W (.var i)) := fun t h => by
      simp only [chkE] at h
      split at h
      · exact pe_of (le_var (c.vis h)) rfl
      · cases h
    exact ⟨fun h => (key _ h).1, fun h => (key _ h).2⟩
  | .mv i, X, C, W, c, a => by
    have key : ∀ t, chkE C (.mv i) t a = true → PE X a (LE (kx X xz) X.mg G W (.mv i)) ∧ PT X a (LT (kx X xz) X.mg G W (.mv i)) := fun t h => by
      simp only [chkE] at h
      split at h
      · exact pe_of (le_mv (c.vis h)) rfl
      · cases h
    exact ⟨fun h => (key _ h).1, fun h => (key _ h).2⟩
  | .cst d, X, C, W, c, a => by
    have key : ∀ t, chkE C (.cst d) t a = true → PE X a (LE (kx X xz) X.mg G W (.cst d)) ∧ PT X a (LT (kx X xz) X.mg G W (.cst d)) := fun t h => by
      simp only [chkE] at h
      split at h
      · exact pe_of (cst_ok h) rfl
      · cases h
    exact ⟨fun h => (key _ h).1, fun h => (key _ h).2⟩
  | .glo x d, X, C, W, c, a => by
    have key : ∀ t, chkE C (.glo x d) t a = true → PE X a (LE (kx X xz) X.mg G W (.glo x d)) ∧ PT X a (LT (kx X xz) X.mg G W (.glo x d)) := fun t h => by
      simp only [chkE] at h
      split at h
      · simp only [Bool.and_eq_true] at h
        have e := str_eq h.1.1
        subst e
        exact pe_of (glo_ok c h.1.2 h.2) rfl
      · cases h
    exact ⟨fun h => (key _ h).1, fun h => (key _ h).2⟩
  | .rd p, X, C, W, c, a => ⟨fun h => by simp only [chkE, Bool.and_eq_true] at h; exact le_rd (chkP_ok p c a h.2), fun h => by
      simp only [chkE, Bool.and_eq_true, Bool.not_true, Bool.false_or] at h
      exact (pe_of (le_rd (chkP_ok p c a h.2)) h.1).2⟩
  | .bp p, X, C, W, c, a => ⟨fun h => by simp only [chkE, Bool.and_eq_true] at h; exact le_bp (chkP_ok p c a h.2), fun h => by
      simp only [chkE, Bool.and_eq_true, Bool.not_true, Bool.false_or] at h
      exact (pe_of (le_bp (chkP_ok p c a h.2)) h.1).2⟩
  | .neg e, X, C, W, c, a => by
    have key : ∀ t, chkE C (.neg e) t a = true → PE X a (LE (kx X xz) X.mg G W (.neg e)) ∧ PT X a (LT (kx X xz) X.mg G W (.neg e)) := fun t h => by
      simp only [chkE] at h
      split at h
      · exact pe_of (le_neg ((chkE_ok e c _).1 h)) rfl
      · cases h
    exact ⟨fun h => (key _ h).1, fun h => (key _ h).2⟩
  | .not e, X, C, W, c, a => by
    refine ⟨fun h => ?_, fun h => ?_⟩
    · simp only [chkE] at h
      split at h
      · exact le_not ((chkE_ok e c _).1 h)
      · cases h
    · simp only [chkE] at h
      split at h
      · exact lt_not ((chkE_ok e c _).2 h)
      · cases h
  | .bin o e f, X, C, W, c, a => by
    have key : ∀ t, chkE C (.bin o e f) t a = true → PE X a (LE (kx X xz) X.mg G W (.bin o e f)) ∧ PT X a (LT (kx X xz) X.mg G W (.bin o e f)) := fun t h => by
      simp only [chkE] at h
      split at h
      · simp only [Bool.and_eq_true, decide_eq_true_eq] at h
        obtain ⟨⟨rfl, h1⟩, h2⟩ := h
        exact pe_of (le_bin ((chkE_ok e c _).1 h1) ((chkE_ok f c _).1 h2)) rfl
      · cases h
    exact ⟨fun h => (key _ h).1, fun h => (key _ h).2⟩
  | .cmp o e f, X, C, W, c, a => by
    have key : ∀ t, chkE C (.cmp o e f) t a = true → PE X a (LE (kx X xz) X.mg G W (.cmp o e f)) ∧ PT X a (LT (kx X xz) X.mg G W (.cmp o e f)) := fun t h => by
      simp only [chkE] at h
      split at h
      · simp only [Bool.and_eq_true, decide_eq_true_eq] at h
        obtain ⟨⟨⟨rfl, h0⟩, h1⟩, h2⟩ := h
        exact ⟨le_cmp c.units ((chkE_ok e c _).1 h1) ((chkE_ok f c _).1 h2) (mark_ok h0), lt_cmp c.units ((chkE_ok e c _).1 h1) ((chkE_ok f c _).1 h2) (mark_ok h0)⟩
      · cases h
    exact ⟨fun h => (key _ h).1, fun h => (key _ h).2⟩
  | .chn o o' e f g, X, C, W, c, a => by
    have key : ∀ t, chkE C (.chn o o' e f g) t a = true → PE X a (LE (kx X xz) X.mg G W (.chn o o' e f g)) ∧ PT X a (LT (kx X xz) X.mg G W (.chn o o' e f g)) := fun t h => by
      simp only [chkE] at h
      split at h
      · simp only [Bool.and_eq_true, decide_eq_true_eq] at h
        obtain ⟨⟨⟨⟨⟨⟨rfl, rfl⟩, h1⟩, h2⟩, h3⟩, h4⟩, h5⟩ := h
        exact ⟨le_chn c.units ((chkE_ok e c _).1 h3) ((chkE_ok f c _).1 h4) ((chkE_ok g c _).1 h5) (lm_ok h1 h2), lt_chn c.units ((chkE_ok e c _).1 h3) ((chkE_ok f c _).1 h4) ((chkE_ok g c _).1 h5) (lm_ok h1 h2)⟩
      · cases h
    exact ⟨fun h => (key _ h).1, fun h => (key _ h).2⟩
  | .and e f, X, C, W, c, a => by
    refine ⟨fun h => ?_, fun h => ?_⟩
    · simp only [chkE] at h
      split at h
      · rw [Bool.and_eq_true] at h
        exact le_and ((chkE_ok e c _).1 h.1) (pe_one ((chkE_ok f c _).1 h.2))
      · rw [Bool.and_eq_true] at h
        exact le_and ((chkE_ok e c _).1 h.1) ((chkE_ok f c _).1 h.2)
      · cases h
    · simp only [chkE] at h
      split at h
      · rw [Bool.and_eq_true] at h
        exact (lw_and ((chkE_ok e c _).2 h.1) (pw_and1 ((chkE_ok f c _).2 h.2))).pt
      · rw [Bool.and_eq_true] at h
        exact (lw_and ((chkE_ok e c _).2 h.1) (pw_of ((chkE_ok f c _).2 h.2))).pt
      · cases h
  | .or e f, X, C, W, c, a => by
    refine ⟨fun h => ?_, fun h => ?_⟩
    · simp only [chkE] at h
      split at h
      · rw [Bool.and_eq_true] at h
        exact le_or ((chkE_ok e c _).1 h.1) (pe_one ((chkE_ok f c _).1 h.2))
      · rw [Bool.and_eq_true] at h
        exact le_or ((chkE_ok e c _).1 h.1) ((chkE_ok f c _).1 h.2)
      · cases h
    · simp only [chkE] at h
      split at h
      · rw [Bool.and_eq_true] at h
        exact (lw_or ((chkE_ok e c _).2 h.1) (pw_or1 ((chkE_ok f c _).2 h.2))).pt
      · rw [Bool.and_eq_true] at h
        exact (lw_or ((chkE_ok e c _).2 h.1) (pw_of ((chkE_ok f c _).2 h.2))).pt
      · cases h
  | .ife g e f, X, C, W, c, a => by
    refine ⟨fun h => ?_, fun h => ?_⟩
    · simp only [chkE] at h
      split at h
      · simp only [Bool.and_eq_true] at h
        exact le_ife ((chkE_ok g c _).2 h.1.1) ((chkE_ok e c _).1 h.1.2) ((chkE_ok f c _).1 h.2)
      · cases h
    · simp only [chkE] at h
      split at h
      · simp only [Bool.and_eq_true] at h
        exact lt_ife ((chkE_ok g c _).2 h.1.1) ((chkE_ok e c _).2 h.1.2) ((chkE_ok f c _).2 h.2)
      · cases h
  | .tup es, X, C, W, c, a => by
    have key : ∀ t, chkE C (.tup es) t a = true → PE X a (LE (kx X xz) X.mg G W (.tup es)) ∧ PT X a (LT (kx X xz) X.mg G W (.tup es)) := fun t h => by
      simp only [chkE] at h
      split at h
      · exact pe_of (le_tup (chkEs_ok es c _ h)) rfl
      · cases h
    exact ⟨fun h => (key _ h).1, fun h => (key _ h).2⟩
  | .lst es, X, C, W, c, a => by
    have key : ∀ t, chkE C (.lst es) t a = true → PE X a (LE (kx X xz) X.mg G W (.lst es)) ∧ PT X a (LT (kx X xz) X.mg G W (.lst es)) := fun t h => by
      simp only [chkE] at h
      split at h
      · exact pe_of (le_lst (chkEs_ok es c _ h)) rfl
      · cases h
    exact ⟨fun h => (key _ h).1, fun h => (key _ h).2⟩
  | .ix e i, X, C, W, c, a => by
    have key : ∀ t, chkE C (.ix e i) t a = true → PE X a (LE (kx X xz) X.mg G W (.ix e i)) ∧ PT X a (LT (kx X xz) X.mg G W (.ix e i)) := fun t h => by
      simp only [chkE] at h
      split at h
      · simp only [Bool.and_eq_true] at h
        exact pe_of (le_ix c.units ((chkE_ok e c _).1 h.1.2) ((chkE_ok i c _).1 h.2) (slice_ok h.1.1)) rfl
      · cases h
    exact ⟨fun h => (key _ h).1, fun h => (key _ h).2⟩
  | .sl e lo hi, X, C, W, c, a => by
    have key : ∀ t, chkE C (.sl e lo hi) t a = true → PE X a (LE (kx X xz) X.mg G W (.sl e lo hi)) ∧ PT X a (LT (kx X xz) X.mg G W (.sl e lo hi)) := fun t h => by
      simp only [chkE] at h
      split at h
      · simp only [Bool.and_eq_true] at h
        exact pe_of (le_sl ((chkE_ok e c _).1 h.1.1) (chkO_ok lo c _ h.1.2) (chkO_ok hi c _ h.2)) rfl
      · cases h
    exact ⟨fun h => (key _ h).1, fun h => (key _ h).2⟩
  | .rev e, X, C, W, c, a => by
    have key : ∀ t, chkE C (.rev e) t a = true → PE X a (LE (kx X xz) X.mg G W (.rev e)) ∧ PT X a (LT (kx X xz) X.mg G W (.rev e)) := fun t h => by
      simp only [chkE] at h
      split at h
      · exact pe_of (le_rev ((chkE_ok e c _).1 h)) rfl
      · cases h
    exact ⟨fun h => (key _ h).1, fun h => (key _ h).2⟩
  | .isx i ups, X, C, W, c, a => by
    have key : ∀ t, chkE C (.isx i ups) t a = true → PE X a (LE (kx X xz) X.mg G W (.isx i ups)) ∧ PT X a (LT (kx X xz) X.mg G W (.isx i ups)) := fun t h => by
      simp only [chkE] at h
      split at h
      · simp only [Bool.and_eq_true] at h
        obtain ⟨⟨⟨⟨⟨h1, h2⟩, h3⟩, h4⟩, h5⟩, h6⟩ := h
        have e := str_eq h2
        subst e
        exact pe_of (isx1_ok c h1 h3 h4 h5 h6) rfl
      · simp only [Bool.and_eq_true, decide_eq_true_eq] at h
        obtain ⟨⟨⟨⟨⟨h1, h2⟩, h3⟩, h4⟩, h5⟩, h6⟩ := h
        have e := str_eq h2
        subst e
        exact pe_of (isxT_ok c h1 h3 h4 (by simpa using h5) h6) rfl
      · cases h
    exact ⟨fun h => (key _ h).1, fun h => (key _ h).2⟩
  | .xf i n, X, C, W, c, a => by
    have key : ∀ t, chkE C (.xf i n) t a = true → PE X a (LE (kx X xz) X.mg G W (.xf i n)) ∧ PT X a (LT (kx X xz) X.mg G W (.xf i n)) := fun t h => by
      simp only [chkE] at h
      split at h
      · simp only [Bool.and_eq_true] at h
        obtain ⟨⟨⟨h1, h2⟩, h3⟩, h4⟩ := h
        have e := str_eq h2
        subst e
        refine pe_of (le_xf (c.pin h1) (c.vis h4) fun k hk a ha => ?_) rfl
        rw [c.ex] at hk
        exact c.tb.fds _ (List.contains_iff_mem.mp h3) k hk a ha
      · cases h
    exact ⟨fun h => (key _ h).1, fun h => (key _ h).2⟩
  | .bi b es, X, C, W, c, a => by
    have key : ∀ t, chkE C (.bi b es) t a = true → PE X a (LE (kx X xz) X.mg G W (.bi b es)) ∧ PT X a (LT (kx X xz) X.mg G W (.bi b es)) := fun t h => by
      cases b with
      | lset =>
        cases es with
        | nil => simp [chkE] at h
        | cons e r => cases r with
          | cons _ _ => simp [chkE] at h
          | nil =>
            unfold chkE at h
            split at h
            · rename_i e1
              cases e1
              simp only [Bool.and_eq_true] at h
              obtain ⟨⟨⟨⟨⟨⟨h0, h1⟩, h2⟩, h3⟩, h4⟩, h5⟩, h6⟩ := h
              have e1 := str_eq h1
              have e2 := str_eq h3
              subst e1 e2
              obtain ⟨g1, _, _, g4⟩ := c.bl h2
              obtain ⟨k1, _, _, k4⟩ := c.bl h4
              exact pe_of (le_lset g1 g4 k1 k4 (c.calm (by simpa using h0)) ((chkE_ok e c _).1 h6) (star_ok h5)) rfl
            · cases h
      | sortedRev =>
        simp only [chkE] at h
        split at h
        · simp only [Bool.and_eq_true] at h
          obtain ⟨⟨⟨h1, h2⟩, h3⟩, h4⟩ := h
          have e1 := str_eq h1
          have e2 := str_eq h2
          subst e1 e2
          obtain ⟨g1, g2, g3, g4⟩ := c.bl h3
          have st := chkEs_stars h4
          have st' := st
          rw [List.all_cons, Bool.and_eq_true] at st'
          exact pe_of (PE.imp (pe_callBK (cb_sortedR c.units) g1 g4 (by decide +kernel) (chkEs_ok es c _ h4) (pk_cons pe_bl pk_nil) g3 g2 (by rw [star_ok st'.1]; rfl) (stars_any st) rfl rfl rfl) fun σ H Q h => LEs.mono (bi_impF rfl h) fun vs H1 q => ⟨rfl, q⟩) rfl
        · cases h
      | _ =>
        simp only [chkE] at h
        split at h
        · simp only [Bool.and_eq_true] at h
          obtain ⟨⟨⟨⟨h1, h0⟩, h2⟩, h3⟩, h4⟩ := h
          have e := str_eq h2
          subst e
          exact pe_of (le_bi c h1 (by simpa using h0) h3 (chkEs_ok es c _ h4) (chkEs_stars h4)) rfl
        · cases h
    exact ⟨fun h => (key _ h).1, fun h => (key _ h).2⟩
  | .isi e ts one, X, C, W, c, a => by
    have key : ∀ t, chkE C (.isi e ts one) t a = true → PE X a (LE (kx X xz) X.mg G W (.isi e ts one)) ∧ PT X a (LT (kx X xz) X.mg G W (.isi e ts one)) := fun t h => by
      simp only [chkE] at h
      split at h
      · simp only [Bool.and_eq_true] at h
        obtain ⟨⟨⟨⟨⟨h1, h2⟩, h3⟩, h4⟩, h5⟩, h6⟩ := h
        have e1 := str_eq h1
        subst e1
        split at h6
        · rw [Bool.and_eq_true] at h6
          have e2 := str_eq h6.1
          subst e2
          obtain ⟨g1, g2, g3, g4⟩ := c.bl h2
          obtain ⟨k1, k2, k3, k4⟩ := c.bl h3
          exact pe_of (le_isi h6.2 g1 g4 k1 k4 k2 k3 ((chkE_ok e c _).1 h4) (star_ok h5)) rfl
        · cases h6
      · cases h
    exact ⟨fun h => (key _ h).1, fun h => (key _ h).2⟩
  | .mt m e es, X, C, W, c, a => by
    have key : ∀ t, chkE C (.mt m e es) t a = true → PE X a (LE (kx X xz) X.mg G W (.mt m e es)) ∧ PT X a (LT (kx X xz) X.mg G W (.mt m e es)) := fun t h => by
      simp only [chkE] at h
      split at h
      · simp only [Bool.and_eq_true, decide_eq_true_eq] at h
        obtain ⟨⟨⟨⟨⟨⟨h1, h2⟩, h3⟩, h4⟩, h5⟩, h6⟩, h7⟩ := h
        have e1 := str_eq h2
        subst e1
        exact pe_of (le_mt' c h1 ((chkE_ok e c _).1 h6) (chkEs_ok es c _ h7) h5 (chkEs_stars h7) h4 h3) rfl
      · cases h
    exact ⟨fun h => (key _ h).1, fun h => (key _ h).2⟩
  | .pm m p es, X, C, W, c, a => by
    have key : ∀ t, chkE C (.pm m p es) t a = true → PE X a (LE (kx X xz) X.mg G W (.pm m p es)) ∧ PT X a (LT (kx X xz) X.mg G W (.pm m p es)) := fun t h => by
      simp only [chkE] at h
      split at h
      · simp only [Bool.and_eq_true] at h
        obtain ⟨⟨⟨⟨⟨h1, h2⟩, h3⟩, h4⟩, h5⟩, h6⟩ := h
        have e1 := str_eq h2
        subst e1
        have st := chkEs_stars h6
        have st' := st
        rw [List.all_cons, Bool.and_eq_true] at st'
        have hp := chkP_ok p c _ h5
        have ha := chkEs_ok es c _ h6
        have hb := fun (nm : Str) (w : Sem Value) => base_ok (name := nm) (w := w) (env := X.env) (chkP_call h5)
        cases m with
        | append => exact pe_of (le_append hp ha (hb _ _) (few_ok st (of_decide_eq_true h4)) h3 (star_ok st'.1) (stars_any st'.2)) rfl
        | extend => exact pe_of (le_extend hp ha (hb _ _) (few_ok st (of_decide_eq_true h4)) h3 (star_ok st'.1) (stars_any st'.2)) rfl
        | popAt => exact pe_of (le_popAt hp ha (hb _ _) (few_ok st (of_decide_eq_true h4)) h3 (star_ok st'.1) (stars_any st'.2)) rfl
        | insert => exact pe_of (le_insert hp ha (hb _ _) (few_ok st (of_decide_eq_true h4)) h3 (star_ok st'.1) (stars_any st'.2)) rfl
        | pop => cases h1
        | clear => cases h1
      · simp only [Bool.and_eq_true] at h
        obtain ⟨⟨h1, h3⟩, h4⟩ := h
        split at h1
        · have e1 := str_eq h1
          subst e1
          exact pe_of (le_pop (chkP_ok p c _ h4) (base_ok (chkP_call h4)) h3) rfl
        · have e1 := str_eq h1
          subst e1
          exact pe_of (le_clear (chkP_ok p c _ h4) (base_ok (chkP_call h4)) h3) rfl
        · cases h1
      · cases h
    exact ⟨fun h => (key _ h).1, fun h => (key _ h).2⟩
  | .call n f pu as, X, C, W, c, a => by
    have key : ∀ t, chkE C (.call n f pu as) t a = true → PE X a (LE (kx X xz) X.mg G W (.call n f pu as)) ∧ PT X a (LT (kx X xz) X.mg G W (.call n f pu as)) := fun t h => by
      simp only [chkE] at h
      split at h
      · simp only [Bool.and_eq_true] at h
        obtain ⟨⟨⟨h0, h1⟩, h2⟩, h3⟩ := h
        have h0 : C.hot = false := by simpa using h0
        split at h1
        · rename_i t ht
          simp only [Bool.and_eq_true, Option.isNone_iff_eq_none] at h1
          have e1 := str_eq h1.1.2
          subst e1
          exact pe_of (le_call c h0 ht (of_decide_eq_true h1.2) h1.1.1 h2 (chkAs_ok as c _ h3) (chkAs_stars h3)) rfl
        · cases h1
      · cases h
    exact ⟨fun h => (key _ h).1, fun h => (key _ h).2⟩
  | .comp e t it o own, X, C, W, c, a => by
    have key : ∀ tt, chkE C (.comp e t it o own) tt a = true → PE X a (LE (kx X xz) X.mg G W (.comp e t it o own)) ∧ PT X a (LT (kx X xz) X.mg G W (.comp e t it o own)) := fun tt h => by
      simp only [chkE] at h
      split at h
      · rename_i x tg iter ifs as scope pos
        simp only [Bool.and_eq_true, decide_eq_true_eq] at h
        obtain ⟨⟨⟨⟨⟨⟨⟨⟨⟨⟨h0, h1⟩, h2⟩, h3⟩, h4⟩, h5⟩, h6⟩, h6b⟩, h7⟩, h8⟩, h9⟩ := h
        have h0 : C.hot = false := by simpa using h0
        subst h1
        obtain ⟨ownP, e1, bo⟩ := blkB_ok h3
        subst e1
        rw [← c.N, ← c.sc] at bo
        have bl := fun (s : Shared) (H : Hp) (A : Addr) (cl : List (Str × Addr)) (fp : List Addr) => c.blk h0 scope bo.uniq s H A cl fp
        refine pe_of (le_comp (c.calm h0) c.nd (chkI_ok it c tg iter h6 h6b) bo (fun s H A cl fp => (bl s H A cl fp).tg (.inl h0) h7) (fun s H A cl fp => ?_) (fun s H A cl fp => (chkE_ok e (bl s H A cl fp) x).1 h9) (set_ok h2) (nodup_of h4) fun i hi => ?_) rfl
        · split at h8
          · split at h8
            · exact pts_nil
            · cases h8
          · rename_i y
            exact chkO1_ok o (bl s H A cl fp) y h8
          · cases h8
        · exact List.contains_iff_mem.mp (List.all_eq_true.mp h5 i hi)
      · cases h
    exact ⟨fun h => (key _ h).1, fun h => (key _ h).2⟩
  | .compP e t it own, X, C, W, c, a => by
    have key : ∀ tt, chkE C (.compP e t it own) tt a = true → PE X a (LE (kx X xz) X.mg G W (.compP e t it own)) ∧ PT X a (LT (kx X xz) X.mg G W (.compP e t it own)) := fun tt h => by
      simp only [chkE] at h
      split at h
      · rename_i x tg iter as scope pos
        simp only [Bool.and_eq_true, decide_eq_true_eq] at h
        obtain ⟨⟨⟨⟨⟨⟨⟨⟨⟨h0, h1⟩, h2⟩, h3⟩, h4⟩, h5⟩, h6⟩, h6b⟩, h7⟩, h9⟩ := h
        have h0 : C.hot = false := by simpa using h0
        subst h1
        obtain ⟨ownP, e1, bo⟩ := blkB_ok h3
        subst e1
        rw [← c.N, ← c.sc] at bo
        have bl := fun (s : Shared) (H : Hp) (A : Addr) (cl : List (Str × Addr)) (fp : List Addr) => c.blk h0 scope bo.uniq s H A cl fp
        exact pe_of (le_compP (c.calm h0) c.nd (chkSr_ok it c tg iter h6) bo (fun s H A cl fp => (bl s H A cl fp).tg (.inl h0) h7) (fun s H A cl fp => (chkE_ok e (bl s H A cl fp) x).1 h9) (set_ok h2) (nodup_of h4) fun i hi => List.contains_iff_mem.mp (List.all_eq_true.mp h5 i hi)) rfl
      · cases h
    exact ⟨fun h => (key _ h).1, fun h => (key _ h).2⟩
  | .pm2 p p' es, X, C, W, c, a => by
    have key : ∀ tt, chkE C (.pm2 p p' es) tt a = true → PE X a (LE (kx X xz) X.mg G W (.pm2 p p' es)) ∧ PT X a (LT (kx X xz) X.mg G W (.pm2 p p' es)) := fun tt h => by
      simp only [chkE] at h
      split at h
      · simp only [Bool.and_eq_true] at h
        obtain ⟨⟨⟨⟨⟨⟨⟨h1, h2⟩, h3⟩, h4⟩, h5⟩, h6⟩, h7⟩, h8⟩ := h
        have e1 := str_eq h1
        have e2 := str_eq h2
        subst e1 e2
        have st := chkEs_stars h8
        have st' := st
        rw [List.all_cons, Bool.and_eq_true] at st'
        exact pe_of (le_pm2 (chkP_ok p c _ h6) (chkP_ok p' c _ h7) (chkEs_ok es c _ h8) (base_ok (chkP_call h6)) (base_ok (chkP_call h7)) (few_ok (by rfl) (by show (1 : Nat) < 30; decide)) (few_ok st (of_decide_eq_true h5)) h3 h4 (star_ok st'.1) (stars_any st'.2)) rfl
      · cases h
    exact ⟨fun h => (key _ h).1, fun h => (key _ h).2⟩
  | .frz e, X, C, W, c, a => ⟨fun h => by simp only [chkE, Bool.and_eq_true] at h; exact le_frz ((chkE_ok e c a).1 h.2), fun h => by
      simp only [chkE, Bool.and_eq_true, Bool.not_true, Bool.false_or] at h
      exact (pe_of (le_frz ((chkE_ok e c a).1 h.2)) h.1).2⟩
  | .lrg e, X, C, W, c, a => by
    have key : ∀ t, chkE C (.lrg e) t a = true → PE X a (LE (kx X xz) X.mg G W (.lrg e)) ∧ PT X a (LT (kx X xz) X.mg G W (.lrg e)) := fun t h => by
      simp only [chkE] at h
      split at h
      · simp only [Bool.and_eq_true] at h
        obtain ⟨⟨⟨⟨⟨⟨h0, h1⟩, h2⟩, h3⟩, h4⟩, h5⟩, h6⟩ := h
        have e1 := str_eq h1
        have e2 := str_eq h3
        subst e1 e2
        obtain ⟨g1, _, _, g4⟩ := c.bl h4
        obtain ⟨k1, _, _, k4⟩ := c.bl h2
        exact pe_of (le_lrg g1 g4 k1 k4 (c.calm (by simpa using h0)) ((chkE_ok e c _).1 h6) (star_ok h5)) rfl
      · cases h
    exact ⟨fun h => (key _ h).1, fun h => (key _ h).2⟩
  | .trg e, X, C, W, c, a => by
    have key : ∀ t, chkE C (.trg e) t a = true → PE X a (LE (kx X xz) X.mg G W (.trg e)) ∧ PT X a (LT (kx X xz) X.mg G W (.trg e)) := fun t h => by
      simp only [chkE] at h
      split at h
      · simp only [Bool.and_eq_true] at h
        obtain ⟨⟨⟨⟨⟨⟨h0, h1⟩, h2⟩, h3⟩, h4⟩, h5⟩, h6⟩ := h
        have e1 := str_eq h1
        have e2 := str_eq h3
        subst e1 e2
        obtain ⟨g1, _, _, g4⟩ := c.bl h4
        obtain ⟨k1, _, _, k4⟩ := c.bl h2
        exact pe_of (le_trg g1 g4 k1 k4 (c.calm (by simpa using h0)) ((chkE_ok e c _).1 h6) (star_ok h5)) rfl
      · cases h
    exact ⟨fun h => (key _ h).1, fun h => (key _ h).2⟩
  | .dcK ks es, X, C, W, c, a => by
    have key : ∀ t, chkE C (.dcK ks es) t a = true → PE X a (LE (kx X xz) X.mg G W (.dcK ks es)) ∧ PT X a (LT (kx X xz) X.mg G W (.dcK ks es)) := fun t h => by
      simp only [chkE] at h
      split at h
      · simp only [Bool.and_eq_true, decide_eq_true_eq] at h
        exact pe_of (le_dcK h.1.1.1 h.1.1.2 h.1.2 (chkPs_ok es c _ h.2)) rfl
      · cases h
    exact ⟨fun h => (key _ h).1, fun h => (key _ h).2⟩
  | .dtE, X, C, W, c, a => by
    have key : ∀ t, chkE C .dtE t a = true → PE X a (LE (kx X xz) X.mg G W .dtE) ∧ PT X a (LT (kx X xz) X.mg G W .dtE) := fun t h => by
      simp only [chkE] at h
      split at h
      · exact pe_of le_dtE rfl
      · cases h
    exact ⟨fun h => (key _ h).1, fun h => (key _ h).2⟩
  | .dt1 k v, X, C, W, c, a => by
    have key : ∀ t, chkE C (.dt1 k v) t a = true → PE X a (LE (kx X xz) X.mg G W (.dt1 k v)) ∧ PT X a (LT (kx X xz) X.mg G W (.dt1 k v)) := fun t h => by
      simp only [chkE] at h
      split at h
      · simp only [Bool.and_eq_true] at h
        exact pe_of (le_dt1 c.units ((chkE_ok k c _).1 h.1) ((chkE_ok v c _).1 h.2)) rfl
      · cases h
    exact ⟨fun h => (key _ h).1, fun h => (key _ h).2⟩
  | .dget p k, X, C, W, c, a => by
    have key : ∀ t, chkE C (.dget p k) t a = true → PE X a (LE (kx X xz) X.mg G W (.dget p k)) ∧ PT X a (LT (kx X xz) X.mg G W (.dget p k)) := fun t h => by
      simp only [chkE] at h
      split at h
      · simp only [Bool.and_eq_true] at h
        exact pe_of (le_dget c.units (chkP_ok p c _ h.1.2) ((chkE_ok k c _).1 h.2) (slice_ok h.1.1)) rfl
      · cases h
    exact ⟨fun h => (key _ h).1, fun h => (key _ h).2⟩
  | .rdx p k, X, C, W, c, a => by
    have key : ∀ t, chkE C (.rdx p k) t a = true → PE X a (LE (kx X xz) X.mg G W (.rdx p k)) ∧ PT X a (LT (kx X xz) X.mg G W (.rdx p k)) := fun t h => by
      simp only [chkE] at h
      split at h
      · simp only [Bool.and_eq_true] at h
        exact pe_of (le_rdx c.units (chkP_ok p c _ h.1.2) ((chkE_ok k c _).1 h.2) (slice_ok h.1.1)) rfl
      · cases h
    exact ⟨fun h => (key _ h).1, fun h => (key _ h).2⟩
  | .tupP p, X, C, W, c, a => by
    have key : ∀ t, chkE C (.tupP p) t a = true → PE X a (LE (kx X xz) X.mg G W (.tupP p)) ∧ PT X a (LT (kx X xz) X.mg G W (.tupP p)) := fun t h => by
      simp only [chkE] at h
      split at h
      · simp only [Bool.and_eq_true] at h
        obtain ⟨⟨⟨h1, h2⟩, h3⟩, h4⟩ := h
        have e1 := str_eq h1
        subst e1
        obtain ⟨g1, _, _, g4⟩ := c.bl h2
        exact pe_of (le_tupP g1 g4 (chkP_ok p c _ h4) (star_ok h3)) rfl
      · cases h
    exact ⟨fun h => (key _ h).1, fun h => (key _ h).2⟩
  | .fldE e f, X, C, W, c, a => by
    have key : ∀ t, chkE C (.fldE e f) t a = true → PE X a (LE (kx X xz) X.mg G W (.fldE e f)) ∧ PT X a (LT (kx X xz) X.mg G W (.fldE e f)) := fun t h => by
      simp only [chkE] at h
      split at h
      · simp only [Bool.and_eq_true] at h
        obtain ⟨⟨⟨h1, h2⟩, h3⟩, h4⟩ := h
        have e1 := str_eq h1
        subst e1
        exact pe_of (le_fldE (c.clsAt h2) ((chkE_ok e c _).1 h4) (base_ok h3)) rfl
      · cases h
    exact ⟨fun h => (key _ h).1, fun h => (key _ h).2⟩
  | .inD neg k p, X, C, W, c, a => by
    have key : ∀ t, chkE C (.inD neg k p) t a = true → PE X a (LE (kx X xz) X.mg G W (.inD neg k p)) ∧ PT X a (LT (kx X xz) X.mg G W (.inD neg k p)) := fun t h => by
      simp only [chkE] at h
      split at h
      · simp only [Bool.and_eq_true, decide_eq_true_eq] at h
        obtain ⟨⟨⟨e, h0⟩, h1⟩, h2⟩ := h
        cases neg with
        | true =>
          simp only [if_true] at e
          subst e
          exact ⟨le_notInD c.units ((chkE_ok k c _).1 h1) (chkP_ok p c _ h2) (mark_ok h0), lt_notInD c.units ((chkE_ok k c _).1 h1) (chkP_ok p c _ h2) (mark_ok h0)⟩
        | false =>
          simp only [Bool.false_eq_true, if_false] at e
          subst e
          exact ⟨le_inD c.units ((chkE_ok k c _).1 h1) (chkP_ok p c _ h2) (mark_ok h0), lt_inD c.units ((chkE_ok k c _).1 h1) (chkP_ok p c _ h2) (mark_ok h0)⟩
      · cases h
    exact ⟨fun h => (key _ h).1, fun h => (key _ h).2⟩
  | .get2 p k d, X, C, W, c, a => by
    have key : ∀ t, chkE C (.get2 p k d) t a = true → PE X a (LE (kx X xz) X.mg G W (.get2 p k d)) ∧ PT X a (LT (kx X xz) X.mg G W (.get2 p k d)) := fun t h => by
      simp only [chkE] at h
      split at h
      · rename_i o nm apos x y pos
        simp only [Bool.and_eq_true] at h
        obtain ⟨⟨⟨⟨⟨⟨h1, h2⟩, h3⟩, h4⟩, h5⟩, h6⟩, h7⟩ := h
        have e1 := str_eq h1
        subst e1
        have st : [x, y].all notStar = true := by simp [h3, h4]
        exact pe_of (PE.imp (pe_bmD PySem.F.plainAttrs_dict PySem.F.slot_dict_get PySem.F.type_dict_get (mt_get2 c.units) (chkP_ok p c _ h5) (pa_cons ((chkE_ok k c _).1 h6) (pa_cons ((chkE_ok d c _).1 h7) pa_nil (star_ok h4)) (star_ok h3)) (base_ok (chkP_call h5)) (few_ok st (by simp)) h2 (star_ok h3) (stars_any (by simp [h4]))) fun σ H Q h => get2_imp h) rfl
      · cases h
    exact ⟨fun h => (key _ h).1, fun h => (key _ h).2⟩
  | .srtD p, X, C, W, c, a => by
    have key : ∀ t, chkE C (.srtD p) t a = true → PE X a (LE (kx X xz) X.mg G W (.srtD p)) ∧ PT X a (LT (kx X xz) X.mg G W (.srtD p)) := fun t h => by
      simp only [chkE] at h
      split at h
      · simp only [Bool.and_eq_true] at h
        obtain ⟨⟨⟨⟨h0, h1⟩, h2⟩, h3⟩, h4⟩ := h
        obtain ⟨g1, _, _, g4⟩ := c.bl h2
        exact pe_of (le_srtD (c.calm (by simpa using h0)) c.units g1 g4 (str_eq h1) (chkP_ok p c _ h4) (star_ok h3)) rfl
      · cases h
    exact ⟨fun h => (key _ h).1, fun h => (key _ h).2⟩
  | .new n cn as, X, C, W, c, a => by
    have key : ∀ t, chkE C (.new n cn as) t a = true → PE X a (LE (kx X xz) X.mg G W (.new n cn as)) ∧ PT X a (LT (kx X xz) X.mg G W (.new n cn as)) := fun t h => by
      simp only [chkE] at h
      split at h
      · rename_i x p args pos
        simp only [Bool.and_eq_true] at h
        obtain ⟨⟨⟨⟨⟨h0, h1⟩, h2⟩, h3⟩, h4⟩, h5⟩ := h
        have h0 : C.hot = false := by simpa using h0
        have e := str_eq h1
        subst e
        split at h3
        · rename_i t ht
          simp only [Bool.and_eq_true, decide_eq_true_eq] at h3
          refine pe_of (le_new' c h0 ht h3.2 (by simpa using h3.1.1) (str_eq h3.1.2) h2 h4 ?_) rfl
          cases args with
          | nil => cases as with
            | nil => exact .inl ⟨rfl, rfl⟩
            | _ => simp at h5
          | cons y ys =>
            have h6 : chkAs C as (y :: ys) = true := by cases as <;> simpa using h5
            exact .inr ⟨y, ys, rfl, chkAs_ok as c _ h6, chkAs_stars h6⟩
        · cases h3
      · cases h
    exact ⟨fun h => (key _ h).1, fun h => (key _ h).2⟩
  | .mcall n cn m p as, X, C, W, c, a => by
    have key : ∀ t, chkE C (.mcall n cn m p as) t a = true → PE X a (LE (kx X xz) X.mg G W (.mcall n cn m p as)) ∧ PT X a (LT (kx X xz) X.mg G W (.mcall n cn m p as)) := fun t h => by
      simp only [chkE] at h
      split at h
      · rename_i o nm apos args pos
        simp only [Bool.and_eq_true, decide_eq_true_eq] at h
        obtain ⟨⟨⟨⟨⟨⟨⟨⟨h0, h1⟩, h2⟩, h3⟩, h4⟩, h5⟩, h6⟩, h7⟩, h8⟩ := h
        have h0 : C.hot = false := by simpa using h0
        have e := str_eq h1
        subst e
        split at h4
        · rename_i t ht
          simp only [Bool.and_eq_true, decide_eq_true_eq] at h4
          refine pe_of (le_mcall' c h0 ht h4.2 (by simpa using h4.1.1) (str_eq h4.1.2) (by simpa using h2) h3 (chkP_ok p c _ h7) (chkP_call h7) h6 h5 ?_) rfl
          cases args with
          | nil => cases as with
            | nil => exact .inl ⟨rfl, rfl⟩
            | _ => simp at h8
          | cons y ys =>
            have h9 : chkAs C as (y :: ys) = true := by cases as <;> simpa using h8
            exact .inr ⟨y, ys, rfl, chkAs_ok as c _ h9, chkAs_stars h9⟩
        · cases h4
      · cases h
    exact ⟨fun h => (key _ h).1, fun h => (key _ h).2⟩
theorem chkPs_ok {G : List Fn} {xz : Xs} : ∀ (es : Es) {X : Cx} {C : Ck} {W : WX} (c : CxOk X xz C G W) (xs : List Expr), chkEs C es xs = true → PPsE X (kx X xz) X.mg G W es xs
  | .nil, X, C, W, c, xs, h => by
    cases xs with
    | nil => exact .nil
    | cons _ _ => simp [chkEs] at h
  | .cons e r, X, C, W, c, xs, h => by
    cases xs with
    | nil => simp [chkEs] at h
    | cons x ys =>
      simp only [chkEs, Bool.and_eq_true] at h
      exact .cons ((chkE_ok e c x).1 h.1.2) (chkPs_ok r c ys h.2)
theorem chkEs_ok {G : List Fn} {xz : Xs} : ∀ (es : Es) {X : Cx} {C : Ck} {W : WX} (c : CxOk X xz C G W) (xs : List Expr), chkEs C es xs = true → PA X xs (LEs (kx X xz) X.mg G W es)
  | .nil, X, C, W, c, xs, h => by
    cases xs with
    | nil => exact le_pnil
    | cons _ _ => simp [chkEs] at h
  | .cons e r, X, C, W, c, xs, h => by
    cases xs with
    | nil => simp [chkEs] at h
    | cons x ys =>
      simp only [chkEs, Bool.and_eq_true] at h
      exact le_pcons ((chkE_ok e c x).1 h.1.2) (chkEs_ok r c ys h.2) (star_ok h.1.1)
theorem chkO_ok {G : List Fn} {xz : Xs} : ∀ (o : O) {X : Cx} {C : Ck} {W : WX} (c : CxOk X xz C G W) (x : Option Expr), chkO C o x = true → PO X x (LO (kx X xz) X.mg G W o)
  | .none, X, C, W, c, x, h => by
    cases x with
    | none => exact lo_none
    | some _ => simp [chkO] at h
  | .some e, X, C, W, c, x, h => by
    cases x with
    | none => simp [chkO] at h
    | some x => exact lo_some ((chkE_ok e c x).1 (by simpa [chkO] using h))
theorem chkO1_ok {G : List Fn} {xz : Xs} : ∀ (o : O) {X : Cx} {C : Ck} {W : WX} (c : CxOk X xz C G W) (y : Expr), chkO1 C o y = true → PTs X [y] (LC (kx X xz) X.mg G W o)
  | .none, X, C, W, c, y, h => by simp [chkO1] at h
  | .some e, X, C, W, c, y, h => pts_one ((chkE_ok e c y).2 (by simpa [chkO1] using h))
theorem chkAs_ok {G : List Fn} {xz : Xs} : ∀ (es : As) {X : Cx} {C : Ck} {W : WX} (c : CxOk X xz C G W) (xs : List Expr), chkAs C es xs = true → PA X xs (LA (kx X xz) X.mg G W es)
  | .nil, X, C, W, c, xs, h => by
    cases xs with
    | nil => exact la_nil
    | cons _ _ => simp [chkAs] at h
  | .val e r, X, C, W, c, xs, h => by
    cases xs with
    | nil => simp [chkAs] at h
    | cons x ys =>
      simp only [chkAs, Bool.and_eq_true] at h
      exact la_val ((chkE_ok e c x).1 h.1.2) (chkAs_ok r c ys h.2) (star_ok h.1.1)
  | .ref e r, X, C, W, c, xs, h => by
    cases xs with
    | nil => simp [chkAs] at h
    | cons x ys =>
      simp only [chkAs, Bool.and_eq_true] at h
      exact la_ref (chkP_ok e c x h.1.2) (chkAs_ok r c ys h.2) (star_ok h.1.1)
  | .look e r, X, C, W, c, xs, h => by
    cases xs with
    | nil => simp [chkAs] at h
    | cons x ys =>
      simp only [chkAs, Bool.and_eq_true] at h
      exact la_look (chkP_ok e c x h.1.2) (chkAs_ok r c ys h.2) (star_ok h.1.1)
theorem chkP_ok {G : List Fn} {xz : Xs} : ∀ (p : P) {X : Cx} {C : Ck} {W : WX} (c : CxOk X xz C G W) (a : Expr), chkP C p a = true → PE X a (LP (kx X xz) X.mg G W p)
  | .root i, X, C, W, c, a, h => by
    simp only [chkP] at h
    split at h
    · exact lp_root (c.vis h)
    · cases h
  | .idx p e, X, C, W, c, a, h => by
    simp only [chkP] at h
    split at h
    · simp only [Bool.and_eq_true] at h
      exact lp_idx c.units (chkP_ok p c _ h.1.2) ((chkE_ok e c _).1 h.2) (slice_ok h.1.1)
    · cases h
  | .fld p f, X, C, W, c, a, h => by
    simp only [chkP] at h
    split at h
    · simp only [Bool.and_eq_true] at h
      have e := str_eq h.1.1
      subst e
      exact lp_fld (c.clsAt h.1.2) (chkP_ok p c _ h.2) (base_ok (chkP_call h.2))
    · cases h
theorem chkI_ok {G : List Fn} {xz : Xs} : ∀ (it : I) {X : Cx} {C : Ck} {W : WX} (c : CxOk X xz C G W) (tg a : Expr), chkI C it a = true → tgOk it tg = true → PI X tg a (LI (kx X xz) X.mg G W it)
  | .val e, X, C, W, c, tg, a, h, _ => li_val ((chkE_ok e c a).1 (by simpa [chkI] using h))
  | .ref p, X, C, W, c, tg, a, h, _ => li_ref (chkP_ok p c a (by simpa [chkI] using h))
  | .rng1 e, X, C, W, c, tg, a, h, _ => by
    simp only [chkI] at h
    split at h
    · simp only [Bool.and_eq_true] at h
      obtain ⟨⟨⟨h1, h2⟩, h3⟩, h4⟩ := h
      have e1 := str_eq h1
      subst e1
      obtain ⟨g1, _, _, g4⟩ := c.bl h2
      exact li_rng1 g1 g4 ((chkE_ok e c _).1 h4) (star_ok h3)
    · cases h
  | .rng2 e f, X, C, W, c, tg, a, h, _ => by
    simp only [chkI] at h
    split at h
    · simp only [Bool.and_eq_true] at h
      obtain ⟨⟨⟨⟨⟨h1, h2⟩, h3⟩, h4⟩, h5⟩, h6⟩ := h
      have e1 := str_eq h1
      subst e1
      obtain ⟨g1, _, _, g4⟩ := c.bl h2
      have s2 := star_ok (env := X.env) (es := []) h4
      exact li_rng2 g1 g4 ((chkE_ok e c _).1 h5) ((chkE_ok f c _).1 h6) ((star_ok h3).trans (by rw [s2]; rfl)) s2
    · cases h
  | .rrng1 e, X, C, W, c, tg, a, h, _ => by
    simp only [chkI] at h
    split at h
    · simp only [Bool.and_eq_true] at h
      obtain ⟨⟨⟨⟨⟨h1, h2⟩, h3⟩, h4⟩, h5⟩, h6⟩ := h
      have e1 := str_eq h1
      have e2 := str_eq h3
      subst e1 e2
      obtain ⟨g1, _, _, g4⟩ := c.bl h4
      obtain ⟨k1, _, _, k4⟩ := c.bl h2
      exact li_rrng1 g1 g4 k1 k4 ((chkE_ok e c _).1 h6) (star_ok h5) (star_ok rfl)
    · cases h
  | .zip e f, X, C, W, c, tg, a, h, ht => by
    cases tg with
    | Tuple elts kk tpos =>
      simp only [chkI] at h
      split at h
      · simp only [Bool.and_eq_true] at h
        obtain ⟨⟨⟨⟨⟨h1, h2⟩, h3⟩, h4⟩, h5⟩, h6⟩ := h
        have e1 := str_eq h1
        subst e1
        obtain ⟨g1, _, _, g4⟩ := c.bl h2
        exact li_zip g1 g4 ((chkE_ok e c _).1 h5) ((chkE_ok f c _).1 h6) (star_ok h3) (star_ok h4) (stars_any (by simp [h4]))
      · cases h
    | _ => simp [tgOk] at ht
  | .enum e, X, C, W, c, tg, a, h, ht => by
    cases tg with
    | Tuple elts kk tpos =>
      simp only [chkI] at h
      split at h
      · simp only [Bool.and_eq_true] at h
        obtain ⟨⟨⟨h1, h2⟩, h3⟩, h4⟩ := h
        have e1 := str_eq h1
        subst e1
        obtain ⟨g1, _, _, g4⟩ := c.bl h2
        exact li_enum g1 g4 ((chkE_ok e c _).1 h4) (star_ok h3)
      · cases h
    | _ => simp [tgOk] at ht
  | .revd e, X, C, W, c, tg, a, h, _ => by
    simp only [chkI] at h
    split at h
    · simp only [Bool.and_eq_true] at h
      obtain ⟨⟨⟨h1, h2⟩, h3⟩, h4⟩ := h
      have e1 := str_eq h1
      subst e1
      obtain ⟨g1, _, _, g4⟩ := c.bl h2
      exact li_revd g1 g4 ((chkE_ok e c _).1 h4) (star_ok h3)
    · cases h
  | .keys p, X, C, W, c, tg, a, h, _ => li_keys (chkP_ok p c a (by simpa [chkI] using h))
  | .bor p, X, C, W, c, tg, a, h, _ => by simp [chkI] at h
theorem chkSr_ok {G : List Fn} {xz : Xs} : ∀ (it : I) {X : Cx} {C : Ck} {W : WX} (c : CxOk X xz C G W) (tg a : Expr), chkSr C it a = true → PI X tg a (LSr (kx X xz) X.mg G W it)
  | .val e, X, C, W, c, tg, a, h => ls_val (li_val ((chkE_ok e c a).1 (by simpa [chkSr] using h)))
  | .bor p, X, C, W, c, tg, a, h => ls_bor (chkP_ok p c a (by simpa [chkSr] using h))
  | .ref p, X, C, W, c, tg, a, h => by simp [chkSr] at h
  | .rng1 _, X, C, W, c, tg, a, h => by simp [chkSr] at h
  | .rng2 _ _, X, C, W, c, tg, a, h => by simp [chkSr] at h
  | .rrng1 _, X, C, W, c, tg, a, h => by simp [chkSr] at h
  | .zip _ _, X, C, W, c, tg, a, h => by simp [chkSr] at h
  | .enum _, X, C, W, c, tg, a, h => by simp [chkSr] at h
  | .revd _, X, C, W, c, tg, a, h => by simp [chkSr] at h
  | .keys _, X, C, W, c, tg, a, h => by simp [chkSr] at h
end
end DE
end

section
set_option Elab.async false
set_option linter.all false
/-! DE22: statements and defs that fit. -/
namespace DE
open PySem PySem.Spec PyProof.Rows L2

def notSDC : Expr → Bool
  | .SetComp _ _ _ _ => false
  | .DictComp _ _ _ _ _ => false
  | _ => true
def foldB : Expr → Bool
  | .Tuple vs _ _ => vs.all (foldedForSure 8)
  | _ => false
theorem folded_ok {es vs : List Expr} {k k2 : Nat} {p p2 : Pos} {env : PySem.Env} (h : vs.all (foldedForSure 8) = true) : swappedStores [.Tuple es k p] (.Tuple vs k2 p2) env = pure none := by
  unfold swappedStores
  simp only [h, if_true]
  repeat (first | rfl | split)
def parB (C : Ck) (i j : Nat) (x y : Str) (px py : Pos) (a b : Expr) : Bool :=
  C.N[i]? == some x && C.N[j]? == some y && !(i == j) && C.sc.names.lookup x == some .local && C.sc.names.lookup y == some .local && px.line == py.line && !(x == y) && notStar a && notStar b && !([a, b].all (foldedForSure 8)) && !([a, b].all (constantsAlone 8))
def rsB (C : Ck) (x : Str) (fs : List Str) : Bool := C.tb.rs.any fun y => y.1 == x && y.2 == fs
def asB (C : Ck) (x : Option Nat) (nm : Option Str) : Bool := match x, nm with
  | none, none => true
  | some i, some n => C.N[i]? == some n && C.sc.names.lookup n == some .local
  | _, _ => false
def textB : Es → List Expr → Bool
  | .cons (.cst (.str m)) .nil, [.Constant (.str m') _ _] => m == m'
  | _, _ => false
mutual
def chkS (C : Ck) : S → Stmt → Bool
  | .asg t e, st => (match st with
    | .Assign [tg] v pos => (!C.hot || (match t with | .nm _ => true | _ => false)) && tgB C t tg && chkE C e false v && (match tg with
      | .Name x p => notSDC v && (if swapB C.sc v x p then (match e, t with | .comp _ _ _ _ _, .nm _ => C.sc.names.lookup x == some .local | .compP _ _ _ _, .nm _ => C.sc.names.lookup x == some .local | _, _ => false) else true)
      | .Tuple _ _ _ => notTup v || foldB v
      | _ => false)
    | _ => false)
  | .set p i e, st => (match st with | .Assign [.Subscript o x _] v _ => notSlice x && chkP C p o && chkE C i false x && chkE C e false v | _ => false)
  | .setf p f e, st => (match st with | .Assign [.Attribute o g _] v _ => g == f && C.tb.ifs.contains f && chkP C p o && chkE C e false v | _ => false)
  | .dset p k e, st => (match st with | .Assign [.Subscript o x _] v _ => notSlice x && chkP C p o && chkE C k false x && chkE C e false v | _ => false)
  | .par is es, st => (match is, st with
    | [i, j], .Assign [.Tuple [.Name x px, .Name y py] _ _] (.Tuple [a, b] _ _) _ => !C.hot && parB C i j x y px py a b && chkEs C es [a, b]
    | _, _ => false)
  | .ex e, st => (match st with | .Expr v _ => notLC v && chkE C e false v | _ => false)
  | .ret e, st => (match st with | .Return (some v) _ => chkE C e false v | _ => false)
  | .retN, st => (match st with | .Return none _ => true | _ => false)
  | .ifs c a b, st => (match st with | .If x y z _ => chkE C c true x && chkSs C a y && chkSs C b z | _ => false)
  | .fors t it b, st => (match st with | .For tg iter y [] _ => !C.hot && notSet iter && tgB C t tg && chkI C it iter && tgOk it tg && chkSs C b y | _ => false)
  | .forB t p b, st => (match st with | .For tg iter y [] _ => !C.hot && notSet iter && tgB C t tg && chkP C p iter && chkSs C b y | _ => false)
  | .whl c b, st => (match st with | .While x y [] _ => chkE C c true x && chkSs C b y | _ => false)
  | .rse x fs es, st => (match st with
    | .Raise (some (.Call (.Name y _) (a :: as) [] _)) none _ => !C.hot && x == y && glB C x && rsB C x fs && (if fs.isEmpty then textB es (a :: as) else decide (2 ≤ C.k) && chkEs C es (a :: as))
    | _ => false)
  | .tri b x cn ups s, st => (match st with
    | .Try body [.ExceptHandler (some (.Name c _)) nm (b0 :: suite) _] [] [] _ => !C.hot && cn == c && glB C c && upB C c ups && asB C x nm && chkSs C b body && chkSs { C with hot := true } s (b0 :: suite)
    | _ => false)
  | _, _ => false
def chkSs (C : Ck) : Ss → List Stmt → Bool
  | .nil, l => l.isEmpty
  | .opq, _ => true
  | .cons s r, l => (match s with
    | .freeze _ => chkSs C r l
    | .kill _ => chkSs C r l
    | _ => (match l with | st :: l' => chkS C s st && chkSs C r l' | [] => false))
end

section
variable {X : Cx} {xz : Xs} {C : Ck} {G : List Fn} {W : WX} {pos : Pos}
theorem swapped2 {env : PySem.Env} {x y : Str} {px py pt pt2 : Pos} {k k2 : Nat} {a b : Expr} (hb : env.blockKind = .function) (hx : env.kindOf x = some .local) (hy : env.kindOf y = some .local) (hl : (px.line == py.line) = true) (hxy : (x == y) = false)
    (sa : notStar a = true) (sb : notStar b = true) (h1 : [a, b].all (foldedForSure 8) = false) (h2 : [a, b].all (constantsAlone 8) = false) : swappedStores [.Tuple [.Name x px, .Name y py] k pt] (.Tuple [a, b] k2 pt2) env = pure (some [x, y]) := by
  have hl' : py.line = px.line := by rw [beq_iff_eq] at hl; exact hl.symm
  have hyx : (y == x) = false := by
    rw [beq_eq_false_iff_ne] at hxy ⊢
    exact fun e => hxy e.symm
  have e0 : [y].eraseDups = [y] := by rw [List.eraseDups_cons]; rfl
  have e3 : [x, y].eraseDups = [x, y] := by
    rw [List.eraseDups_cons]
    simp [List.filter, hyx, e0]
  have lp : ∀ (x : Str) (p : Pos), (PySem.Expr.Name x p).pos = p := fun _ _ => rfl
  have f1 : ¬ ((∃ q ∈ [a, b], foldedForSure 8 q = false) → False) := fun z => by
    rw [List.all_eq_false] at h1
    obtain ⟨q, hq, hf⟩ := h1
    exact z ⟨q, hq, by simpa using hf⟩
  have nm : ([PySem.Expr.Name x px, PySem.Expr.Name y py].filterMap (fun
    | .Name id pos => if env.kindOf id == some .local && pos.line == px.line then some id else none
    | _ => none)) = [x, y] := by
    simp [List.filterMap_cons, hx, hy, hl']
  unfold swappedStores
  simp only [hb, lp, List.head?_cons, Option.map_some, Option.getD_some]
  rw [if_neg (by simp), if_neg ?st]
  case st =>
    simp only [List.any_cons, List.any_nil, Bool.or_false, Bool.or_eq_true, not_or]
    constructor
    · cases a <;> first | (intro z; cases z; done) | cases sa
    · cases b <;> first | (intro z; cases z; done) | cases sb
  refine Eq.trans (b := (if ([x, y].length != 2 || [x, y].eraseDups.length != [x, y].length) = true then pure none else if ([a, b].all (foldedForSure 8)) = true then pure none else if ([a, b].all (constantsAlone 8)) = true then (do unsupported "assign.tuple-of-constant-expressions:order-of-the-stores"; pure (some [x, y])) else pure (some [x, y]))) ?_ ?_
  · have nm' := nm
    revert nm'
    generalize ([PySem.Expr.Name x px, PySem.Expr.Name y py].filterMap (fun
    | .Name id pos => if env.kindOf id == some .local && pos.line == px.line then some id else none
    | _ => none)) = l
    intro e
    subst e
    rfl
  · rw [if_neg (by simp [e3]), if_neg (by rw [h1]; decide), if_neg (by rw [h2]; decide)]
theorem CxOk.bk (c : CxOk X xz C G W) (hk : X.env.scope.kind = .function) : X.env.blockKind = .function := by unfold PySem.Env.blockKind; rw [hk]; rfl
/-- a def's own context -/
structure Bk (X : Cx) : Prop where
  kind : X.env.scope.kind = .function
  stk : X.stack = X.env :: X.outer
  frm : X.env.frame = some X.env.locals
theorem PSs.pre {l : List Stmt} {t : TS} {P : Prop} (h : P → PSs X l t) : PSs X l (fun D σ H => P ∧ t D σ H) := ⟨fun pins s σ H D I z => (h z.1).run pins s σ H D I z.2⟩
theorem CxOk.toTry {W' : WX} (c : CxOk X xz C G W) (hh : C.hot = false) (pn : List (Addr × Obj)) (xe : Value → Shared → Prop) (tk : Takes (X.tr pn xe) W') : CxOk (X.tr pn xe) xz C G W' where
  N := c.N
  sc := c.sc
  nd := c.nd
  calm := c.calm
  gd := c.gd
  room := c.room
  un := c.un
  tk := tk
  ex := c.ex
  cl := c.cl
  nil := c.nil
  fns := c.fns
  tb := c.tb
  fnc := c.fnc
  pin := fun z => by rw [hh] at z; cases z
theorem CxOk.toSuite (c : CxOk X xz C G W) (hh : C.hot = false) (a : Addr) (pn : List (Addr × Obj)) (l : List (Addr × Addr × Option Addr)) (hl : PinOk (X.suite a pn) ⟨xz.ex, l, xz.cl⟩) : CxOk (X.suite a pn) ⟨xz.ex, l, xz.cl⟩ { C with hot := true } G WnS where
  N := c.N
  sc := c.sc
  nd := c.nd
  calm := fun z => nomatch z
  gd := c.gd
  room := fun z => nomatch z
  un := c.un
  tk := fun u s' x => by
    obtain ⟨_, _, _, _, _, _, _, _, _, _, _, _, _, _, _, _, w⟩ := x
    exact w.elim
  ex := c.ex
  cl := c.cl
  nil := fun z => nomatch z
  fns := c.fns
  tb := c.tb
  fnc := c.fnc
  pin := fun _ => hl

theorem hot_or {t : T} (h : (!C.hot || (match t with | .nm _ => true | _ => false)) = true) : C.hot = false ∨ ∃ i, t = .nm i := by
  rw [Bool.or_eq_true] at h
  rcases h with h | h
  · exact .inl (by simpa using h)
  · cases t with
    | nm i => exact .inr ⟨i, rfl⟩
    | tp _ => cases h
mutual
theorem chkS_ok {G : List Fn} : ∀ (s : S) {X : Cx} {xz : Xs} {C : Ck} {W : WX} (c : CxOk X xz C G W) (bk : Bk X) (hp : PassesOwn (model X.prog X.w) X.A X.env X.xe) (st : Stmt), chkS C s st = true → PS X st (LS (kx X xz) X.mg G W s)
  | .asg t e, X, xz, C, W, c, bk, hp, st, h => by
    simp only [chkS] at h
    split at h
    · rename_i tg v pos
      simp only [Bool.and_eq_true] at h
      obtain ⟨⟨⟨h0, h1⟩, h2⟩, h3⟩ := h
      have he := (chkE_ok e c v).1 h2
      split at h3
      · rename_i x p
        rw [Bool.and_eq_true] at h3
        have sw := fun line => swap_ok (X := X) (v := v) (t := x) (p := p) (line := line) bk.kind (by cases v <;> first | rfl | cases h3.1)
        rw [c.sc] at sw
        cases t with
        | tp is => simp [tgB] at h1
        | nm i =>
          have hl : locB C i x = true := by simpa [tgB] using h1
          by_cases hs : swapB C.sc v x p = true
          · have h4 := h3.2
            rw [if_pos hs] at h4
            cases e with
            | comp elt t' it o own =>
              have hx : C.sc.names.lookup x = some .local := by simpa using h4
              simp only [chkE] at h2
              split at h2
              · rename_i x' tg iter ifs as scope pos'
                simp only [Bool.and_eq_true, decide_eq_true_eq] at h2
                obtain ⟨⟨⟨⟨⟨⟨⟨⟨⟨⟨k0, k1⟩, k2⟩, k3⟩, k4⟩, k5⟩, k6⟩, k6b⟩, k7⟩, k8⟩, k9⟩ := h2
                have k0 : C.hot = false := by simpa using k0
                subst k1
                obtain ⟨ownP, e1, bo⟩ := blkB_ok k3
                subst e1
                rw [← c.N, ← c.sc] at bo
                have bl := fun (s : Shared) (H : Hp) (A : Addr) (cl : List (Str × Addr)) (fp : List Addr) => c.blk k0 scope bo.uniq s H A cl fp
                unfold locB at hl
                rw [Bool.and_eq_true] at hl
                refine PS.imp (ps_setLc (wi := LI (kx X xz) X.mg G W it) (g := TGt X.K t') (tt := LC (kx X xz) X.mg G Wn o) (te := LE (kx X xz) X.mg G Wn elt) (c.calm k0) c.nd (by rw [c.N]; simpa using hl.1) (by rw [c.sc]; exact hx) ((sw _).trans (by rw [hs])) (chkI_ok it c tg iter k6 k6b) bo (fun s H A cl fp => (bl s H A cl fp).tg (.inl k0) k7) (fun s H A cl fp => ?_) (fun s H A cl fp => (chkE_ok elt (bl s H A cl fp) x').1 k9) (set_ok k2)) fun D σ H q => ?_
                · split at k8
                  · split at k8
                    · exact pts_nil
                    · cases k8
                  · rename_i y
                    exact chkO1_ok o (bl s H A cl fp) y k8
                  · cases k8
                · exact comp_imp (nodup_of k4) (fun i hi => List.contains_iff_mem.mp (List.all_eq_true.mp k5 i hi)) (asg_imp q)
              · cases h2
            | compP elt t' it own =>
              have hx : C.sc.names.lookup x = some .local := by simpa using h4
              simp only [chkE] at h2
              split at h2
              · rename_i x' tg iter as scope pos'
                simp only [Bool.and_eq_true, decide_eq_true_eq] at h2
                obtain ⟨⟨⟨⟨⟨⟨⟨⟨⟨k0, k1⟩, k2⟩, k3⟩, k4⟩, k5⟩, k6⟩, k6b⟩, k7⟩, k9⟩ := h2
                have k0 : C.hot = false := by simpa using k0
                subst k1
                obtain ⟨ownP, e1, bo⟩ := blkB_ok k3
                subst e1
                rw [← c.N, ← c.sc] at bo
                have bl := fun (s : Shared) (H : Hp) (A : Addr) (cl : List (Str × Addr)) (fp : List Addr) => c.blk k0 scope bo.uniq s H A cl fp
                unfold locB at hl
                rw [Bool.and_eq_true] at hl
                refine PS.imp (ps_setLc (wi := LSr (kx X xz) X.mg G W it) (g := TGt X.K t') (tt := tYes) (te := LE (kx X xz) X.mg G Wn elt) (c.calm k0) c.nd (by rw [c.N]; simpa using hl.1) (by rw [c.sc]; exact hx) ((sw _).trans (by rw [hs])) (chkSr_ok it c tg iter k6) bo (fun s H A cl fp => (bl s H A cl fp).tg (.inl k0) k7) (fun s H A cl fp => pts_nil) (fun s H A cl fp => (chkE_ok elt (bl s H A cl fp) x').1 k9) (set_ok k2)) fun D σ H q => ?_
                exact compP_imp (nodup_of k4) (fun i hi => List.contains_iff_mem.mp (List.all_eq_true.mp k5 i hi)) (asg_imp q)
              · cases h2
            | _ => simp at h4
          · refine PS.imp (ps_set c.nd ?a1 ?a2 he ((sw pos.line).trans (by simp [hs])) ?a3) fun D σ H q => asg_imp q
            all_goals
              unfold locB at hl
              rw [Bool.and_eq_true] at hl
            case a1 => rw [c.N]; simpa using hl.1
            all_goals
              have hl2 := hl.2
              rw [← c.sc] at hl2
              cases hz : X.env.scope.names.lookup x with
              | none => rw [hz] at hl2; cases hl2
              | some kd =>
                rw [hz] at hl2
                cases kd <;> first | exact Or.inl hz | exact Or.inr hz | exact Or.inr rfl | exact Or.inl (c.fnc x (List.contains_iff_mem.mp hl2)) | cases hl2
      · rename_i es k p
        refine PS.imp (ps_asg he (c.tg (hot_or h0) h1) ?_ ?_) fun D σ H q => asg_imp q
        · show swapsWith v (some (.Tuple es k p)) pos.line X.env = pure false
          cases v <;> rfl
        · show swappedStores [.Tuple es k p] v X.env = pure none
          cases v with
          | Tuple vs k2 p2 => exact folded_ok (by simpa [notTup, foldB] using h3)
          | _ => rfl
      · cases h3
    · cases h
  | .set p i e, X, xz, C, W, c, bk, hp, st, h => by
    simp only [chkS] at h
    split at h
    · rename_i o x p2 v pos
      simp only [Bool.and_eq_true] at h
      obtain ⟨⟨⟨h1, h2⟩, h3⟩, h4⟩ := h
      refine PS.imp (ps_asg ((chkE_ok e c v).1 h4) (pg_sub (chkP_ok p c o h2) ((chkE_ok i c x).1 h3) (PSet.or set_list (set_dct c.units)) ?_) ?_ rfl rfl) fun D σ H q => set_imp q
      · intro u
        cases x <;> first | rfl | cases h1
      · show swapsWith v (some (.Subscript o x p2)) pos.line X.env = pure false
        cases v <;> rfl
    · cases h
  | .dset p i e, X, xz, C, W, c, bk, hp, st, h => by
    simp only [chkS] at h
    split at h
    · rename_i o x p2 v pos
      simp only [Bool.and_eq_true] at h
      obtain ⟨⟨⟨h1, h2⟩, h3⟩, h4⟩ := h
      refine PS.imp (ps_asg ((chkE_ok e c v).1 h4) (pg_sub (chkP_ok p c o h2) ((chkE_ok i c x).1 h3) (set_dtt c.units) ?_) ?_ rfl rfl) fun D σ H q => dset_imp q
      · intro u
        cases x <;> first | rfl | cases h1
      · show swapsWith v (some (.Subscript o x p2)) pos.line X.env = pure false
        cases v <;> rfl
    · cases h
  | .setf p f e, X, xz, C, W, c, bk, hp, st, h => by
    simp only [chkS] at h
    split at h
    · rename_i o g p2 v pos
      simp only [Bool.and_eq_true] at h
      obtain ⟨⟨⟨h1, h2⟩, h3⟩, h4⟩ := h
      have e1 := str_eq h1
      subst e1
      refine PS.imp (ps_fld (chkP_ok p c _ h3) ((chkE_ok e c _).1 h4) ?_) fun D σ H q => setf_imp (c.clsAt h2) q
      show swapsWith v (some (.Attribute o g p2)) pos.line X.env = pure false
      cases v <;> rfl
    · cases h
  | .set2 _ _ _ _ _, X, xz, C, W, c, bk, hp, st, h => by simp [chkS] at h
  | .par is es, X, xz, C, W, c, bk, hp, st, h => by
    simp only [chkS] at h
    split at h
    · rename_i i j x px y py kt pt a b k2 pt2 pos
      simp only [Bool.and_eq_true] at h
      have hb := h.1.2
      have h0 : C.hot = false := by simpa using h.1.1
      unfold parB at hb
      simp only [Bool.and_eq_true, Bool.not_eq_true'] at hb
      obtain ⟨⟨⟨⟨⟨⟨⟨⟨⟨⟨b1, b2⟩, b3⟩, b4⟩, b5⟩, b6⟩, b7⟩, b8⟩, b9⟩, b10⟩, b11⟩ := hb
      have hij : i ≠ j := by simpa using b3
      have lx : X.env.scope.names.lookup x = some .local := by rw [c.sc]; simpa using b4
      have ly : X.env.scope.names.lookup y = some .local := by rw [c.sc]; simpa using b5
      exact PS.imp (ps_par (c.calm h0) c.nd (by rw [c.N]; simpa using b1) (by rw [c.N]; simpa using b2) hij lx ly (chkEs_ok es c _ h.2) (swapped2 (c.bk bk.kind) lx ly b6 b7 b8 b9 b10 b11) rfl) fun D σ H q => par2_imp hij q
    · cases h
  | .ex e, X, xz, C, W, c, bk, hp, st, h => by
    simp only [chkS] at h
    split at h
    · rw [Bool.and_eq_true] at h
      exact PS.imp (ps_expr ((chkE_ok e c _).1 h.2) (lc_ok h.1)) fun D σ H q => ex_imp q
    · cases h
  | .ret e, X, xz, C, W, c, bk, hp, st, h => by
    simp only [chkS] at h
    split at h
    · exact PS.imp (ps_ret ((chkE_ok e c _).1 h)) fun D σ H q => ret_imp q
    · cases h
  | .retN, X, xz, C, W, c, bk, hp, st, h => by
    simp only [chkS] at h
    split at h
    · exact PS.imp ps_retN fun D σ H q => retN_imp q
    · cases h
  | .ifs g a b, X, xz, C, W, c, bk, hp, st, h => by
    simp only [chkS] at h
    split at h
    · simp only [Bool.and_eq_true] at h
      exact PS.imp (ps_if ((chkE_ok g c _).2 h.1.1) (chkSs_ok a c bk hp _ h.1.2) (chkSs_ok b c bk hp _ h.2)) fun D σ H q => ifs_imp q
    · cases h
  | .fors t it b, X, xz, C, W, c, bk, hp, st, h => by
    simp only [chkS] at h
    split at h
    · simp only [Bool.and_eq_true] at h
      have h0 : C.hot = false := by simpa using h.1.1.1.1.1
      exact PS.imp (ps_for hp (c.calm h0) (chkI_ok it c _ _ h.1.1.2 h.1.2) (c.tg (.inl h0) h.1.1.1.2) (chkSs_ok b c bk hp _ h.2) (set_ok h.1.1.1.1.2)) fun D σ H q => fors_imp q
    · cases h
  | .forB t p b, X, xz, C, W, c, bk, hp, st, h => by
    simp only [chkS] at h
    split at h
    · simp only [Bool.and_eq_true] at h
      have h0 : C.hot = false := by simpa using h.1.1.1.1
      exact PS.imp (ps_for hp (c.calm h0) (li_borB (chkP_ok p c _ h.1.2)) (c.tg (.inl h0) h.1.1.2) (chkSs_ok b c bk hp _ h.2) (set_ok h.1.1.1.2)) fun D σ H q => forB_imp q
    · cases h
  | .whl g b, X, xz, C, W, c, bk, hp, st, h => by
    simp only [chkS] at h
    split at h
    · rw [Bool.and_eq_true] at h
      exact PS.imp (ps_while hp ((chkE_ok g c _).2 h.1) (chkSs_ok b c bk hp _ h.2)) fun D σ H q => whl_imp q
    · cases h
  | .freeze _, X, xz, C, W, c, bk, hp, st, h => by simp [chkS] at h
  | .kill _, X, xz, C, W, c, bk, hp, st, h => by simp [chkS] at h
  | .rse x fs es, X, xz, C, W, c, bk, hp, st, h => by
    simp only [chkS] at h
    split at h
    · rename_i y p a as p2 p3
      simp only [Bool.and_eq_true] at h
      obtain ⟨⟨⟨⟨h1, h2⟩, h3⟩, h4⟩, h5⟩ := h
      have h1 : C.hot = false := by simpa using h1
      have e := str_eq h2
      subst e
      obtain ⟨hg, hd, _⟩ := c.gl h3
      obtain ⟨⟨x', fs'⟩, hm, z⟩ := List.any_eq_true.mp h4
      rw [Bool.and_eq_true] at z
      have e1 : x' = x := str_eq z.1
      have e2 : fs' = fs := by simpa using z.2
      subst e1 e2
      obtain ⟨hx, hr⟩ := c.tb.rs _ _ hm
      rw [← c.ex] at hx
      cases hf : fs'.isEmpty with
      | true =>
        rw [hf, if_pos rfl] at hr h5
        have e0 : fs' = [] := List.isEmpty_iff.mp hf
        subst e0
        obtain ⟨cc, g1, g2, g3, g4, g5⟩ := hr
        unfold textB at h5
        split at h5
        · rename_i m _ m' _ _ ee
          cases ee
          have e3 := str_eq h5
          subst e3
          exact ps_rse0 (c.calm h1) c.tk hx g2 g1 g3 g4 g5 hg hd
        · cases h5
      | false =>
        rw [hf, if_neg (by decide)] at hr h5
        obtain ⟨⟨cc, fI, fd, ps, g1, g2, g3, g4, g5, g6, g7⟩, sm⟩ := hr
        rw [Bool.and_eq_true] at h5
        have st := chkEs_stars h5.2
        rw [List.all_cons, Bool.and_eq_true] at st
        exact ps_rse1 (c.calm h1) c.tk hx hf sm g2 g3 g4 g5 g6 ((c.room h1).mono (of_decide_eq_true h5.1)) g7 hg g1 hd (chkEs_ok es c _ h5.2) (star_ok st.1) (stars_any st.2)
    · cases h
  | .tri b x cn ups s, X, xz, C, W, c, bk, hp, st, h => by
    simp only [chkS] at h
    split at h
    · rename_i body cc np nm b0 suite p p2
      simp only [Bool.and_eq_true] at h
      obtain ⟨⟨⟨⟨⟨⟨h1, h2⟩, h3⟩, h4⟩, h5⟩, h6⟩, h7⟩ := h
      have h1 : C.hot = false := by simpa using h1
      have e := str_eq h2
      subst e
      obtain ⟨hg, _, _⟩ := c.gl h3
      obtain ⟨⟨t2, us⟩, hy, e⟩ := List.any_eq_true.mp h4
      rw [Bool.and_eq_true] at e
      have e1 := str_eq e.1
      have e2 : us = ups := by simpa using e.2
      subst e1 e2
      have U := c.tb.ups _ _ hy
      rw [← c.ex] at U
      obtain ⟨cv, v, _, _, hn, hk⟩ := U.names hg
      have hx := fun n hn a ha => (hk n hn a ha).2
      have hl := c.nil h1
      have nilP : ∀ (a : Addr) (pn : List (Addr × Obj)), PinOk (X.suite a pn) ⟨xz.ex, xz.l, xz.cl⟩ := fun a pn a' c' d' hm => by
        have hm' : (a', c', d') ∈ xz.l := hm
        rw [hl] at hm'
        cases hm'
      unfold asB at h5
      split at h5
      · exact PS.imp (ps_try_only (tb := fun W' => LSs (kx X xz) X.mg G W' b) (ts := fun _ _ _ => LSs (kx X xz) X.mg G WnS s) (Wout := W) bk.stk bk.frm hn c.tk (fun W' pn xe tk' hp' => chkSs_ok b (c.toTry h1 pn xe tk') ⟨bk.kind, bk.stk, bk.frm⟩ hp' _ h6)
          (fun a oe cls d pn hz hf => chkSs_ok s (c.toSuite h1 a ((a, oe) :: pn) xz.l (nilP _ _)) ⟨bk.kind, bk.stk, bk.frm⟩ PassesOwn.never _ h7)) fun D σ H q => tri_only_imp hx q
      · rename_i i n
        rw [Bool.and_eq_true] at h5
        refine PS.imp (ps_try_as (tb := fun W' => LSs (kx X xz) X.mg G W' b) (ts := fun a cls d D σ H => (∃ n c, n ∈ xz.ex ∧ X.mg n = some (.ref c) ∧ cls = .ref c) ∧ LSs ((kx X xz).at a cls d) X.mg G WnS s D σ H) (Wout := W) bk.stk bk.frm c.nd (by rw [c.N]; simpa using h5.1) (by unfold PySem.Env.kindOf; rw [c.sc]; simpa using h5.2) hn c.tk
          (fun W' pn xe tk' hp' => chkSs_ok b (c.toTry h1 pn xe tk') ⟨bk.kind, bk.stk, bk.frm⟩ hp' _ h6) (fun a oe cls d pn hz hf => PSs.pre fun ⟨n, cl, hm1, hm2, hm3⟩ => ?_)) fun D σ H q => tri_as_imp hx q
        subst hm3
        refine chkSs_ok s (c.toSuite h1 a ((a, oe) :: pn) ((a, cl, d) :: xz.l) fun a' c' d' hm => ?_) ⟨bk.kind, bk.stk, bk.frm⟩ PassesOwn.never _ h7
        have hm' : (a', c', d') ∈ (a, cl, d) :: xz.l := hm
        rw [hl] at hm'
        rcases List.mem_cons.mp hm' with e | e
        · cases e
          rw [c.ex] at hm1
          exact ⟨c.tb.exq n hm1 _ hm2, oe, List.mem_cons_self, hz, hf⟩
        · cases e
      · cases h5
    · cases h
theorem chkSs_ok {G : List Fn} : ∀ (s : Ss) {X : Cx} {xz : Xs} {C : Ck} {W : WX} (c : CxOk X xz C G W) (bk : Bk X) (hp : PassesOwn (model X.prog X.w) X.A X.env X.xe) (l : List Stmt), chkSs C s l = true → PSs X l (LSs (kx X xz) X.mg G W s)
  | .nil, X, xz, C, W, c, bk, hp, l, h => by
    cases l with
    | nil => exact PSs.imp pss_nil fun D σ H q => nil_impS q
    | cons _ _ => simp [chkSs] at h
  | .opq, X, xz, C, W, c, bk, hp, l, h => ⟨fun _ _ _ _ _ _ z => by
    obtain ⟨ρ, Fz, Bz, f, re, wf, out⟩ := z
    simp only [exSs] at out
    exact out.elim⟩
  | .cons s r, X, xz, C, W, c, bk, hp, l, h => by
    simp only [chkSs] at h
    split at h
    · exact PSs.imp (chkSs_ok r c bk hp l h) fun D σ H q => freeze_imp q
    · exact PSs.imp (chkSs_ok r c bk hp l h) fun D σ H q => kill_imp q
    · cases l with
      | nil => cases h
      | cons st l' =>
        simp only [Bool.and_eq_true] at h
        exact PSs.imp (pss_cons (chkS_ok s c bk hp st h.1) (chkSs_ok r c bk hp l' h.2)) fun D σ H q => cons_impS q
end
end
end DE
end

section
set_option Elab.async false
set_option linter.all false
/-! DE23: defs that fit; a law's end. -/
namespace DE
open PySem PySem.Spec PyProof.Rows L2

def nodupS : List Str → Bool
  | [] => true
  | a :: l => !(l.contains a) && nodupS l
theorem nodupS_ok : ∀ {l : List Str}, nodupS l = true → l.Nodup
  | [], _ => .nil
  | a :: l, h => by
    simp only [nodupS, Bool.and_eq_true, Bool.not_eq_true'] at h
    refine List.nodup_cons.mpr ⟨fun z => ?_, nodupS_ok h.2⟩
    rw [List.contains_iff_mem.mpr z] at h
    cases h.1
def scB (N ps : List Str) (sc : Scope) : Bool :=
  sc.kind == .function && !sc.isCoroutine && !sc.isGenerator && nodupS N && N.take ps.length == ps && ps.all (fun x => sc.names.lookup x == some .local || sc.names.lookup x == some .cell) && sc.names.all (fun y => !(y.2 == .free))
theorem scB_ok {N ps : List Str} {sc : Scope} (h : scB N ps sc = true) : FnScope N ps sc := by
  unfold scB at h
  simp only [Bool.and_eq_true, Bool.not_eq_true'] at h
  obtain ⟨⟨⟨⟨⟨⟨h1, h2⟩, h3⟩, h4⟩, h5⟩, h6⟩, h7⟩ := h
  refine ⟨by simpa using h1, h2, h3, nodupS_ok h4, by simpa using h5, fun x hx => ?_, fun y hy e => ?_⟩
  · have := List.all_eq_true.mp h6 x hx
    simpa using this
  · have := List.all_eq_true.mp h7 y hy
    rw [e] at this
    cases this
/-- a def's check -/
def chkFn (tb : Tb) (fns : List FnT) (k : Nat) (N ps : List Str) (st : Stmt) (ir : FnIR) : Bool :=
  scB N ps (defScope st) && decide (ir.n = N.length) && decide (ir.io.length = ps.length) && ir.ioOk && chkSs ⟨N, defScope st, N, fns, k, tb, false⟩ ir.body (defBody st)
/-- a def that stands: where, what it promises -/
def FnE (P : Program) (w : World) (K : PySem.W.Frag) (mg : Str → Option Value) (base : Heap) (ex : XC) (t : FnT) (F : Fn) : Prop :=
  ∃ f fd, StOk K mg t f ∧ Binds K fd t.ps [] ∧ FnG P w K mg base (L2.CX P w) t.k f fd t.ps (spF (kf P w K mg ex) mg t.ps.length F) ∧ ∀ ds, F ds ≠ .no → ds.length = t.ps.length
section
variable {P : Program} {w : World} {K : PySem.W.Frag} {mg : Str → Option Value} {base : Heap} {ex : XC}
theorem FnsOk.nil : FnsOk P w K mg base ex [] [] := ⟨fun n t h => by simp at h⟩
theorem FnsOk.cons {G : List Fn} {fns : List FnT} {t : FnT} {F : Fn} (h : FnE P w K mg base ex t F) (r : FnsOk P w K mg base ex G fns) : FnsOk P w K mg base ex (F :: G) (t :: fns) := ⟨fun n t' e => by
  cases n with
  | zero =>
    simp only [List.getElem?_cons_zero, Option.some.injEq] at e
    subst e
    exact h
  | succ n => exact r.fn n t' (by simpa using e)⟩
theorem runF_len {G : List Fn} {ir : FnIR} {ds : List D} (h : runF G ir ds ≠ .no) : ds.length = ir.io.length := by
  unfold runF at h
  split at h
  · rename_i z; exact z.1
  · exact absurd rfl h
/-- THE RULE: a def that fits its text keeps its run's promise -/
theorem fnG_fit {G : List Fn} {fns : List FnT} {tb : Tb} {k : Nat} {N ps : List Str} {x qual : Str} {st : Stmt} {ir : FnIR} {f : Addr} {fd : FuncData} {kws : List (Str × V)} (F : FunD K x qual (defArgs st) (defBody st) (defScope st) [] kws f fd)
    (hc : chkFn tb fns k N ps st ir = true) (hf : FnsOk P w K mg base tb.xc G fns) (ht : TbOk P w K mg base tb) : FnG P w K mg base (L2.CX P w) (k + 1) f fd ps (spF (kf P w K mg tb.xc) mg ps.length (runF G ir)) := by
  unfold chkFn at hc
  simp only [Bool.and_eq_true, decide_eq_true_eq] at hc
  obtain ⟨⟨⟨⟨h1, h2⟩, h3⟩, h4⟩, h5⟩ := hc
  have S := scB_ok h1
  refine fnG_of F S h2 h3 h4 fun cdv A outer s H E gd hr => ?_
  have c : CxOk (cxOf (L2.CX P w) P w K mg base N qual (defScope st) f cdv A outer s H E) ⟨tb.exs, [], tb.cls⟩ ⟨N, defScope st, N, fns, k, tb, false⟩ G (fun cls d _ H => E cls d H) :=
    { N := rfl, sc := rfl, nd := S.nd, calm := fun _ => rfl, gd := gd, room := fun _ => hr, un := by have h : (A.deeper (envOfC qual (defScope st) s.heap.objs.size f cdv)).units + 16 * k + 200 < cLine := hr.un; show (A.deeper (envOfC qual (defScope st) s.heap.objs.size f cdv)).units + 65 < cLine; omega, tk := takes_of rfl rfl rfl rfl, ex := rfl, cl := rfl, nil := fun _ => rfl, fns := hf, tb := ht, fnc := fun _ _ => rfl, pin := fun z => nomatch z }
  exact chkSs_ok ir.body c ⟨S.kind, rfl, rfl⟩ (passes_of rfl) _ h5
theorem fnE_fit {G : List Fn} {fns : List FnT} {tb : Tb} {k : Nat} {N ps : List Str} {x qual : Str} {st : Stmt} {ir : FnIR} {f : Addr} {fd : FuncData} {kws : List (Str × V)} (F : FunD K x qual (defArgs st) (defBody st) (defScope st) [] kws f fd)
    (hm : mg x = some (.ref f)) (hc : chkFn tb fns k N ps st ir = true) (hf : FnsOk P w K mg base tb.xc G fns) (ht : TbOk P w K mg base tb)
    (bd : ∀ (kV doc pm : Value) (an : Option Addr) (cdv ct : Value) (us : List Value), us.length = ps.length → bindArgs (PySem.W.fnOf x qual (defArgs st) (defBody st) (defScope st) .none kV doc pm an cdv ct) ⟨us, []⟩ = pure (ps.zip us)) :
    FnE P w K mg base tb.xc ⟨x, ps, k + 1, none⟩ (runF G ir) := by
  refine ⟨f, fd, ⟨hm, F.kp⟩, F.bindsN bd, fnG_fit F hc hf ht, fun ds h => ?_⟩
  have e := runF_len h
  unfold chkFn at hc
  simp only [Bool.and_eq_true, decide_eq_true_eq] at hc
  rw [e, hc.1.1.2]
/-- a method that fits -/
theorem fnM_fit {G : List Fn} {fns : List FnT} {tb : Tb} {k : Nat} {N ps : List Str} {x C qual : Str} {st : Stmt} {ir : FnIR} {f c : Addr} {fd : FuncData} {kws : List (Str × V)} (F : FunD K x qual (defArgs st) (defBody st) (defScope st) [] kws f fd)
    (hm : mg C = some (.ref c)) (hs : (x = ("__init__" : Str) ∧ L2.Mk K c f) ∨ (x ≠ ("__init__" : Str) ∧ Meth K c x f)) (hc : chkFn tb fns k N ps st ir = true) (hf : FnsOk P w K mg base tb.xc G fns) (ht : TbOk P w K mg base tb)
    (bd : ∀ (kV doc pm : Value) (an : Option Addr) (cdv ct : Value) (us : List Value), us.length = ps.length → bindArgs (PySem.W.fnOf x qual (defArgs st) (defBody st) (defScope st) .none kV doc pm an cdv ct) ⟨us, []⟩ = pure (ps.zip us)) :
    FnE P w K mg base tb.xc ⟨x, ps, k + 1, some C⟩ (runF G ir) := by
  refine ⟨f, fd, ⟨c, hm, hs⟩, F.bindsN bd, fnG_fit F hc hf ht, fun ds h => ?_⟩
  have e := runF_len h
  unfold chkFn at hc
  simp only [Bool.and_eq_true, decide_eq_true_eq] at hc
  rw [e, hc.1.1.2]
/-- a def that never runs, in the table's place of a recursion's end -/
theorem fnE_zero {ex : XC} {ps : List Str} {x qual : Str} {st : Stmt} {f : Addr} {fd : FuncData} {kws : List (Str × V)} (F : FunD K x qual (defArgs st) (defBody st) (defScope st) [] kws f fd)
    (hm : mg x = some (.ref f))
    (bd : ∀ (kV doc pm : Value) (an : Option Addr) (cdv ct : Value) (us : List Value), us.length = ps.length → bindArgs (PySem.W.fnOf x qual (defArgs st) (defBody st) (defScope st) .none kV doc pm an cdv ct) ⟨us, []⟩ = pure (ps.zip us)) :
    FnE P w K mg base ex ⟨x, ps, 0, none⟩ (fun _ => .no) := by
  refine ⟨f, fd, ⟨hm, F.kp⟩, F.bindsN bd, ⟨fun vs H Q E h => h.1, fun A outer s H args us vs Q E gd hr e0 hb r hsp => ?_⟩, fun ds h => absurd rfl h⟩
  obtain ⟨_, ds, Fz, Bz, fa, rv, nt, wf, out⟩ := hsp
  exact out.elim
end

/-! the __init__ of an exception -/
def inScB (ps : List Str) (sc : Scope) : Bool := scB ps ps sc && ps.all fun x => sc.names.lookup x == some .local && !(x == ("__debug__" : Str)) && !(x == ("__classdict__" : Str))
section
variable {P : Program} {w : World} {K : PySem.W.Frag} {mg : Str → Option Value} {base : Heap}
/-- what the base must say -/
structure LeOk (K : PySem.W.Frag) (mg : Str → Option Value) : Prop where
  rd : ∃ le, mg "LineError" = some (.ref le) ∧ PySem.W.readsIn K le (.type "type") = true ∧ PySem.W.findCls K (.ref le) (.type "type") "__init__" = some (.val (.builtin "ValueError.__init__"))
theorem rs1_fit1 {x f q n : Str} {st : Stmt} {c fI : Addr} {fd : FuncData} {kws : List (Str × V)} (F : FunD K n q (defArgs st) (defBody st) (defScope st) [] kws fI fd) (hs : inScB [("self" : Str), f] (defScope st) = true) (hb : ini1B f (defBody st) = true)
    (hl : (defScope st).names.lookup ("LineError" : Str) = some .globalImplicit) (le : LeOk K mg) (hm : mg x = some (.ref c)) (T : OexC K c) (no : PySem.W.findIn K (.ref c) f = some none) (iC : PySem.W.findIn K (.ref c) "__init__" = some (some (.ref fI))) (tI : PySem.W.typeIn K (.ref fI) = some (.type "function"))
    (bd : ∀ (kV doc pm : Value) (an : Option Addr) (cdv ct : Value) (us : List Value), us.length = 2 → bindArgs (PySem.W.fnOf n q (defArgs st) (defBody st) (defScope st) .none kV doc pm an cdv ct) ⟨us, []⟩ = pure ([("self" : Str), f].zip us)) : Rs1 P w K mg base x [f] := by
  unfold inScB at hs
  simp only [List.all_cons, List.all_nil, Bool.and_true, Bool.and_eq_true, Bool.not_eq_true', beq_iff_eq] at hs
  obtain ⟨hs0, ⟨⟨h1, h2⟩, h3⟩, ⟨h4, h5⟩, h6⟩ := hs
  obtain ⟨lea, l1, l2, l3⟩ := le.rd
  refine ⟨c, fI, fd, [("self" : Str), f], hm, T, fun g hg => by rw [List.mem_singleton.mp hg]; exact no, iC, tI, ?_, F.bindsN bd⟩
  refine FunD.ok F (scB_ok hs0) (fun vs H Q E h => ?_) fun cdv A outer s H vs Q E hr h => ?_
  · obtain ⟨a, C, ws, rfl, hw, _⟩ := h
    rw [List.length_cons, hw]; rfl
  · obtain ⟨a, C, ws, rfl, hw, T', no', ea, qq⟩ := h
    match ws, hw with
    | [w1], _ => exact ini1_run (X := cxOf (L2.CX P w) P w K mg base [("self" : Str), f] q (defScope st) fI cdv A outer s H E) hb rfl h1 h4 (by simpa using h5) (by simpa using h6) hl l1 l2 l3 T' (no' f List.mem_cons_self) ea fun dx e1 e2 => qq dx e1 e2
theorem rs1_fit2 {x f f' q n : Str} {st : Stmt} {c fI : Addr} {fd : FuncData} {kws : List (Str × V)} (F : FunD K n q (defArgs st) (defBody st) (defScope st) [] kws fI fd) (hs : inScB [("self" : Str), f, f'] (defScope st) = true) (hb : ini2B f f' (defBody st) = true)
    (hl : (defScope st).names.lookup ("LineError" : Str) = some .globalImplicit) (le : LeOk K mg) (hm : mg x = some (.ref c)) (T : OexC K c) (no : PySem.W.findIn K (.ref c) f = some none) (no' : PySem.W.findIn K (.ref c) f' = some none) (iC : PySem.W.findIn K (.ref c) "__init__" = some (some (.ref fI))) (tI : PySem.W.typeIn K (.ref fI) = some (.type "function"))
    (bd : ∀ (kV doc pm : Value) (an : Option Addr) (cdv ct : Value) (us : List Value), us.length = 3 → bindArgs (PySem.W.fnOf n q (defArgs st) (defBody st) (defScope st) .none kV doc pm an cdv ct) ⟨us, []⟩ = pure ([("self" : Str), f, f'].zip us)) : Rs1 P w K mg base x [f, f'] := by
  unfold inScB at hs
  simp only [List.all_cons, List.all_nil, Bool.and_true, Bool.and_eq_true, Bool.not_eq_true', beq_iff_eq] at hs
  obtain ⟨hs0, ⟨⟨h1, h2⟩, h3⟩, ⟨⟨h4, h5⟩, h6⟩, ⟨h7, h8⟩, h9⟩ := hs
  obtain ⟨lea, l1, l2, l3⟩ := le.rd
  refine ⟨c, fI, fd, [("self" : Str), f, f'], hm, T, fun g hg => ?_, iC, tI, ?_, F.bindsN bd⟩
  · rcases List.mem_cons.mp hg with e | e
    · rw [e]; exact no
    · rw [List.mem_singleton.mp e]; exact no'
  refine FunD.ok F (scB_ok hs0) (fun vs H Q E h => ?_) fun cdv A outer s H vs Q E hr h => ?_
  · obtain ⟨a, C, ws, rfl, hw, _⟩ := h
    rw [List.length_cons, hw]; rfl
  · obtain ⟨a, C, ws, rfl, hw, T', nn, ea, qq⟩ := h
    match ws, hw with
    | [w1, w2], _ => exact ini2_run (X := cxOf (L2.CX P w) P w K mg base [("self" : Str), f, f'] q (defScope st) fI cdv A outer s H E) hb rfl h1 h4 (by simpa using h5) (by simpa using h6) h7 (by simpa using h8) (by simpa using h9) hl l1 l2 l3 T' (nn f List.mem_cons_self) (nn f' (List.mem_cons_of_mem _ List.mem_cons_self)) ea fun dx e1 e2 => qq dx e1 e2
end

/-! a law's end -/
theorem intsP {K : PySem.W.Frag} {H : Hp} {S : Addr → Prop} : ∀ ns : List Int, RpL K H S (ns.map V.int) (ns.map PyData.int)
  | [] => .nil
  | n :: ns => .cons (.int n) (intsP ns)
/-- the law's def runs at the script -/
theorem lawG {ex : XC} {P : Program} {w : World} {K : PySem.W.Frag} {mg mb : Str → Option Value} {k : Nat} {fa a : Addr} {fd : FuncData} {x : Str} {F : Fn} {s1 : Shared} {vs : List Value} {ns : List Int} (kin : K.In s1.heap) (hmg : s1.heap.Ns mainGlobals mg) (hmb : s1.heap.Ns builtinsNs mb)
    (hbt : ∀ x : Str, x ≠ "__name__" → mb x = bootBuiltins x) (hnl : s1.heap.NoLimit) (hge : s1.gens = #[]) (hat : s1.heap.get? a = some { cls := .type "list", data := .seq vs.toArray }) (hin : IntsAre vs ns) (hsz : ns.length ≤ sizeLine) (hrm : Room k callerA)
    (hF : ∀ base : Heap, K.In base → base.Ns mainGlobals mg → FnG P w K mg base (L2.CX P w) k fa fd [x] (spF (kf P w K mg ex) mg 1 F)) (hbd : ∀ (s : Shared) (u : Value), BindsTo s fd ⟨[u], []⟩ [(x, u)]) (hrun : ∃ outs, F [.dat (.list (ns.map .int))] = .ret (.dat (.bool true)) outs) :
    codeAny (model P w) callerA (.call (.ref fa) ⟨[.ref a], []⟩) (fun r s' => r = .ok (.ret (.bool true)) ∧ OldK s1.heap s'.heap ∧ s'.os = s1.os ∧ AllBare s'.gens) s1 := by
  have vals := vals_ints hin
  have inner : ∀ H : Hp, (∀ b, H b = none ∨ ∃ o xs, H b = some (.frz o (.lst xs))) → FzL K H (fun _ => False) a (ns.map V.int) → HOk P w H s1.heap → (∀ b, H b ≠ none → b = a) → (H a ≠ none → K.lookup a = none) →
      codeAny (model P w) callerA (.call (.ref fa) ⟨[.ref a], []⟩) (fun r s' => r = .ok (.ret (.bool true)) ∧ OldK s1.heap s'.heap ∧ s'.os = s1.os ∧ AllBare s'.gens) s1 := fun H only fz hok one alone => by
    have stays : ∀ {b : Addr} {o : Obj}, s1.heap.get? b = some o → b ≠ a → (hidT s1.heap H).get? b = some o := fun {b o} e n => hidT_get e (by
      by_cases z : H b = none
      · exact z
      · exact absurd (one b z) n)
    have dictNe : ∀ {b : Addr} {o : Obj} {es : Array DictEntry} {ep : Nat}, s1.heap.get? b = some o → o.data = .dict es ep → b ≠ a := fun {b o es ep} e d z => by
      subst z
      rw [hat] at e
      cases e
      have d' : Data.seq vs.toArray _ = Data.dict es ep := d
      cases d'
    have nsT : ∀ {b : Addr} {m : Str → Option Value}, s1.heap.Ns b m → (hidT s1.heap H).Ns b m := fun {b m} ⟨o, es, ep, e, d, r⟩ => ⟨o, es, ep, stays e (dictNe e d), d, r⟩
    have kinT : K.In (hidT s1.heap H) := fun b o e => by
      by_cases z : H b = none
      · exact hidT_get (kin b o e) z
      · have := one b z
        subst this
        rw [alone z] at e
        cases e
    have modT : Mod K mg (hidT s1.heap H) := ⟨kinT, nsT hmg, ⟨mb, nsT hmb, hbt⟩, by obtain ⟨mc, h1, h2⟩ := hnl; exact ⟨mc, nsT h1, h2⟩⟩
    have env0 : Env0 P w K mg (hidT s1.heap H) callerA [] s1 H :=
      { frames := rfl, mod := modT, bs := fun b o e => of_hidT e, bsz := Nat.le_of_eq (hidT_size _ _), funs := trivial, frf := fun b hb => (List.not_mem_nil hb).elim, hok := hok, bare := .of_eq hge }
    have promise : spF (kf P w K mg ex) mg 1 F [.ref a] H (fun v _ => v = .bl true) (fun _ _ _ => False) := by
      have rp : Rp K H (fun _ => False) (.ref a) (.list (ns.map .int)) := .lst fz (intsP ns)
      refine ⟨rfl, [.dat (.list (ns.map .int))], fun _ => False, fun _ => False, fun _ => 0, .cons (f := fun _ => 0) (g := fun _ => 0) (.dat rp fun _ => rfl) (.nil fun _ => rfl) (fun _ => rfl), rfl, ⟨fun _ => Nat.zero_le _, fun b h => by omega, fun b h => h.elim, fun b h => h.elim⟩, ?_⟩
      obtain ⟨outs, e⟩ := hrun
      rw [e]
      intro v H' Fz' fo fd' _ _ rv _
      cases rv with
      | dat r z => exact r.bool_inv
    refine codeAny_mono ((hF _ kinT (nsT hmg)).run callerA [] s1 H ⟨[.ref a], []⟩ [.ref a] [.ref a] _ _ rfl hrm env0 (hbd s1 (.ref a)) (.cons rfl .nil) promise) fun r s' h => ?_
    match r, h with
    | .error e, h =>
      obtain ⟨_, _, _, _, _, _, _, _, _, _, _, _, no⟩ := h
      exact no.elim
    | .ok (.ret u), h =>
      obtain ⟨v, H', os, bare, un, hok', rv, q⟩ := h
      have q : v = .bl true := q
      subst q
      have eu : u = Value.bool true := rv
      subst eu
      refine ⟨rfl, OldK.of_keep fun b o e => ?_, os, bare⟩
      rcases only b with z | ⟨ob, xs, z⟩
      · exact un.keep b o e z (fun y => (List.not_mem_nil y).elim) (by simp)
      · have h1 := (hok b _ z).1
        have h2 := (hok' b _ (un.frzs b ob _ z)).1
        rw [e] at h1
        cases h1
        exact h2
  cases hk : K.lookup a with
  | some o =>
    have e := kin a o hk
    rw [hat] at e
    cases e
    exact inner (fun _ => none) (fun _ => .inl rfl) (.inr (.inr ⟨vs.toArray, _, hk, by rw [List.size_toArray, hin.length]; exact hsz, by simpa using vals⟩)) (fun b u z => by cases z) (fun b z => absurd rfl z) fun z => absurd rfl z
  | none =>
    have at_ : ∀ b, (if b = a then some (HO.frz { cls := .type "list", data := .seq vs.toArray } (.lst (ns.map V.int))) else none) ≠ none → b = a := fun b z => by
      by_cases y : b = a
      · exact y
      · rw [if_neg y] at z; exact absurd rfl z
    refine inner (fun b => if b = a then some (.frz { cls := .type "list", data := .seq vs.toArray } (.lst (ns.map V.int))) else none) (fun b => ?_) (.inr (.inl ⟨_, if_pos rfl⟩)) (fun b u z => ?_) at_ fun _ => hk
    · by_cases y : b = a
      · exact .inr ⟨_, _, if_pos y⟩
      · exact .inl (if_neg y)
    · have y := at_ b (by (try dsimp only at z); rw [z]; simp)
      subst y
      have z' : some (HO.frz { cls := .type "list", data := .seq vs.toArray } (.lst (ns.map V.int))) = some u := (if_pos rfl).symm.trans z
      cases z'
      exact ⟨hat, by rw [List.length_map]; exact hsz, vs, _, vals, hat⟩
/-- the goal that a head leaves -/
theorem walkG {ex : XC} {l : PySem.W.OpenLaw} {n k : Nat} {q : Program} {loose : List Str} {XP : (Str → Option Value) → Heap → Prop} {YP : World → Heap → Prop} {d : DefRec} {x : Str} {F : Fn} (hn : l.most = some n) (hn2 : n ≤ sizeLine) (hdf : d.params.defaults = []) (hr : Room k callerA)
    (hF : ∀ (w : World) (mg : Str → Option Value) (fa : Addr) (h : Heap), YP w h → h.Ns mainGlobals mg → mg d.name = some (.ref fa) → ∃ (K : PySem.W.Frag) (fd : FuncData), K.In h ∧ (∀ (s : Shared) (u : Value), BindsTo s fd ⟨[u], []⟩ [(x, u)]) ∧
        ∀ base : Heap, K.In base → base.Ns mainGlobals mg → FnG l.prog w K mg base (L2.CX l.prog w) k fa fd [x] (spF (kf l.prog w K mg ex) mg 1 F))
    (hrun : ∀ ns : List Int, ns.length ≤ n → ∃ outs, F [.dat (.list (ns.map .int))] = .ret (.dat (.bool true)) outs) :
    PySem.W.WalkO q loose XP YP l.row.toRowW d [] (fun f vs => PySem.call f vs) :=
  Att.attach_call hn hdf fun w s₀ s1 mg mb fa o pm cd doc a vs ns G Y ho hd hcd hmg hobj hints hlen hg => by
    obtain ⟨K, fd, kin, hb, hF⟩ := hF w mg fa _ Y G.T.g hmg
    exact lawG kin G.T.g G.T.b G.T.builtins G.T.nolimit hg hobj hints (Nat.le_trans hlen hn2) hr hF hb (hrun ns hlen)
end DE
end

section
set_option Elab.async false
set_option linter.all false
/-! DE25: the head's facts. -/
namespace DE
open PySem PySem.Spec PyProof.Rows L2
section
variable {K : PySem.W.Frag}
mutual
/-- a value of the written part bears this -/
def relD (K : PySem.W.Frag) : PyData → Value → Bool
  | .none, .none => true
  | .bool b, .bool c => b == c
  | .int i, .int j _ => decide (i = j)
  | .str x, .str y _ => decide (x = y)
  | .tuple ds, .ref a => (match K.lookup a with
    | some ⟨.type c, none, .seq its _, _⟩ => decide (c = "tuple") && (decide (its.size ≤ sizeLine) && relDs K ds its.toList)
    | _ => false)
  | _, _ => false
def relDs (K : PySem.W.Frag) : List PyData → List Value → Bool
  | [], [] => true
  | d :: ds, u :: us => relD K d u && relDs K ds us
  | _, _ => false
end
mutual
theorem relD_ok : ∀ {d : PyData} {u : Value}, relD K d u = true → ∃ v, RelV v u ∧ ∀ H S, Rp K H S v d
  | .none, .none, _ => ⟨.non, rfl, fun _ _ => .non⟩
  | .bool b, .bool c, h => by
    have h : (b == c) = true := by simpa [relD] using h
    rw [eq_of_beq h]
    exact ⟨.bl c, rfl, fun _ _ => .bl _⟩
  | .int i, .int j t, h => by
    have h : i = j := by simpa [relD] using h
    rw [h]
    exact ⟨.int j, ⟨t, rfl⟩, fun _ _ => .int _⟩
  | .str i, .str j t, h => by
    have h : i = j := by simpa [relD] using h
    rw [h]
    exact ⟨.str j, ⟨t, rfl⟩, fun _ _ => .str _⟩
  | .tuple ds, .ref a, h => by
    have h : (match K.lookup a with
      | some ⟨.type c, none, .seq its _, _⟩ => decide (c = "tuple") && (decide (its.size ≤ sizeLine) && relDs K ds its.toList)
      | _ => false) = true := by simpa [relD] using h
    cases q : K.lookup a with
    | none => rw [q] at h; cases h
    | some o =>
      obtain ⟨oc, od, dt, osl⟩ := o
      rw [q] at h
      cases oc with
      | type c =>
        cases od with
        | some _ => cases dt <;> cases h
        | none =>
        cases dt with
        | seq its n =>
          have h : (decide (c = "tuple") && (decide (its.size ≤ sizeLine) && relDs K ds its.toList)) = true := h
          simp only [Bool.and_eq_true, decide_eq_true_eq] at h
          obtain ⟨h1, h2, h3⟩ := h
          subst h1
          obtain ⟨vs, rv, rp⟩ := relDs_ok h3
          exact ⟨.ref a, rfl, fun H S => .tup (.inr ⟨_, its, n, q, rfl, rfl, h2, rv, rfl⟩) (rp H S)⟩
        | _ => cases h
      | _ => cases od <;> cases dt <;> cases h
theorem relDs_ok : ∀ {ds : List PyData} {us : List Value}, relDs K ds us = true → ∃ vs, Vals vs us ∧ ∀ H S, RpL K H S vs ds
  | [], [], _ => ⟨[], .nil, fun _ _ => .nil⟩
  | d :: ds, u :: us, h => by
    simp only [relDs, Bool.and_eq_true] at h
    obtain ⟨v, r, p⟩ := relD_ok h.1
    obtain ⟨vs, rs, ps⟩ := relDs_ok h.2
    exact ⟨v :: vs, .cons r rs, fun H S => .cons (p H S) (ps H S)⟩
end
end
section
variable {K : PySem.W.Frag} {C : Addr}
def excCB (K : PySem.W.Frag) (C : Addr) : Bool := He.eqO (PySem.W.findIn K (.ref C) "__getattribute__") (some (some (.builtin "BaseException.__getattribute__"))) && (He.eqO (PySem.W.findIn K (.ref C) "__getattr__") (some none) && (decide (PySem.W.subIn K (.ref C) (.type "BaseException") = some true) && (PySem.W.hasDictIn K C &&
  (He.eqO (PySem.W.findIn K (.ref C) "__class__") (some (some (.builtin "object.__class__"))) && (He.eqO (PySem.W.specialIn K (.builtin "object.__class__") "__get__") (some (some (.builtin "getset_descriptor.__get__"))) && (decide (PySem.W.takesIn K (.builtin "object.__class__") = some true) && decide (PySem.W.mroIn K C (.type "object") = some true)))))))
theorem excCB_ok (h : excCB K C = true) : ExcC K C := by
  obtain ⟨h1, h⟩ := He.ba h
  obtain ⟨h2, h⟩ := He.ba h
  obtain ⟨h3, h⟩ := He.ba h
  obtain ⟨h4, h⟩ := He.ba h
  obtain ⟨h5, h⟩ := He.ba h
  obtain ⟨h6, h⟩ := He.ba h
  obtain ⟨h7, h8⟩ := He.ba h
  exact ⟨He.eqO_ok h1, He.eqO_ok h2, of_decide_eq_true h3, h4, He.eqO_ok h5, He.eqO_ok h6, of_decide_eq_true h7, of_decide_eq_true h8⟩
def shapeB (C : Addr) : Obj → Bool
  | ⟨.type t, _, .cls ⟨_, _, .ref c :: bm, _, _, true, _, _, _, _, false⟩, sl⟩ => decide (t = "type") && (decide (c = C) && (PySem.HandSPX.refsVE bm && (decide (sl.toList.length = 6) && decide (sl.toList[4]? = some (some (.builtin "ValueError.__new__"))))))
  | _ => false
theorem shapeB_ok {o : Obj} (h : shapeB C o = true) : ∃ nm q N bs bm sn sub ab col dd k0 k1 k2 k3 k5, o = excClassObj nm q C N bs bm true sn sub ab col dd k0 k1 k2 k3 k5 "ValueError.__new__" ∧ PySem.HandSPX.refsVE bm = true := by
  unfold shapeB at h
  split at h
  · rename_i t dd nm bs c bm N q sn sub ab col sl
    obtain ⟨h1, h⟩ := He.ba h
    obtain ⟨h2, h⟩ := He.ba h
    obtain ⟨h3, h⟩ := He.ba h
    obtain ⟨h4, h5⟩ := He.ba h
    have e1 := of_decide_eq_true h1
    have e2 := of_decide_eq_true h2
    subst e1 e2
    obtain ⟨k0, k1, k2, k3, k5, e⟩ := six_places (of_decide_eq_true h4) (of_decide_eq_true h5)
    refine ⟨nm, q, N, bs, bm, sn, sub, ab, col, dd, k0, k1, k2, k3, k5, ?_, h3⟩
    obtain ⟨sl⟩ := sl
    simp only at e
    subst e
    rfl
  · cases h
def oexB (K : PySem.W.Frag) (C : Addr) : Bool := (match K.lookup C with
  | some o => shapeB C o
  | none => false) && (He.eqO (PySem.W.findIn K (.ref C) "__setattr__") (some (some (.builtin "object.__setattr__"))) && (decide (PySem.W.subIn K (.ref C) (.type "BaseException") = some true) && (decide (PySem.W.typeIn K (.ref C) = some (.type "type")) && PySem.W.keepIn K (.ref C))))
theorem oexB_ok (h : oexB K C = true) : OexC K C := by
  obtain ⟨h1, h⟩ := He.ba h
  obtain ⟨h2, h⟩ := He.ba h
  obtain ⟨h3, h⟩ := He.ba h
  obtain ⟨h4, h5⟩ := He.ba h
  refine ⟨?_, He.eqO_ok h2, of_decide_eq_true h3, of_decide_eq_true h4, h5⟩
  cases q : K.lookup C with
  | none => rw [q] at h1; cases h1
  | some o =>
    rw [q] at h1
    obtain ⟨nm, qn, N, bs, bm, sn, sub, ab, col, dd, k0, k1, k2, k3, k5, e, r⟩ := shapeB_ok h1
    subst e
    exact ⟨nm, qn, N, bs, bm, sn, sub, ab, col, dd, k0, k1, k2, k3, k5, rfl, r⟩
end
/-! the tables -/
def gloN (K : PySem.W.Frag) (x : Str) : Bool := (He.Fa.glo x).ok K
def rs0B (K : PySem.W.Frag) (x : Str) : Bool := gloN K x && (He.Fa.exc x).ok K
/-- facts for a class with an __init__ -/
def rs1B (K : PySem.W.Frag) (x : Str) (fs : List Str) : Bool := gloN K x && (oexB K (He.ga K x) && (fs.all (fun f => He.eqO (PySem.W.findIn K (.ref (He.ga K x)) f) (some none)) && (He.eqO (PySem.W.findIn K (.ref (He.ga K x)) "__init__") (some (some (.ref (He.ma K (He.ga K x) "__init__")))) && PySem.W.isFn K (.ref (He.ma K (He.ga K x) "__init__")))))
def leB (K : PySem.W.Frag) : Bool := gloN K "LineError" && (PySem.W.readsIn K (He.ga K "LineError") (.type "type") && (match PySem.W.findCls K (.ref (He.ga K "LineError")) (.type "type") "__init__" with
  | some (.val (.builtin s)) => decide (s = "ValueError.__init__")
  | _ => false))
theorem leB_ok {K : PySem.W.Frag} {h : Heap} {mg : Str → Option Value} (X : K.In h) (G : h.Ns mainGlobals mg) (c : leB K = true) : LeOk K mg := by
  obtain ⟨h1, c⟩ := He.ba c
  obtain ⟨h2, h3⟩ := He.ba c
  refine ⟨_, He.glo_ok X G h1, h2, ?_⟩
  split at h3
  · rename_i s e
    rw [e, of_decide_eq_true h3]
  · cases h3
def upV (K : PySem.W.Frag) (t : Str) : Option Value := match PySem.W.nsIn K mainGlobals t with
  | some (some (.ref a)) => some (.ref a)
  | some none => if decide (t = ("ValueError" : Str)) then some (.type "ValueError") else none
  | _ => none
def upB1 (K : PySem.W.Frag) (exs : List Str) (t : Str) (us : List Str) : Bool := !(t == ("__debug__" : Str)) && (match upV K t with
  | some cv => exs.all fun n => decide (PySem.W.kitOne K (.ref (He.ga K n)) cv = some (us.contains n)) && decide (PySem.W.exmOne K (.ref (He.ga K n)) cv = some (us.contains n))
  | none => false)
def tbB (tb : Tb) (K : PySem.W.Frag) : Bool :=
  tb.blt.all (fun x => He.eqO (PySem.W.nsIn K mainGlobals x) (some none)) && (tb.glb.all (fun y => match PySem.W.nsIn K mainGlobals y.1 with | some (some u) => relD K y.2 u | _ => false) &&
  (tb.exs.all (fun n => gloN K n && (excCB K (He.ga K n) && (xfB K (He.ga K n) && tb.fds.all fun f => He.eqO (PySem.W.findIn K (.ref (He.ga K n)) f) (some none)))) &&
  (tb.rs.all (fun r => tb.exs.contains r.1 && (decide (r.2.length ≤ 1000) && (if r.2.isEmpty then rs0B K r.1 else rs1B K r.1 r.2))) && (tb.ups.all (fun u => upB1 K tb.exs u.1 u.2) && (tb.cls.all (fun C => gloN K C && ((He.Fa.cls C).ok K && tb.ifs.all fun f => (He.Fa.noat C f).ok K)) && (tb.rs.all (fun r => r.2.isEmpty) || leB K))))))
section
variable {P : Program} {w : World} {K : PySem.W.Frag} {mg : Str → Option Value} {base h : Heap} {tb : Tb}
theorem tb_of (X : K.In h) (G : h.Ns mainGlobals mg) (c : tbB tb K = true) (hr : ∀ x fs, (x, fs) ∈ tb.rs → fs.isEmpty = false → Rs1 P w K mg base x fs) : TbOk P w K mg base tb := by
  obtain ⟨h1, c⟩ := He.ba c
  obtain ⟨h2, c⟩ := He.ba c
  obtain ⟨h3, c⟩ := He.ba c
  obtain ⟨h4, h⟩ := He.ba c
  obtain ⟨h5, h⟩ := He.ba h
  obtain ⟨h6, _⟩ := He.ba h
  have at_ : ∀ n ∈ tb.exs, ∀ a, mg n = some (.ref a) → a = He.ga K n ∧ excCB K (He.ga K n) = true ∧ xfB K (He.ga K n) = true ∧ ∀ f ∈ tb.fds, PySem.W.findIn K (.ref (He.ga K n)) f = some none := fun n hn a ha => by
    obtain ⟨g1, g⟩ := He.ba (List.all_eq_true.mp h3 n hn)
    obtain ⟨g2, g⟩ := He.ba g
    obtain ⟨g3, g4⟩ := He.ba g
    have e := He.glo_ok X G g1
    rw [ha] at e
    cases e
    exact ⟨rfl, g2, g3, fun f hf => He.eqO_ok (List.all_eq_true.mp g4 f hf)⟩
  refine ⟨fun x hx => PySem.W.mg_none_of X G (He.eqO_ok (List.all_eq_true.mp h1 x hx)), fun x d hx => ?_, fun n hn a ha => ?_, fun x fs hx => ?_, fun t us hx => ?_, fun C hC c hc => ?_, fun f hf n hn a ha => ?_⟩
  · have q := List.all_eq_true.mp h2 _ hx
    split at q
    · rename_i u e
      obtain ⟨v, r, p⟩ := relD_ok q
      exact ⟨v, u, PySem.W.mg_of X G e, r, p⟩
    · cases q
  · obtain ⟨e, g2, g3, _⟩ := at_ n hn a ha
    subst e
    exact ⟨excCB_ok g2, xfB_ok g3⟩
  · obtain ⟨q1, q⟩ := He.ba (List.all_eq_true.mp h4 _ hx)
    obtain ⟨q2, q3⟩ := He.ba q
    refine ⟨List.contains_iff_mem.mp q1, ?_⟩
    cases hf : fs.isEmpty with
    | true =>
      rw [if_pos rfl]
      simp only [hf, if_true] at q3
      obtain ⟨z1, z2⟩ := He.ba q3
      obtain ⟨z3, z4, z5, z6⟩ := He.exc_ok z2
      exact ⟨_, He.glo_ok X G z1, z3, z4, z5, z6⟩
    | false =>
      rw [if_neg (by decide)]
      exact ⟨hr x fs hx hf, of_decide_eq_true q2⟩
  · obtain ⟨q1, q2⟩ := He.ba (List.all_eq_true.mp h5 _ hx)
    have q1 : (t == ("__debug__" : Str)) = false := by simpa using q1
    have mem : ∀ {cv : Value}, (tb.exs.all fun n => decide (PySem.W.kitOne K (.ref (He.ga K n)) cv = some (us.contains n)) && decide (PySem.W.exmOne K (.ref (He.ga K n)) cv = some (us.contains n))) = true → ∀ n ∈ tb.exs, ∀ a, mg n = some (.ref a) → PySem.W.kitOne K (.ref a) cv = some (us.contains n) ∧ PySem.W.exmOne K (.ref a) cv = some (us.contains n) := fun {cv} q n hn a ha => by
      obtain ⟨e, _⟩ := at_ n hn a ha
      subst e
      obtain ⟨z1, z2⟩ := He.ba (List.all_eq_true.mp q n hn)
      exact ⟨of_decide_eq_true z1, of_decide_eq_true z2⟩
    unfold upV at q2
    split at q2
    · rename_i cv e0
      split at e0
      · rename_i a e
        cases e0
        exact ⟨.ref a, .ref a, fun u r => r, rfl, .inl (PySem.W.mg_of X G e), q1, mem q2⟩
      · rename_i e
        split at e0
        · rename_i et
          cases e0
          have et := of_decide_eq_true et
          simp only at et
          subst et
          exact ⟨.type "ValueError", .ty "ValueError", fun u r => r, rfl, .inr ⟨PySem.W.mg_none_of X G e, by decide +kernel, by decide⟩, q1, mem q2⟩
        · cases e0
      · cases e0
    · cases q2
  · obtain ⟨g1, g⟩ := He.ba (List.all_eq_true.mp h6 C hC)
    obtain ⟨g2, g3⟩ := He.ba g
    have e := He.glo_ok X G g1
    rw [hc] at e
    cases e
    exact ⟨He.cls_ok g2, fun f hf => He.noat_ok (List.all_eq_true.mp g3 f hf)⟩
  · obtain ⟨e, _, _, g4⟩ := at_ n hn a ha
    subst e
    exact g4 f hf
theorem rs1_at (X : K.In h) (G : h.Ns mainGlobals mg) (c : tbB tb K = true) {x : Str} {fs : List Str} (hm : (x, fs) ∈ tb.rs) (hf : fs.isEmpty = false) : LeOk K mg ∧ mg x = some (.ref (He.ga K x)) ∧ OexC K (He.ga K x) ∧ (∀ f ∈ fs, PySem.W.findIn K (.ref (He.ga K x)) f = some none) ∧
    PySem.W.findIn K (.ref (He.ga K x)) "__init__" = some (some (.ref (He.ma K (He.ga K x) "__init__"))) ∧ PySem.W.typeIn K (.ref (He.ma K (He.ga K x) "__init__")) = some (.type "function") := by
  obtain ⟨h1, c⟩ := He.ba c
  obtain ⟨h2, c⟩ := He.ba c
  obtain ⟨h3, c⟩ := He.ba c
  obtain ⟨h4, h⟩ := He.ba c
  obtain ⟨h5, h⟩ := He.ba h
  obtain ⟨_, h6⟩ := He.ba h
  obtain ⟨q1, q⟩ := He.ba (List.all_eq_true.mp h4 _ hm)
  obtain ⟨q2, q3⟩ := He.ba q
  simp only [hf, Bool.false_eq_true, if_false] at q3
  obtain ⟨z1, z⟩ := He.ba q3
  obtain ⟨z2, z⟩ := He.ba z
  obtain ⟨z3, z⟩ := He.ba z
  obtain ⟨z4, z5⟩ := He.ba z
  have le : leB K = true := by
    rcases Bool.or_eq_true_iff.mp h6 with e | e
    · have := List.all_eq_true.mp e _ hm
      rw [hf] at this
      cases this
    · exact e
  exact ⟨leB_ok X G le, He.glo_ok X G z1, oexB_ok z2, fun f hf => He.eqO_ok (List.all_eq_true.mp z3 f hf), He.eqO_ok z4, by simpa [PySem.W.isFn] using z5⟩
end
/-! the Hook -/
def obsX (bx : PySem.W.Frag → Bool) (fn : List He.DefD) (K : PySem.W.Frag) : He.AlD := (bx K && fn.all fun d => d.ok K, fn.map fun d => He.fnW K d.at_)
def SaysX (bx : PySem.W.Frag → Bool) (fn : List He.DefD) (K : PySem.W.Frag) : Prop := obsX bx fn K = He.valD fn
def obsXG (n : Nat) (bx : PySem.W.Frag → Bool) (fn : List He.DefD) (g : Addr → Option Obj) : He.AlD := obsX bx fn (He.frG g (PySem.cStatics :: He.asD g n))
def hookX (n : Nat) (bx : PySem.W.Frag → Bool) (fn : List He.DefD) : PySem.W.Hook where
  α := He.AlD
  obs := fun s => obsXG n bx fn s.heap.get?
  val := fun _ => He.valD fn
  says := fun _ h => ∃ K : PySem.W.Frag, K.In h ∧ SaysX bx fn K
  of := fun _ _ e => ⟨_, He.frG_in, e⟩
  keeps := fun _ _ _ ⟨K, hK, c⟩ k => ⟨K, PySem.W.Frag.In.keeps hK k, c⟩
theorem obsXG_eq {n : Nat} {bx : PySem.W.Frag → Bool} {fn : List He.DefD} {g : Addr → Option Obj} {s : Shared} (h : ∀ a, g a = s.heap.get? a) : obsXG n bx fn g = (hookX n bx fn).obs s := by
  have e : g = s.heap.get? := funext h
  rw [e] <;> rfl
section
variable {bx : PySem.W.Frag → Bool} {fn : List He.DefD} {K : PySem.W.Frag}
theorem SaysX.bxs (c : SaysX bx fn K) : bx K = true :=
  (He.ba (show (bx K && fn.all fun d => d.ok K) = true from congrArg (fun z : He.AlD => z.1) c)).1
theorem SaysX.def_ (c : SaysX bx fn K) (i : Nat) {d : He.DefD} (h : fn[i]? = some d := by rfl) : ∃ fd, FunD K d.name d.qual d.params d.body d.scope (d.dvs K) (d.kws K) (He.fAd K d.at_) fd := by
  have c2 := (He.ba (show (bx K && fn.all fun d => d.ok K) = true from congrArg (fun z : He.AlD => z.1) c)).2
  have e : fn.map (fun d => He.fnW K d.at_) = fn.map He.DefD.val := congrArg (fun z : He.AlD => z.2) c
  have e2 : (fn.map fun d => He.fnW K d.at_)[i]? = (fn.map He.DefD.val)[i]? := by rw [e]
  rw [List.getElem?_map, List.getElem?_map, h] at e2
  exact He.DefD.funD (Option.some.inj e2) (List.all_eq_true.mp c2 d (List.mem_of_getElem? h))
end
/-- names that stand for objects of the written part; methods -/
def msB (K : PySem.W.Frag) (y : Str × Str) : Bool := if decide (y.2 = ("__init__" : Str)) then (He.Fa.mkr y.1).ok K else (He.Fa.meth y.1 y.2).ok K
def bxAll (gl : List Str) (ms : List (Str × Str)) (tb : Tb) (K : PySem.W.Frag) : Bool := gl.all (gloN K) && (ms.all (msB K) && tbB tb K)
theorem bxAll_gl {gl : List Str} {ms : List (Str × Str)} {tb : Tb} {K : PySem.W.Frag} {h : Heap} {mg : Str → Option Value} (X : K.In h) (G : h.Ns mainGlobals mg) (c : bxAll gl ms tb K = true) {x : Str} (hx : x ∈ gl) : mg x = some (.ref (He.ga K x)) := He.glo_ok X G (List.all_eq_true.mp (He.ba c).1 x hx)
theorem bxAll_ms {gl : List Str} {ms : List (Str × Str)} {tb : Tb} {K : PySem.W.Frag} (c : bxAll gl ms tb K = true) {C m : Str} (hx : (C, m) ∈ ms) : (m = ("__init__" : Str) ∧ L2.Mk K (He.ga K C) (He.ma K (He.ga K C) m)) ∨ (m ≠ ("__init__" : Str) ∧ Meth K (He.ga K C) m (He.ma K (He.ga K C) m)) := by
  have q := List.all_eq_true.mp (He.ba (He.ba c).2).1 _ hx
  unfold msB at q
  by_cases e : m = ("__init__" : Str)
  · subst e
    rw [if_pos (by simp)] at q
    exact .inl ⟨rfl, He.mkr_ok q⟩
  · rw [if_neg (by simpa using e)] at q
    exact .inr ⟨e, He.meth_ok q⟩
theorem bxAll_tb {gl : List Str} {ms : List (Str × Str)} {tb : Tb} {K : PySem.W.Frag} (c : bxAll gl ms tb K = true) : tbB tb K = true := (He.ba (He.ba c).2).2
end DE
end

section
set_option Elab.async false
set_option linter.all false
/-! DE24: runs, step by step: for plain proofs. -/
namespace DE
open PySem
noncomputable section
variable {α β : Type} {G : List Fn}
@[simp] theorem bind_ok (a : α) (ρ : Env) (f : α → Env → R β) : (R.ok a ρ).bind f = f a ρ := rfl
@[simp] theorem bind_no (f : α → Env → R β) : (R.no : R α).bind f = .no := rfl
@[simp] theorem bind_ex (x : D) (ρ : Env) (f : α → Env → R β) : (R.ex x ρ : R α).bind f = .ex x ρ := rfl
@[simp] theorem sbind_ok (a : α) (ρ : Env) (f : α → Env → SR) : (R.ok a ρ).sbind f = f a ρ := rfl
@[simp] theorem sbind_no (f : α → Env → SR) : (R.no : R α).sbind f = .no := rfl
@[simp] theorem sbind_ex (x : D) (ρ : Env) (f : α → Env → SR) : (R.ex x ρ : R α).sbind f = .ex x ρ := rfl
@[simp] theorem nox_ok (a : α) (ρ : Env) : (R.ok a ρ).nox = .ok a ρ := rfl
@[simp] theorem nx_bind (ρ : Env) (f : Env → SR) : (SR.nx ρ).bind f = f ρ := rfl
@[simp] theorem rt_bind (d : D) (ρ : Env) (f : Env → SR) : (SR.rt d ρ).bind f = .rt d ρ := rfl
@[simp] theorem ex_bind (d : D) (ρ : Env) (f : Env → SR) : (SR.ex d ρ).bind f = .ex d ρ := rfl
@[simp] theorem no_bind (f : Env → SR) : SR.no.bind f = .no := rfl
@[simp] theorem of_some (a : α) (ρ : Env) : R.of (some a) ρ = .ok a ρ := rfl
@[simp] theorem of_none (ρ : Env) : R.of (none : Option α) ρ = .no := rfl
theorem bind_ite {c : Prop} [Decidable c] (a b : R α) (f : α → Env → R β) : (if c then a else b).bind f = if c then a.bind f else b.bind f := by split <;> rfl
theorem sbind_ite {c : Prop} [Decidable c] (a b : R α) (f : α → Env → SR) : (if c then a else b).sbind f = if c then a.sbind f else b.sbind f := by split <;> rfl

def kLive (d : D) (x : R D) : R D := match d with | .dead => .no | _ => x
@[simp] theorem s_var (i : Nat) (ρ : Env) : evE G (.var i) ρ = (match slot ρ i with | .dat d => .ok (.dat d) ρ | .bor d => .ok (.bor d) ρ | _ => .no) := by simp only [evE] <;> rfl
def isDead : D → Bool
  | .dead => true
  | _ => false
@[simp] theorem isDead_1 (d : PyData) : isDead (.dat d) = false := rfl
@[simp] theorem isDead_2 (d : PyData) : isDead (.bor d) = false := rfl
@[simp] theorem isDead_3 (d : PyData) : isDead (.tr d) = false := rfl
@[simp] theorem isDead_4 (xs : List D) : isDead (.lst xs) = false := rfl
@[simp] theorem isDead_5 (kvs : List (L2.Key × D)) : isDead (.dct kvs) = false := rfl
@[simp] theorem isDead_6 (kvs : List (PyData × PyData)) : isDead (.dtt kvs) = false := rfl
@[simp] theorem isDead_7 (C : Str) (fs : List (Str × D)) : isDead (.ins C fs) = false := rfl
@[simp] theorem isDead_8 (C : Str) (fs : List (Str × PyData)) : isDead (.exc C fs) = false := rfl
@[simp] theorem isDead_9 : isDead .dead = true := rfl
@[simp] theorem s_mv (i : Nat) (ρ : Env) : evE G (.mv i) ρ = if isDead (slot ρ i) then .no else .ok (slot ρ i) (ρ.set i .dead) := by
  simp only [evE]
  cases slot ρ i <;> rfl
@[simp] theorem s_cst (d : PyData) (ρ : Env) : evE G (.cst d) ρ = .ok (.dat d) ρ := by simp only [evE]
def kRd (q : Nat × List Sel) (ρ : Env) : R D := match getS (slot ρ q.1) q.2 with | some (.dat d) => .ok (.dat d) ρ | _ => .no
@[simp] theorem s_rd (p : P) (ρ : Env) : evE G (.rd p) ρ = (evP G p ρ).bind kRd := by simp only [evE] <;> rfl
def kBp (q : Nat × List Sel) (ρ : Env) : R D := match getS (slot ρ q.1) q.2 with | some x => R.of (x.view.map .tr) ρ | none => .no
@[simp] theorem s_bp (p : P) (ρ : Env) : evE G (.bp p) ρ = (evP G p ρ).bind kBp := by simp only [evE] <;> rfl
@[simp] theorem kRd_eq (i : Nat) (sel : List Sel) (ρ : Env) : kRd (i, sel) ρ = (match getS (slot ρ i) sel with | some (.dat d) => .ok (.dat d) ρ | _ => .no) := rfl
@[simp] theorem kBp_eq (i : Nat) (sel : List Sel) (ρ : Env) : kBp (i, sel) ρ = (match getS (slot ρ i) sel with | some x => R.of (x.view.map .tr) ρ | none => .no) := rfl
def kNeg (x : D) (ρ : Env) : R D := match x with | .dat (.int i) => .ok (.dat (.int (-i))) ρ | _ => .no
@[simp] theorem s_neg (a : E) (ρ : Env) : evE G (.neg a) ρ = (evE G a ρ).bind kNeg := by simp only [evE] <;> rfl
@[simp] theorem kNeg_int (i : Int) (ρ : Env) : kNeg (.dat (.int i)) ρ = .ok (.dat (.int (-i))) ρ := rfl
def kNot (x : D) (ρ : Env) : R D := match x with | .dat (.bool i) => .ok (.dat (.bool (!i))) ρ | _ => .no
@[simp] theorem s_not (a : E) (ρ : Env) : evE G (.not a) ρ = (evE G a ρ).bind kNot := by simp only [evE] <;> rfl
@[simp] theorem kNot_b (i : Bool) (ρ : Env) : kNot (.dat (.bool i)) ρ = .ok (.dat (.bool (!i))) ρ := rfl
def kBin2 (o : Operator) (x y : D) (ρ : Env) : R D := match x.fz, y.fz with | some x, some y => R.of (binD o x y) ρ | _, _ => .no
def kBin1 (G : List Fn) (o : Operator) (b : E) (x : D) (ρ : Env) : R D := if x.ntr || b.pure then (evE G b ρ).bind (kBin2 o x) else .no
@[simp] theorem s_bin (o : Operator) (a b : E) (ρ : Env) : evE G (.bin o a b) ρ = (evE G a ρ).bind (kBin1 G o b) := by simp only [evE] <;> rfl
@[simp] theorem kBin1_dat (o : Operator) (b : E) (d : PyData) (ρ : Env) : kBin1 G o b (.dat d) ρ = (evE G b ρ).bind (kBin2 o (.dat d)) := rfl
theorem kBin1_own (o : Operator) (b : E) (x : D) (ρ : Env) (h : x.ntr = true) : kBin1 G o b x ρ = (evE G b ρ).bind (kBin2 o x) := by unfold kBin1; rw [h]; rfl
@[simp] theorem kBin2_dat (o : Operator) (d e : PyData) (ρ : Env) : kBin2 o (.dat d) (.dat e) ρ = R.of (binD o d e) ρ := rfl
theorem kBin2_fz (o : Operator) {x y : D} {d e : PyData} (h : x.fz = some d) (h' : y.fz = some e) (ρ : Env) : kBin2 o x y ρ = R.of (binD o d e) ρ := by unfold kBin2; rw [h, h']
def kCmp2 (o : CmpOp) (x y : D) (ρ : Env) : R D := R.of ((cmpV o x y).map fun k => .dat (.bool k)) ρ
def kCmp1 (G : List Fn) (o : CmpOp) (b : E) (x : D) (ρ : Env) : R D := if x.ntr || b.pure then (evE G b ρ).bind (kCmp2 o x) else .no
@[simp] theorem s_cmp (o : CmpOp) (a b : E) (ρ : Env) : evE G (.cmp o a b) ρ = (evE G a ρ).bind (kCmp1 G o b) := by simp only [evE] <;> rfl
@[simp] theorem kCmp1_eq (o : CmpOp) (b : E) (x : D) (ρ : Env) : kCmp1 G o b x ρ = if x.ntr || b.pure then (evE G b ρ).bind (kCmp2 o x) else .no := rfl
@[simp] theorem kCmp2_eq (o : CmpOp) (x y : D) (ρ : Env) : kCmp2 o x y ρ = R.of ((cmpV o x y).map fun k => .dat (.bool k)) ρ := rfl
def kIf {γ : Type} (x : D) (a b c : γ) : γ := match x with | .dat (.bool true) => a | .dat (.bool false) => b | _ => c
@[simp] theorem kIf_b {γ : Type} (k : Bool) (a b c : γ) : kIf (.dat (.bool k)) a b c = if k = true then a else b := by cases k <;> rfl
def kAnd (G : List Fn) (b : E) (x : D) (ρ : Env) : R D := kIf x (evE G b ρ) (.ok (.dat (.bool false)) ρ) .no
@[simp] theorem s_and (a b : E) (ρ : Env) : evE G (.and a b) ρ = (evE G a ρ).bind (kAnd G b) := by simp only [evE] <;> rfl
@[simp] theorem kAnd_b (b : E) (k : Bool) (ρ : Env) : kAnd G b (.dat (.bool k)) ρ = if k = true then evE G b ρ else .ok (.dat (.bool false)) ρ := kIf_b ..
def kOr (G : List Fn) (b : E) (x : D) (ρ : Env) : R D := kIf x (.ok (.dat (.bool true)) ρ) (evE G b ρ) .no
@[simp] theorem s_or (a b : E) (ρ : Env) : evE G (.or a b) ρ = (evE G a ρ).bind (kOr G b) := by simp only [evE] <;> rfl
@[simp] theorem kOr_b (b : E) (k : Bool) (ρ : Env) : kOr G b (.dat (.bool k)) ρ = if k = true then .ok (.dat (.bool true)) ρ else evE G b ρ := kIf_b ..
def kIfe (G : List Fn) (a b : E) (x : D) (ρ : Env) : R D := kIf x (evE G a ρ) (evE G b ρ) .no
@[simp] theorem s_ife (c a b : E) (ρ : Env) : evE G (.ife c a b) ρ = (evE G c ρ).bind (kIfe G a b) := by simp only [evE] <;> rfl
@[simp] theorem kIfe_b (a b : E) (k : Bool) (ρ : Env) : kIfe G a b (.dat (.bool k)) ρ = if k = true then evE G a ρ else evE G b ρ := kIf_b ..
def kTup (xs : List D) (ρ : Env) : R D := match D.fzL xs with | some ds => if fits ds.length then .ok (.dat (.tuple ds)) ρ else .no | none => .no
@[simp] theorem s_tup (es : Es) (ρ : Env) : evE G (.tup es) ρ = (evEs G es ρ).bind kTup := by simp only [evE] <;> rfl
@[simp] theorem kTup_eq (xs : List D) (ρ : Env) : kTup xs ρ = (match D.fzL xs with | some ds => if fits ds.length then .ok (.dat (.tuple ds)) ρ else .no | none => .no) := rfl
def kLst (xs : List D) (ρ : Env) : R D := if fits xs.length then .ok (.lst xs) ρ else .no
@[simp] theorem s_lst (es : Es) (ρ : Env) : evE G (.lst es) ρ = (evEs G es ρ).bind kLst := by simp only [evE] <;> rfl
@[simp] theorem kLst_eq (xs : List D) (ρ : Env) : kLst xs ρ = if fits xs.length then .ok (.lst xs) ρ else .no := rfl
def kIx2 (x y : D) (ρ : Env) : R D := match y with | .dat y => R.of (ixV x y) ρ | _ => .no
def kIx1 (G : List Fn) (i : E) (x : D) (ρ : Env) : R D := if x.ntr || i.pure then (evE G i ρ).bind (kIx2 x) else .no
@[simp] theorem s_ix (a i : E) (ρ : Env) : evE G (.ix a i) ρ = (evE G a ρ).bind (kIx1 G i) := by simp only [evE] <;> rfl
@[simp] theorem kIx1_eq (i : E) (x : D) (ρ : Env) : kIx1 G i x ρ = if x.ntr || i.pure then (evE G i ρ).bind (kIx2 x) else .no := rfl
@[simp] theorem kIx2_dat (x : D) (y : PyData) (ρ : Env) : kIx2 x (.dat y) ρ = R.of (ixV x y) ρ := rfl
def kSl2 (x : D) (l h : Option Int) (ρ : Env) : R D := R.of (slV x l h) ρ
def kSl1 (G : List Fn) (hi : O) (x : D) (l : Option Int) (ρ : Env) : R D := (evO G hi ρ).bind (kSl2 x l)
def kSl0 (G : List Fn) (lo hi : O) (x : D) (ρ : Env) : R D := (evO G lo ρ).bind (kSl1 G hi x)
@[simp] theorem s_sl (a : E) (lo hi : O) (ρ : Env) : evE G (.sl a lo hi) ρ = (evE G a ρ).bind (kSl0 G lo hi) := by simp only [evE] <;> rfl
@[simp] theorem kSl0_eq (lo hi : O) (x : D) (ρ : Env) : kSl0 G lo hi x ρ = (evO G lo ρ).bind (kSl1 G hi x) := rfl
@[simp] theorem kSl1_eq (hi : O) (x : D) (l : Option Int) (ρ : Env) : kSl1 G hi x l ρ = (evO G hi ρ).bind (kSl2 x l) := rfl
@[simp] theorem kSl2_eq (x : D) (l h : Option Int) (ρ : Env) : kSl2 x l h ρ = R.of (slV x l h) ρ := rfl
@[simp] theorem s_onone (ρ : Env) : evO G .none ρ = .ok none ρ := by simp only [evO]
def kOs (x : D) (ρ : Env) : R (Option Int) := match x with | .dat (.int i) => .ok (some i) ρ | _ => .no
@[simp] theorem s_osome (e : E) (ρ : Env) : evO G (.some e) ρ = (evE G e ρ).bind kOs := by simp only [evO] <;> rfl
@[simp] theorem kOs_int (i : Int) (ρ : Env) : kOs (.dat (.int i)) ρ = .ok (some i) ρ := rfl
def kBi (b : Bi) (xs : List D) (ρ : Env) : R D := R.of (biV b xs) ρ
@[simp] theorem s_bi (b : Bi) (es : Es) (ρ : Env) : evE G (.bi b es) ρ = (evEs G es ρ).bind (kBi b) := by simp only [evE] <;> rfl
@[simp] theorem kBi_eq (b : Bi) (xs : List D) (ρ : Env) : kBi b xs ρ = R.of (biV b xs) ρ := rfl
def kIsi (ts : List String) (x : D) (ρ : Env) : R D := R.of ((isiV x ts).map fun k => .dat (.bool k)) ρ
@[simp] theorem s_isi (a : E) (ts : List String) (o : Bool) (ρ : Env) : evE G (.isi a ts o) ρ = (evE G a ρ).bind (kIsi ts) := by simp only [evE] <;> rfl
@[simp] theorem kIsi_eq (ts : List String) (x : D) (ρ : Env) : kIsi ts x ρ = R.of ((isiV x ts).map fun k => .dat (.bool k)) ρ := rfl
def kPm2 (m : Pm) (q : Nat × List Sel) (ys : List D) (ρ : Env) : R D := match getS (slot ρ q.1) q.2 with
  | some (.lst xs) => (match pmD m xs ys with
    | some (xs', y) => (match putS (slot ρ q.1) q.2 (.lst xs') with
      | some d => .ok y (ρ.set q.1 d)
      | none => .no)
    | none => .no)
  | _ => .no
def kPm1 (G : List Fn) (m : Pm) (es : Es) (q : Nat × List Sel) (ρ : Env) : R D := if isLst (getS (slot ρ q.1) q.2) && (q.2.isEmpty || es.pure) then (evEs G es ρ).bind (kPm2 m q) else .no
@[simp] theorem s_pm (m : Pm) (p : P) (es : Es) (ρ : Env) : evE G (.pm m p es) ρ = (evP G p ρ).bind (kPm1 G m es) := by simp only [evE] <;> rfl
@[simp] theorem kPm1_eq (m : Pm) (es : Es) (i : Nat) (sel : List Sel) (ρ : Env) : kPm1 G m es (i, sel) ρ = if isLst (getS (slot ρ i) sel) && (sel.isEmpty || es.pure) then (evEs G es ρ).bind (kPm2 m (i, sel)) else .no := rfl
@[simp] theorem kPm2_eq (m : Pm) (i : Nat) (sel : List Sel) (ys : List D) (ρ : Env) : kPm2 m (i, sel) ys ρ = (match getS (slot ρ i) sel with
  | some (.lst xs) => (match pmD m xs ys with
    | some (xs', y) => (match putS (slot ρ i) sel (.lst xs') with
      | some d => .ok y (ρ.set i d)
      | none => .no)
    | none => .no)
  | _ => .no) := rfl
def kCall (F : Fn) (pu : Bool) (xs : List Ar) (ρ : Env) : R D := callF F pu xs ρ
@[simp] theorem s_call (n : Nat) (f : Str) (pu : Bool) (as : As) (ρ : Env) : evE G (.call n f pu as) ρ = (evAs G as ρ).bind (kCall (fnAt G n) (pu && as.pure)) := by simp only [evE] <;> rfl
def kBack (bs : List (Option Back)) (ρ : Env) : FR → R D
  | .ret d outs => (match putBack bs outs ρ with | some ρ2 => .ok d ρ2 | none => .no)
  | .ex x outs => (match putBack bs outs ρ with | some ρ2 => .ex x ρ2 | none => .no)
  | .no => .no
@[simp] theorem kBack_ret (bs : List (Option Back)) (ρ : Env) (d : D) (outs : Env) : kBack bs ρ (.ret d outs) = (match putBack bs outs ρ with | some ρ2 => .ok d ρ2 | none => .no) := rfl
@[simp] theorem kCall_eq (F : Fn) (xs : List Ar) (ρ : Env) : kCall F false xs ρ = (match takeAs xs ρ with | some (ds, bs, ρ1) => if D.nexL ds then kBack bs ρ1 (F ds) else .no | none => .no) := by
  unfold kCall callF
  cases takeAs xs ρ with
  | none => rfl
  | some w =>
    obtain ⟨ds, bs, ρ1⟩ := w
    simp only [Bool.false_and, Bool.false_or]
    cases D.nexL ds with
    | true => cases F ds <;> rfl
    | false => rfl
def kComp2 (w : Option (Nat × D)) (ρ1 : Env) (own : List Nat) (ds : List PyData) (ρ : Env) : R D := if fits ds.length then (match unlock w (backE ρ1 ρ own) with | some ρ3 => .ok (dl ds) ρ3 | none => .no) else .no
def kComp1 (G : List Fn) (elt : E) (t : T) (c : O) (own : List Nat) (w : List D × Option (Nat × D)) (ρ1 : Env) : R D := (compL own t (evC G c) (evE G elt) w.1 ρ1).bind (kComp2 w.2 ρ1 own)
def kCompP (G : List Fn) (elt : E) (t : T) (own : List Nat) (w : List D × Env) (ρ1 : Env) : R D := match mapP own t (evE G elt) w.1 w.2 with
  | some zs => if elt.pure && fits zs.length then .ok (.lst zs) ρ1 else .no
  | none => .no
@[simp] theorem s_compP (elt : E) (t : T) (it : I) (own : List Nat) (ρ : Env) : evE G (.compP elt t it own) ρ = (evS G it ρ).bind (kCompP G elt t own) := by simp only [evE] <;> rfl
def kBorS (q : Nat × List Sel) (ρ1 : Env) : R (List D × Env) := match getS (slot ρ1 q.1) q.2 with
  | some (.lst xs) => (match D.viewL xs with
    | some ds => .ok (ds.map borD, ρ1.set q.1 .dead) ρ1
    | none => .no)
  | _ => .no
@[simp] theorem s_sbor (p : P) (ρ : Env) : evS G (.bor p) ρ = (evP G p ρ).bind kBorS := by simp only [evS] <;> rfl
def kValS (x : D) (ρ1 : Env) : R (List D × Env) := match itemsV x with
  | some xs => .ok (xs, ρ1) ρ1
  | none => .no
@[simp] theorem s_sval (e : E) (ρ : Env) : evS G (.val e) ρ = (evE G e ρ).bind kValS := by simp only [evS] <;> rfl
@[simp] theorem s_comp (elt : E) (t : T) (it : I) (c : O) (own : List Nat) (ρ : Env) : evE G (.comp elt t it c own) ρ = (evI G it ρ).bind (kComp1 G elt t c own) := by simp only [evE] <;> rfl
@[simp] theorem kComp1_eq (elt : E) (t : T) (c : O) (own : List Nat) (xs : List D) (w : Option (Nat × D)) (ρ1 : Env) : kComp1 G elt t c own (xs, w) ρ1 = (compL own t (evC G c) (evE G elt) xs ρ1).bind (kComp2 w ρ1 own) := rfl
@[simp] theorem kComp2_eq (w : Option (Nat × D)) (ρ1 : Env) (own : List Nat) (ds : List PyData) (ρ : Env) : kComp2 w ρ1 own ds ρ = if fits ds.length then (match unlock w (backE ρ1 ρ own) with | some ρ3 => .ok (dl ds) ρ3 | none => .no) else .no := rfl
def kFrz (x : D) (ρ : Env) : R D := R.of (x.fz.map .dat) ρ
@[simp] theorem s_frz (a : E) (ρ : Env) : evE G (.frz a) ρ = (evE G a ρ).bind kFrz := by simp only [evE] <;> rfl
@[simp] theorem kFrz_eq (x : D) (ρ : Env) : kFrz x ρ = R.of (x.fz.map .dat) ρ := rfl
def kLrg (x : D) (ρ : Env) : R D := match x with | .dat (.int j) => if rngOk j && fits j.toNat then .ok (.lst (rngL 0 j.toNat)) ρ else .no | _ => .no
@[simp] theorem s_lrg (a : E) (ρ : Env) : evE G (.lrg a) ρ = (evE G a ρ).bind kLrg := by simp only [evE] <;> rfl
@[simp] theorem kLrg_int (j : Int) (ρ : Env) : kLrg (.dat (.int j)) ρ = if rngOk j && fits j.toNat then .ok (.lst (rngL 0 j.toNat)) ρ else .no := rfl
@[simp] theorem s_nil (ρ : Env) : evEs G .nil ρ = .ok [] ρ := by simp only [evEs]
def kCons2 (x : D) (xs : List D) (ρ : Env) : R (List D) := .ok (x :: xs) ρ
def kCons1 (G : List Fn) (r : Es) (x : D) (ρ : Env) : R (List D) := if x.ntr || r.pure then (evEs G r ρ).bind (kCons2 x) else .no
@[simp] theorem s_cons (e : E) (r : Es) (ρ : Env) : evEs G (.cons e r) ρ = (evE G e ρ).bind (kCons1 G r) := by simp only [evEs] <;> rfl
@[simp] theorem kCons1_eq (r : Es) (x : D) (ρ : Env) : kCons1 G r x ρ = if x.ntr || r.pure then (evEs G r ρ).bind (kCons2 x) else .no := rfl
@[simp] theorem kCons2_eq (x : D) (xs : List D) (ρ : Env) : kCons2 x xs ρ = .ok (x :: xs) ρ := rfl
@[simp] theorem s_cnone (ρ : Env) : evC G .none ρ = .ok (.dat (.bool true)) ρ := by simp only [evC]
@[simp] theorem s_csome (e : E) (ρ : Env) : evC G (.some e) ρ = evE G e ρ := by simp only [evC]
@[simp] theorem s_anil (ρ : Env) : evAs G .nil ρ = .ok [] ρ := by simp only [evAs]
def kA2 (a : Ar) (xs : List Ar) (ρ : Env) : R (List Ar) := .ok (a :: xs) ρ
@[simp] theorem kA2_eq (a : Ar) (xs : List Ar) (ρ : Env) : kA2 a xs ρ = .ok (a :: xs) ρ := rfl
def kAv (G : List Fn) (r : As) (x : D) (ρ : Env) : R (List Ar) := if x.ntr then (evAs G r ρ).bind (kA2 (.val x)) else .no
@[simp] theorem s_aval (e : E) (r : As) (ρ : Env) : evAs G (.val e r) ρ = (evE G e ρ).bind (kAv G r) := by simp only [evAs] <;> rfl
@[simp] theorem kAv_eq (r : As) (x : D) (ρ : Env) : kAv G r x ρ = if x.ntr then (evAs G r ρ).bind (kA2 (.val x)) else .no := rfl
def kAr (G : List Fn) (r : As) (q : Nat × List Sel) (ρ : Env) : R (List Ar) := if q.2.isEmpty || r.pure then (evAs G r ρ).bind (kA2 (.ref q.1 q.2)) else .no
@[simp] theorem s_aref (p : P) (r : As) (ρ : Env) : evAs G (.ref p r) ρ = (evP G p ρ).bind (kAr G r) := by simp only [evAs] <;> rfl
@[simp] theorem kAr_eq (r : As) (i : Nat) (sel : List Sel) (ρ : Env) : kAr G r (i, sel) ρ = if sel.isEmpty || r.pure then (evAs G r ρ).bind (kA2 (.ref i sel)) else .no := rfl
def kAl (G : List Fn) (r : As) (q : Nat × List Sel) (ρ : Env) : R (List Ar) := if q.2.isEmpty || r.pure then (evAs G r ρ).bind (kA2 (.look q.1 q.2)) else .no
@[simp] theorem s_alook (p : P) (r : As) (ρ : Env) : evAs G (.look p r) ρ = (evP G p ρ).bind (kAl G r) := by simp only [evAs] <;> rfl
@[simp] theorem kAl_eq (r : As) (i : Nat) (sel : List Sel) (ρ : Env) : kAl G r (i, sel) ρ = if sel.isEmpty || r.pure then (evAs G r ρ).bind (kA2 (.look i sel)) else .no := rfl
@[simp] theorem s_root (i : Nat) (ρ : Env) : evP G (.root i) ρ = if isDead (slot ρ i) then .no else .ok (i, []) ρ := by
  simp only [evP]
  cases slot ρ i <;> rfl
def kP2 (q : Nat × List Sel) (x : D) (ρ : Env) : R (Nat × List Sel) := match x with
    | .dat d => (match selD (getS (slot ρ q.1) q.2) d with
      | some sl => if isLive (getS (slot ρ q.1) (q.2 ++ [sl])) then .ok (q.1, q.2 ++ [sl]) ρ else .no
      | none => .no)
    | _ => .no
def kP1 (G : List Fn) (e : E) (q : Nat × List Sel) (ρ : Env) : R (Nat × List Sel) := if e.pure then (evE G e ρ).bind (kP2 q) else .no
@[simp] theorem s_idx (p : P) (e : E) (ρ : Env) : evP G (.idx p e) ρ = (evP G p ρ).bind (kP1 G e) := by simp only [evP] <;> rfl
@[simp] theorem kP1_eq (e : E) (q : Nat × List Sel) (ρ : Env) : kP1 G e q ρ = if e.pure then (evE G e ρ).bind (kP2 q) else .no := rfl
@[simp] theorem kP2_dat (i : Nat) (sel : List Sel) (d : PyData) (ρ : Env) : kP2 (i, sel) (.dat d) ρ = (match selD (getS (slot ρ i) sel) d with
      | some sl => if isLive (getS (slot ρ i) (sel ++ [sl])) then .ok (i, sel ++ [sl]) ρ else .no
      | none => .no) := rfl
def kFld (f : Str) (q : Nat × List Sel) (ρ : Env) : R (Nat × List Sel) := if isLive (getS (slot ρ q.1) (q.2 ++ [.fld f])) then .ok (q.1, q.2 ++ [.fld f]) ρ else .no
@[simp] theorem s_fld (p : P) (f : Str) (ρ : Env) : evP G (.fld p f) ρ = (evP G p ρ).bind (kFld f) := by simp only [evP] <;> rfl
@[simp] theorem kFld_eq (f : Str) (i : Nat) (sel : List Sel) (ρ : Env) : kFld f (i, sel) ρ = if isLive (getS (slot ρ i) (sel ++ [.fld f])) then .ok (i, sel ++ [.fld f]) ρ else .no := rfl
def kIv (x : D) (ρ : Env) : R (List D × Option (Nat × D)) := match itemsV x with | some xs => .ok (xs, none) ρ | none => .no
@[simp] theorem s_ival (e : E) (ρ : Env) : evI G (.val e) ρ = (evE G e ρ).bind kIv := by simp only [evI] <;> rfl
@[simp] theorem kIv_eq (x : D) (ρ : Env) : kIv x ρ = (match itemsV x with | some xs => .ok (xs, none) ρ | none => .no) := rfl
def kIr (q : Nat × List Sel) (ρ : Env) : R (List D × Option (Nat × D)) := match getS (slot ρ q.1) q.2 with
  | some (.lst xs) => (match D.dats xs with | some _ => .ok (xs, some (q.1, slot ρ q.1)) (ρ.set q.1 .dead) | none => .no)
  | _ => .no
@[simp] theorem s_iref (p : P) (ρ : Env) : evI G (.ref p) ρ = (evP G p ρ).bind kIr := by simp only [evI] <;> rfl
@[simp] theorem kIr_eq (i : Nat) (sel : List Sel) (ρ : Env) : kIr (i, sel) ρ = (match getS (slot ρ i) sel with
  | some (.lst xs) => (match D.dats xs with | some _ => .ok (xs, some (i, slot ρ i)) (ρ.set i .dead) | none => .no)
  | _ => .no) := rfl
def kRng1 (x : D) (ρ : Env) : R (List D × Option (Nat × D)) := match x with | .dat (.int j) => if rngOk j then .ok (rngL 0 j.toNat, none) ρ else .no | _ => .no
@[simp] theorem s_rng1 (a : E) (ρ : Env) : evI G (.rng1 a) ρ = (evE G a ρ).bind kRng1 := by simp only [evI] <;> rfl
@[simp] theorem kRng1_int (j : Int) (ρ : Env) : kRng1 (.dat (.int j)) ρ = if rngOk j then .ok (rngL 0 j.toNat, none) ρ else .no := rfl
def kRrng1 (x : D) (ρ : Env) : R (List D × Option (Nat × D)) := match x with | .dat (.int j) => if rngOk j then .ok (rrngL j.toNat, none) ρ else .no | _ => .no
@[simp] theorem s_rrng1 (a : E) (ρ : Env) : evI G (.rrng1 a) ρ = (evE G a ρ).bind kRrng1 := by simp only [evI] <;> rfl
@[simp] theorem kRrng1_int (j : Int) (ρ : Env) : kRrng1 (.dat (.int j)) ρ = if rngOk j then .ok (rrngL j.toNat, none) ρ else .no := rfl
-- statements
def kAsg (t : T) (x : D) (ρ : Env) : SR := if x.own then (match storeT t x ρ with | some ρ2 => .nx ρ2 | none => .no) else .no
@[simp] theorem x_asg (t : T) (e : E) (ρ : Env) : exS G (.asg t e) ρ = (evE G e ρ).sbind (kAsg t) := by simp only [exS] <;> rfl
@[simp] theorem kAsg_eq (t : T) (x : D) (ρ : Env) : kAsg t x ρ = if x.own then (match storeT t x ρ with | some ρ2 => .nx ρ2 | none => .no) else .no := rfl
def kPar (is : List Nat) (xs : List D) (ρ : Env) : SR := if D.ownL xs then (match storeT.storeL is xs ρ with | some ρ2 => .nx ρ2 | none => .no) else .no
@[simp] theorem x_par (is : List Nat) (es : Es) (ρ : Env) : exS G (.par is es) ρ = (evEs G es ρ).sbind (kPar is) := by simp only [exS] <;> rfl
@[simp] theorem kPar_eq (is : List Nat) (xs : List D) (ρ : Env) : kPar is xs ρ = if D.ownL xs then (match storeT.storeL is xs ρ with | some ρ2 => .nx ρ2 | none => .no) else .no := rfl
def kSet3 (x : D) (q : Nat × List Sel) (y : D) (ρ : Env) : SR := match getS (slot ρ q.1) q.2, y with
      | some (.lst xs), .dat (.int k) => (match L2.ixN xs.length k with
        | some j => (match putS (slot ρ q.1) q.2 (.lst (xs.set j x)) with
          | some d => .nx (ρ.set q.1 d)
          | none => .no)
        | none => .no)
      | some (.dct kvs), .dat k => (match keyE k with
        | some k => if decide (kvs.length < 16777216) then (match putS (slot ρ q.1) q.2 (.dct (aPut kvs k x)) with
          | some d => .nx (ρ.set q.1 d)
          | none => .no) else .no
        | none => .no)
      | _, _ => .no
/-- .. by what stands there -/
def kSetL (x : D) (i : Nat) (sel : List Sel) (k : PyData) (ρ : Env) (o : Option D) : SR := match o, k with
      | some (.lst xs), .int k => (match L2.ixN xs.length k with
        | some j => (match putS (slot ρ i) sel (.lst (xs.set j x)) with
          | some d => .nx (ρ.set i d)
          | none => .no)
        | none => .no)
      | some (.dct kvs), k => (match keyE k with
        | some k => if decide (kvs.length < 16777216) then (match putS (slot ρ i) sel (.dct (aPut kvs k x)) with
          | some d => .nx (ρ.set i d)
          | none => .no) else .no
        | none => .no)
      | _, _ => .no
def kSet2 (G : List Fn) (i : E) (x : D) (q : Nat × List Sel) (ρ : Env) : SR := if (q.2.isEmpty || i.pure) && x.own then (evE G i ρ).sbind (kSet3 x q) else .no
def kSet1 (G : List Fn) (p : P) (i : E) (x : D) (ρ : Env) : SR := (evP G p ρ).sbind (kSet2 G i x)
@[simp] theorem x_set (p : P) (i e : E) (ρ : Env) : exS G (.set p i e) ρ = (evE G e ρ).sbind (kSet1 G p i) := by simp only [exS] <;> rfl
@[simp] theorem kSet1_eq (p : P) (i : E) (x : D) (ρ : Env) : kSet1 G p i x ρ = (evP G p ρ).sbind (kSet2 G i x) := rfl
@[simp] theorem kSet2_eq (i : E) (x : D) (j : Nat) (sel : List Sel) (ρ : Env) : kSet2 G i x (j, sel) ρ = if (sel.isEmpty || i.pure) && x.own then (evE G i ρ).sbind (kSet3 x (j, sel)) else .no := rfl
@[simp] theorem kSet3_dat (x : D) (i : Nat) (sel : List Sel) (k : PyData) (ρ : Env) : kSet3 x (i, sel) (.dat k) ρ = kSetL x i sel k ρ (getS (slot ρ i) sel) := by
  unfold kSet3 kSetL
  cases getS (slot ρ i) sel with
  | none => rfl
  | some d => cases d <;> cases k <;> rfl
@[simp] theorem kSetL_lst (x : D) (i : Nat) (sel : List Sel) (k : Int) (ρ : Env) (xs : List D) : kSetL x i sel (.int k) ρ (some (.lst xs)) = (match L2.ixN xs.length k with
        | some j => (match putS (slot ρ i) sel (.lst (xs.set j x)) with
          | some d => .nx (ρ.set i d)
          | none => .no)
        | none => .no) := rfl
@[simp] theorem kSetL_dct (x : D) (i : Nat) (sel : List Sel) (k : PyData) (ρ : Env) (kvs : List (L2.Key × D)) : kSetL x i sel k ρ (some (.dct kvs)) = (match keyE k with
        | some k => if decide (kvs.length < 16777216) then (match putS (slot ρ i) sel (.dct (aPut kvs k x)) with
          | some d => .nx (ρ.set i d)
          | none => .no) else .no
        | none => .no) := by unfold kSetL; cases k <;> rfl
def kSetf2 (f : Str) (x : D) (q : Nat × List Sel) (ρ : Env) : SR := match getS (slot ρ q.1) q.2 with
      | some (.ins C fs) => if decide (fs.length < 1000) then (match putS (slot ρ q.1) q.2 (.ins C (aPut fs f x)) with
        | some d => .nx (ρ.set q.1 d)
        | none => .no) else .no
      | _ => .no
def kSetf1 (G : List Fn) (p : P) (f : Str) (x : D) (ρ : Env) : SR := if x.own then (evP G p ρ).sbind (kSetf2 f x) else .no
@[simp] theorem x_setf (p : P) (f : Str) (e : E) (ρ : Env) : exS G (.setf p f e) ρ = (evE G e ρ).sbind (kSetf1 G p f) := by simp only [exS] <;> rfl
@[simp] theorem kSetf1_eq (p : P) (f : Str) (x : D) (ρ : Env) : kSetf1 G p f x ρ = if x.own then (evP G p ρ).sbind (kSetf2 f x) else .no := rfl
@[simp] theorem kSetf2_eq (f : Str) (x : D) (i : Nat) (sel : List Sel) (ρ : Env) : kSetf2 f x (i, sel) ρ = (match getS (slot ρ i) sel with
      | some (.ins C fs) => if decide (fs.length < 1000) then (match putS (slot ρ i) sel (.ins C (aPut fs f x)) with
        | some d => .nx (ρ.set i d)
        | none => .no) else .no
      | _ => .no) := rfl
def kDset3 (x : D) (q : Nat × List Sel) (y : D) (ρ : Env) : SR := match x, getS (slot ρ q.1) q.2, y with
      | .dat x, some (.dtt kvs), .dat k => if tkey k && decide (kvs.length < 16777216) then (match putS (slot ρ q.1) q.2 (.dtt (aPut kvs k x)) with
        | some d => .nx (ρ.set q.1 d)
        | none => .no) else .no
      | _, _, _ => .no
def kDset2 (G : List Fn) (k : E) (x : D) (q : Nat × List Sel) (ρ : Env) : SR := if q.2.isEmpty || k.pure then (evE G k ρ).sbind (kDset3 x q) else .no
def kDset1 (G : List Fn) (p : P) (k : E) (x : D) (ρ : Env) : SR := (evP G p ρ).sbind (kDset2 G k x)
@[simp] theorem x_dset (p : P) (k e : E) (ρ : Env) : exS G (.dset p k e) ρ = (evE G e ρ).sbind (kDset1 G p k) := by simp only [exS] <;> rfl
@[simp] theorem kDset1_eq (p : P) (k : E) (x : D) (ρ : Env) : kDset1 G p k x ρ = (evP G p ρ).sbind (kDset2 G k x) := rfl
@[simp] theorem kDset2_eq (k : E) (x : D) (i : Nat) (sel : List Sel) (ρ : Env) : kDset2 G k x (i, sel) ρ = if sel.isEmpty || k.pure then (evE G k ρ).sbind (kDset3 x (i, sel)) else .no := rfl
def kDsetT (x : PyData) (i : Nat) (sel : List Sel) (k : PyData) (ρ : Env) (o : Option D) : SR := match o with
      | some (.dtt kvs) => if tkey k && decide (kvs.length < 16777216) then (match putS (slot ρ i) sel (.dtt (aPut kvs k x)) with
        | some d => .nx (ρ.set i d)
        | none => .no) else .no
      | _ => .no
@[simp] theorem kDset3_dat (x : PyData) (i : Nat) (sel : List Sel) (k : PyData) (ρ : Env) : kDset3 (.dat x) (i, sel) (.dat k) ρ = kDsetT x i sel k ρ (getS (slot ρ i) sel) := by
  unfold kDset3 kDsetT
  cases getS (slot ρ i) sel with
  | none => rfl
  | some d => cases d <;> rfl
@[simp] theorem kDsetT_dtt (x : PyData) (i : Nat) (sel : List Sel) (k : PyData) (ρ : Env) (kvs : List (PyData × PyData)) : kDsetT x i sel k ρ (some (.dtt kvs)) = if tkey k && decide (kvs.length < 16777216) then (match putS (slot ρ i) sel (.dtt (aPut kvs k x)) with
        | some d => .nx (ρ.set i d)
        | none => .no) else .no := rfl
def kEx (x : D) (ρ : Env) : SR := .nx ρ
@[simp] theorem x_ex (e : E) (ρ : Env) : exS G (.ex e) ρ = (evE G e ρ).sbind kEx := by simp only [exS] <;> rfl
@[simp] theorem kEx_eq (x : D) (ρ : Env) : kEx x ρ = .nx ρ := rfl
def kRet (x : D) (ρ : Env) : SR := if x.own then .rt x ρ else .no
@[simp] theorem x_ret (e : E) (ρ : Env) : exS G (.ret e) ρ = (evE G e ρ).sbind kRet := by simp only [exS] <;> rfl
@[simp] theorem kRet_eq (x : D) (ρ : Env) : kRet x ρ = if x.own then .rt x ρ else .no := rfl
@[simp] theorem x_retN (ρ : Env) : exS G .retN ρ = .rt (.dat .none) ρ := by simp only [exS]
def kIfs (G : List Fn) (a b : Ss) (x : D) (ρ : Env) : SR := kIf x (exSs G a ρ) (exSs G b ρ) .no
@[simp] theorem x_ifs (c : E) (a b : Ss) (ρ : Env) : exS G (.ifs c a b) ρ = (evE G c ρ).sbind (kIfs G a b) := by simp only [exS] <;> rfl
@[simp] theorem kIfs_b (a b : Ss) (k : Bool) (ρ : Env) : kIfs G a b (.dat (.bool k)) ρ = if k = true then exSs G a ρ else exSs G b ρ := kIf_b ..
def kFor (G : List Fn) (t : T) (b : Ss) (w : List D × Option (Nat × D)) (ρ : Env) : SR := if w.2.all (fun y => !(t.slots ++ b.asgs).contains y.1) then (forL t (exSs G b) w.1 ρ).unlock w.2 else .no
def kForB (G : List Fn) (t : T) (b : Ss) (q : Nat × List Sel) (ρ1 : Env) : SR := match getS (slot ρ1 q.1) q.2 with
      | some (.lst xs) => (match D.viewL xs with
        | some ds => if !(t.slots ++ b.asgs).contains q.1 then (forL t (exSs G b) (ds.map borD) (ρ1.set q.1 .dead)).shutB q.1 (slot ρ1 q.1) else .no
        | none => .no)
      | _ => .no
@[simp] theorem x_forB (t : T) (p : P) (b : Ss) (ρ : Env) : exS G (.forB t p b) ρ = (evP G p ρ).sbind (kForB G t b) := by simp only [exS] <;> rfl
@[simp] theorem x_for (t : T) (it : I) (b : Ss) (ρ : Env) : exS G (.fors t it b) ρ = (evI G it ρ).sbind (kFor G t b) := by simp only [exS] <;> rfl
@[simp] theorem kFor_none (t : T) (b : Ss) (xs : List D) (ρ : Env) : kFor G t b (xs, none) ρ = forL t (exSs G b) xs ρ := by
  unfold kFor
  simp only [Option.all_none, if_true]
  cases forL t (exSs G b) xs ρ <;> rfl
theorem kFor_some (t : T) (b : Ss) (xs : List D) (i : Nat) (d : D) (ρ : Env) : kFor G t b (xs, some (i, d)) ρ = if !(t.slots ++ b.asgs).contains i then (forL t (exSs G b) xs ρ).unlock (some (i, d)) else .no := rfl
@[simp] theorem x_whl (c : E) (b : Ss) (ρ : Env) : exS G (.whl c b) ρ = whileU (evE G c) (exSs G b) ρ := by simp only [exS]
@[simp] theorem x_nil (ρ : Env) : exSs G .nil ρ = .nx ρ := by simp only [exSs]
@[simp] theorem x_cons (s : S) (r : Ss) (ρ : Env) : exSs G (.cons s r) ρ = (exS G s ρ).bind (exSs G r) := by simp only [exSs]
@[simp] theorem s_glo (x : Str) (d : PyData) (ρ : Env) : evE G (.glo x d) ρ = .ok (.dat d) ρ := by simp only [evE]
def kChn3 (o' : CmpOp) (y : PyData) (z : D) (ρ : Env) : R D := match z with | .dat z => R.of ((cmpD o' y z).map fun k => .dat (.bool k)) ρ | _ => .no
def kChn2 (G : List Fn) (o o' : CmpOp) (c : E) (x y : D) (ρ : Env) : R D := match x, y with
  | .dat x, .dat y => (match cmpD o x y with
    | some true => (evE G c ρ).bind (kChn3 o' y)
    | some false => .ok (.dat (.bool false)) ρ
    | none => .no)
  | _, _ => .no
def kChn1 (G : List Fn) (o o' : CmpOp) (b c : E) (x : D) (ρ : Env) : R D := (evE G b ρ).bind (kChn2 G o o' c x)
@[simp] theorem s_chn (o o' : CmpOp) (a b c : E) (ρ : Env) : evE G (.chn o o' a b c) ρ = (evE G a ρ).bind (kChn1 G o o' b c) := by simp only [evE] <;> rfl
@[simp] theorem kChn1_eq (o o' : CmpOp) (b c : E) (x : D) (ρ : Env) : kChn1 G o o' b c x ρ = (evE G b ρ).bind (kChn2 G o o' c x) := rfl
@[simp] theorem kChn2_dat (o o' : CmpOp) (c : E) (x y : PyData) (ρ : Env) : kChn2 G o o' c (.dat x) (.dat y) ρ = (match cmpD o x y with
    | some true => (evE G c ρ).bind (kChn3 o' y)
    | some false => .ok (.dat (.bool false)) ρ
    | none => .no) := rfl
@[simp] theorem kChn3_dat (o' : CmpOp) (y z : PyData) (ρ : Env) : kChn3 o' y (.dat z) ρ = R.of ((cmpD o' y z).map fun k => .dat (.bool k)) ρ := rfl
def kRev (x : D) (ρ : Env) : R D := match x with
  | .dat (.tuple xs) => .ok (.dat (.tuple xs.reverse)) ρ
  | x => (match x.fz with
    | some (.list xs) => .ok (dl xs.reverse) ρ
    | _ => .no)
@[simp] theorem s_rev (a : E) (ρ : Env) : evE G (.rev a) ρ = (evE G a ρ).bind kRev := by simp only [evE] <;> rfl
@[simp] theorem kRev_tup (xs : List PyData) (ρ : Env) : kRev (.dat (.tuple xs)) ρ = .ok (.dat (.tuple xs.reverse)) ρ := rfl
def kMt2 (m : Mt) (x : D) (ys : List D) (ρ : Env) : R D := match x.view, D.viewL ys with
    | some x, some ys => R.of (mtD m x ys) ρ
    | _, _ => .no
def kMt1 (G : List Fn) (m : Mt) (es : Es) (x : D) (ρ : Env) : R D := if (x.ntr || es.pure) && mtTy m x.view then (evEs G es ρ).bind (kMt2 m x) else .no
@[simp] theorem s_mt (m : Mt) (a : E) (es : Es) (ρ : Env) : evE G (.mt m a es) ρ = (evE G a ρ).bind (kMt1 G m es) := by simp only [evE] <;> rfl
@[simp] theorem kMt1_eq (m : Mt) (es : Es) (x : D) (ρ : Env) : kMt1 G m es x ρ = if (x.ntr || es.pure) && mtTy m x.view then (evEs G es ρ).bind (kMt2 m x) else .no := rfl
@[simp] theorem kMt2_eq (m : Mt) (x : D) (ys : List D) (ρ : Env) : kMt2 m x ys ρ = (match x.view, D.viewL ys with
    | some x, some ys => R.of (mtD m x ys) ρ
    | _, _ => .no) := rfl
def kTrg (x : D) (ρ : Env) : R D := match x with | .dat (.int j) => if rngOk j && fits j.toNat then .ok (.dat (.tuple ((List.range j.toNat).map fun (k : Nat) => .int (k : Int)))) ρ else .no | _ => .no
@[simp] theorem s_trg (a : E) (ρ : Env) : evE G (.trg a) ρ = (evE G a ρ).bind kTrg := by simp only [evE] <;> rfl
@[simp] theorem kTrg_int (j : Int) (ρ : Env) : kTrg (.dat (.int j)) ρ = if rngOk j && fits j.toNat then .ok (.dat (.tuple ((List.range j.toNat).map fun (k : Nat) => .int (k : Int)))) ρ else .no := rfl
@[simp] theorem s_isx (i : Nat) (ups : List Str) (ρ : Env) : evE G (.isx i ups) ρ = (match slot ρ i with | .exc C _ => .ok (.dat (.bool (ups.contains C))) ρ | _ => .no) := by simp only [evE] <;> rfl
@[simp] theorem s_xf (i : Nat) (f : Str) (ρ : Env) : evE G (.xf i f) ρ = (match slot ρ i with | .exc _ fs => R.of ((fs.lookup f).map .dat) ρ | _ => .no) := by simp only [evE] <;> rfl
def kRng2b (x y : D) (ρ : Env) : R (List D × Option (Nat × D)) := match x, y with
    | .dat (.int i), .dat (.int j) => if rngOk i && rngOk j then .ok (rngL i (j - i).toNat, none) ρ else .no
    | _, _ => .no
def kRng2 (G : List Fn) (b : E) (x : D) (ρ : Env) : R (List D × Option (Nat × D)) := (evE G b ρ).bind (kRng2b x)
@[simp] theorem s_rng2 (a b : E) (ρ : Env) : evI G (.rng2 a b) ρ = (evE G a ρ).bind (kRng2 G b) := by simp only [evI] <;> rfl
@[simp] theorem kRng2_eq (b : E) (x : D) (ρ : Env) : kRng2 G b x ρ = (evE G b ρ).bind (kRng2b x) := rfl
@[simp] theorem kRng2b_int (i j : Int) (ρ : Env) : kRng2b (.dat (.int i)) (.dat (.int j)) ρ = if rngOk i && rngOk j then .ok (rngL i (j - i).toNat, none) ρ else .no := rfl
@[simp] theorem x_kill (i : Nat) (ρ : Env) : exS G (.kill i) ρ = .nx (ρ.set i .dead) := by simp only [exS]
@[simp] theorem x_freeze (i : Nat) (ρ : Env) : exS G (.freeze i) ρ = (match (slot ρ i).fz with
    | some d => if i < ρ.length then .nx (ρ.set i (.dat d)) else .no
    | none => .no) := by simp only [exS] <;> rfl
def kRse (C : Str) (fs : List Str) (xs : List D) (ρ : Env) : SR := match D.fzL xs with
    | some ds => (match excF fs ds with
      | some gs => .ex (.exc C gs) ρ
      | none => .no)
    | none => .no
@[simp] theorem x_rse (C : Str) (fs : List Str) (es : Es) (ρ : Env) : exS G (.rse C fs es) ρ = (evEs G es ρ).sbind (kRse C fs) := by simp only [exS] <;> rfl
@[simp] theorem kRse_eq (C : Str) (fs : List Str) (xs : List D) (ρ : Env) : kRse C fs xs ρ = (match D.fzL xs with
    | some ds => (match excF fs ds with
      | some gs => .ex (.exc C gs) ρ
      | none => .no)
    | none => .no) := rfl
def kTri (G : List Fn) (x : Option Nat) (ups : List Str) (s : Ss) : SR → SR
  | .ex (.exc C fs) ρ1 => if ups.contains C then (match x with
        | some i => if i < ρ1.length && D.nexL ρ1 then (exSs G s (ρ1.set i (.exc C fs))).suite x else .no
        | none => (exSs G s ρ1).suite none) else .ex (.exc C fs) ρ1
  | r => r
@[simp] theorem x_tri (b : Ss) (x : Option Nat) (C : Str) (ups : List Str) (s : Ss) (ρ : Env) : exS G (.tri b x C ups s) ρ = kTri G x ups s (exSs G b ρ) := by simp only [exS] <;> rfl
@[simp] theorem kTri_nx (x : Option Nat) (ups : List Str) (s : Ss) (ρ : Env) : kTri G x ups s (.nx ρ) = .nx ρ := rfl
@[simp] theorem kTri_rt (x : Option Nat) (ups : List Str) (s : Ss) (d : D) (ρ : Env) : kTri G x ups s (.rt d ρ) = .rt d ρ := rfl
@[simp] theorem kTri_ex (x : Option Nat) (ups : List Str) (s : Ss) (C : Str) (fs : List (Str × PyData)) (ρ1 : Env) : kTri G x ups s (.ex (.exc C fs) ρ1) = if ups.contains C then (match x with
        | some i => if i < ρ1.length && D.nexL ρ1 then (exSs G s (ρ1.set i (.exc C fs))).suite x else .no
        | none => (exSs G s ρ1).suite none) else .ex (.exc C fs) ρ1 := rfl
@[simp] theorem kBack_ex (bs : List (Option Back)) (ρ : Env) (x : D) (outs : Env) : kBack bs ρ (.ex x outs) = (match putBack bs outs ρ with | some ρ2 => .ex x ρ2 | none => .no) := rfl
-- dicts, objects
def kDcK (ks : List L2.Key) (xs : List D) (ρ : Env) : R D := if decide (xs.length = ks.length) && decide (ks.length ≤ 15) && decide ks.Nodup && D.ntrL xs then .ok (.dct (ks.zip xs)) ρ else .no
@[simp] theorem s_dcK (ks : List L2.Key) (es : Es) (ρ : Env) : evE G (.dcK ks es) ρ = (evEs G es ρ).bind (kDcK ks) := by simp only [evE] <;> rfl
@[simp] theorem kDcK_eq (ks : List L2.Key) (xs : List D) (ρ : Env) : kDcK ks xs ρ = if decide (xs.length = ks.length) && decide (ks.length ≤ 15) && decide ks.Nodup && D.ntrL xs then .ok (.dct (ks.zip xs)) ρ else .no := rfl
@[simp] theorem s_dtE (ρ : Env) : evE G .dtE ρ = .ok (.dtt []) ρ := by simp only [evE]
def kDt2 (x y : D) (ρ : Env) : R D := match x, y with
    | .dat x, .dat y => if tkey x then .ok (.dtt [(x, y)]) ρ else .no
    | _, _ => .no
def kDt1 (G : List Fn) (v : E) (x : D) (ρ : Env) : R D := (evE G v ρ).bind (kDt2 x)
@[simp] theorem s_dt1 (k v : E) (ρ : Env) : evE G (.dt1 k v) ρ = (evE G k ρ).bind (kDt1 G v) := by simp only [evE] <;> rfl
@[simp] theorem kDt1_eq (v : E) (x : D) (ρ : Env) : kDt1 G v x ρ = (evE G v ρ).bind (kDt2 x) := rfl
@[simp] theorem kDt2_dat (x y : PyData) (ρ : Env) : kDt2 (.dat x) (.dat y) ρ = if tkey x then .ok (.dtt [(x, y)]) ρ else .no := rfl
def kDgetT (x : PyData) (ρ : Env) (o : Option D) : R D := match o with
    | some (.dtt kvs) => if tkey x then R.of ((aGet kvs x).map .dat) ρ else .no
    | _ => .no
def kDget2 (q : Nat × List Sel) (x : D) (ρ : Env) : R D := match getS (slot ρ q.1) q.2, x with
    | some (.dtt kvs), .dat x => if tkey x then R.of ((aGet kvs x).map .dat) ρ else .no
    | _, _ => .no
def kDget1 (G : List Fn) (k : E) (q : Nat × List Sel) (ρ : Env) : R D := if q.2.isEmpty || k.pure then (evE G k ρ).bind (kDget2 q) else .no
@[simp] theorem s_dget (p : P) (k : E) (ρ : Env) : evE G (.dget p k) ρ = (evP G p ρ).bind (kDget1 G k) := by simp only [evE] <;> rfl
@[simp] theorem kDget1_eq (k : E) (i : Nat) (sel : List Sel) (ρ : Env) : kDget1 G k (i, sel) ρ = if sel.isEmpty || k.pure then (evE G k ρ).bind (kDget2 (i, sel)) else .no := rfl
@[simp] theorem kDget2_dat (i : Nat) (sel : List Sel) (x : PyData) (ρ : Env) : kDget2 (i, sel) (.dat x) ρ = kDgetT x ρ (getS (slot ρ i) sel) := by
  unfold kDget2 kDgetT
  cases getS (slot ρ i) sel with
  | none => rfl
  | some d => cases d <;> rfl
@[simp] theorem kDgetT_dtt (x : PyData) (ρ : Env) (kvs : List (PyData × PyData)) : kDgetT x ρ (some (.dtt kvs)) = if tkey x then R.of ((aGet kvs x).map .dat) ρ else .no := rfl
def kIn2 (neg : Bool) (x : D) (q : Nat × List Sel) (ρ : Env) : R D := match x with
    | .dat x => R.of ((dHas (getS (slot ρ q.1) q.2) x).map fun b => .dat (.bool (if neg then !b else b))) ρ
    | _ => .no
def kIn1 (G : List Fn) (neg : Bool) (p : P) (x : D) (ρ : Env) : R D := (evP G p ρ).bind (kIn2 neg x)
@[simp] theorem s_inD (neg : Bool) (k : E) (p : P) (ρ : Env) : evE G (.inD neg k p) ρ = (evE G k ρ).bind (kIn1 G neg p) := by simp only [evE] <;> rfl
@[simp] theorem kIn1_eq (neg : Bool) (p : P) (x : D) (ρ : Env) : kIn1 G neg p x ρ = (evP G p ρ).bind (kIn2 neg x) := rfl
@[simp] theorem kIn2_dat (neg : Bool) (x : PyData) (i : Nat) (sel : List Sel) (ρ : Env) : kIn2 neg (.dat x) (i, sel) ρ = R.of ((dHas (getS (slot ρ i) sel) x).map fun b => .dat (.bool (if neg then !b else b))) ρ := rfl
def kGet3 (q : Nat × List Sel) (x y : D) (ρ : Env) : R D := match x, y with
    | .dat x, .dat y => R.of ((dGet2 (getS (slot ρ q.1) q.2) x y).map .dat) ρ
    | _, _ => .no
def kGet2 (G : List Fn) (d : E) (q : Nat × List Sel) (x : D) (ρ : Env) : R D := (evE G d ρ).bind (kGet3 q x)
def kGet1 (G : List Fn) (k d : E) (q : Nat × List Sel) (ρ : Env) : R D := if isDct (getS (slot ρ q.1) q.2) && (q.2.isEmpty || (k.pure && d.pure)) then (evE G k ρ).bind (kGet2 G d q) else .no
@[simp] theorem s_get2 (p : P) (k d : E) (ρ : Env) : evE G (.get2 p k d) ρ = (evP G p ρ).bind (kGet1 G k d) := by simp only [evE] <;> rfl
@[simp] theorem kGet1_eq (k d : E) (i : Nat) (sel : List Sel) (ρ : Env) : kGet1 G k d (i, sel) ρ = if isDct (getS (slot ρ i) sel) && (sel.isEmpty || (k.pure && d.pure)) then (evE G k ρ).bind (kGet2 G d (i, sel)) else .no := rfl
@[simp] theorem kGet2_eq (d : E) (q : Nat × List Sel) (x : D) (ρ : Env) : kGet2 G d q x ρ = (evE G d ρ).bind (kGet3 q x) := rfl
@[simp] theorem kGet3_dat (i : Nat) (sel : List Sel) (x y : PyData) (ρ : Env) : kGet3 (i, sel) (.dat x) (.dat y) ρ = R.of ((dGet2 (getS (slot ρ i) sel) x y).map .dat) ρ := rfl
def kNew (C : Str) (F : Fn) (xs : List Ar) (ρ : Env) : R D := newF C F xs ρ
@[simp] theorem s_new (n : Nat) (C : Str) (as : As) (ρ : Env) : evE G (.new n C as) ρ = (evAs G as ρ).bind (kNew C (fnAt G n)) := by simp only [evE] <;> rfl
def kMc2 (F : Fn) (q : Nat × List Sel) (xs : List Ar) (ρ : Env) : R D := callF F false (.ref q.1 q.2 :: xs) ρ
def kMc1 (G : List Fn) (n : Nat) (C m : Str) (as : As) (q : Nat × List Sel) (ρ : Env) : R D := if isIns C m (getS (slot ρ q.1) q.2) && (q.2.isEmpty || as.pure) then (evAs G as ρ).bind (kMc2 (fnAt G n) q) else .no
@[simp] theorem s_mcall (n : Nat) (C m : Str) (p : P) (as : As) (ρ : Env) : evE G (.mcall n C m p as) ρ = (evP G p ρ).bind (kMc1 G n C m as) := by simp only [evE] <;> rfl
@[simp] theorem kMc1_eq (n : Nat) (C m : Str) (as : As) (i : Nat) (sel : List Sel) (ρ : Env) : kMc1 G n C m as (i, sel) ρ = if isIns C m (getS (slot ρ i) sel) && (sel.isEmpty || as.pure) then (evAs G as ρ).bind (kMc2 (fnAt G n) (i, sel)) else .no := rfl
@[simp] theorem kMc2_eq (F : Fn) (i : Nat) (sel : List Sel) (xs : List Ar) (ρ : Env) : kMc2 F (i, sel) xs ρ = kCall F false (.ref i sel :: xs) ρ := rfl
def kSrt (q : Nat × List Sel) (ρ : Env) : R D := match getS (slot ρ q.1) q.2 with
    | some (.dtt kvs) => R.of (sortD false [.list (kvs.map (·.1))]) ρ
    | _ => .no
@[simp] theorem s_srtD (p : P) (ρ : Env) : evE G (.srtD p) ρ = (evP G p ρ).bind kSrt := by simp only [evE] <;> rfl
@[simp] theorem kSrt_eq (i : Nat) (sel : List Sel) (ρ : Env) : kSrt (i, sel) ρ = (match getS (slot ρ i) sel with
    | some (.dtt kvs) => R.of (sortD false [.list (kvs.map (·.1))]) ρ
    | _ => .no) := rfl
def kTupP (q : Nat × List Sel) (ρ : Env) : R D := match getS (slot ρ q.1) q.2 with
    | some (.lst xs) => R.of ((D.dats xs).map fun ds => .dat (.tuple ds)) ρ
    | _ => .no
@[simp] theorem s_tupP (p : P) (ρ : Env) : evE G (.tupP p) ρ = (evP G p ρ).bind kTupP := by simp only [evE] <;> rfl
@[simp] theorem kTupP_eq (i : Nat) (sel : List Sel) (ρ : Env) : kTupP (i, sel) ρ = (match getS (slot ρ i) sel with
    | some (.lst xs) => R.of ((D.dats xs).map fun ds => .dat (.tuple ds)) ρ
    | _ => .no) := rfl
def kFldE (f : Str) (x : D) (ρ : Env) : R D := match x with
    | .ins _ fs => (match aGet fs f with
      | some d => if d.ntr then .ok d ρ else .no
      | none => .no)
    | _ => .no
@[simp] theorem s_fldE (e : E) (f : Str) (ρ : Env) : evE G (.fldE e f) ρ = (evE G e ρ).bind (kFldE f) := by simp only [evE] <;> rfl
@[simp] theorem kFldE_eq (f C : Str) (fs : List (Str × D)) (ρ : Env) : kFldE f (.ins C fs) ρ = (match aGet fs f with
      | some d => if d.ntr then .ok d ρ else .no
      | none => .no) := rfl
def kRdx2 (q : Nat × List Sel) (x : D) (ρ : Env) : R D := match x with
    | .dat x => (match selD (getS (slot ρ q.1) q.2) x with
      | some sl => (match getS (slot ρ q.1) (q.2 ++ [sl]) with
        | some (.dat d) => .ok (.dat d) ρ
        | _ => .no)
      | none => .no)
    | _ => .no
def kRdx1 (G : List Fn) (e : E) (q : Nat × List Sel) (ρ : Env) : R D := if q.2.isEmpty || e.pure then (evE G e ρ).bind (kRdx2 q) else .no
@[simp] theorem s_rdx (p : P) (e : E) (ρ : Env) : evE G (.rdx p e) ρ = (evP G p ρ).bind (kRdx1 G e) := by simp only [evE] <;> rfl
@[simp] theorem kRdx1_eq (e : E) (i : Nat) (sel : List Sel) (ρ : Env) : kRdx1 G e (i, sel) ρ = if sel.isEmpty || e.pure then (evE G e ρ).bind (kRdx2 (i, sel)) else .no := rfl
@[simp] theorem kRdx2_dat (i : Nat) (sel : List Sel) (x : PyData) (ρ : Env) : kRdx2 (i, sel) (.dat x) ρ = (match selD (getS (slot ρ i) sel) x with
      | some sl => (match getS (slot ρ i) (sel ++ [sl]) with
        | some (.dat d) => .ok (.dat d) ρ
        | _ => .no)
      | none => .no) := rfl
def kZip2 (x y : D) (ρ : Env) : R (List D × Option (Nat × D)) := match datsV x, datsV y with
    | some xs, some ys => if isTupV x == isTupV y then .ok (zipL xs ys, none) ρ else .no
    | _, _ => .no
def kZip1 (G : List Fn) (b : E) (x : D) (ρ : Env) : R (List D × Option (Nat × D)) := if x.ntr then (evE G b ρ).bind (kZip2 x) else .no
@[simp] theorem s_zip (a b : E) (ρ : Env) : evI G (.zip a b) ρ = (evE G a ρ).bind (kZip1 G b) := by simp only [evI] <;> rfl
@[simp] theorem kZip1_eq (b : E) (x : D) (ρ : Env) : kZip1 G b x ρ = if x.ntr then (evE G b ρ).bind (kZip2 x) else .no := rfl
@[simp] theorem kZip2_eq (x y : D) (ρ : Env) : kZip2 x y ρ = (match datsV x, datsV y with
    | some xs, some ys => if isTupV x == isTupV y then .ok (zipL xs ys, none) ρ else .no
    | _, _ => .no) := rfl
def kEnum (x : D) (ρ : Env) : R (List D × Option (Nat × D)) := match datsV x with
    | some xs => if isTupV x then .no else .ok (enumL xs, none) ρ
    | _ => .no
@[simp] theorem s_enum (a : E) (ρ : Env) : evI G (.enum a) ρ = (evE G a ρ).bind kEnum := by simp only [evI] <;> rfl
@[simp] theorem kEnum_eq (x : D) (ρ : Env) : kEnum x ρ = (match datsV x with
    | some xs => if isTupV x then .no else .ok (enumL xs, none) ρ
    | _ => .no) := rfl
def kRevd (x : D) (ρ : Env) : R (List D × Option (Nat × D)) := match datsV x with
    | some xs => .ok (xs.reverse.map .dat, none) ρ
    | _ => .no
@[simp] theorem s_revd (a : E) (ρ : Env) : evI G (.revd a) ρ = (evE G a ρ).bind kRevd := by simp only [evI] <;> rfl
@[simp] theorem kRevd_eq (x : D) (ρ : Env) : kRevd x ρ = (match datsV x with
    | some xs => .ok (xs.reverse.map .dat, none) ρ
    | _ => .no) := rfl
def kKeys (q : Nat × List Sel) (ρ : Env) : R (List D × Option (Nat × D)) := match getS (slot ρ q.1) q.2 with
    | some (.dtt kvs) => .ok (kvs.map fun kv => .dat kv.1, some (q.1, slot ρ q.1)) (ρ.set q.1 .dead)
    | _ => .no
@[simp] theorem s_keys (p : P) (ρ : Env) : evI G (.keys p) ρ = (evP G p ρ).bind kKeys := by simp only [evI] <;> rfl
@[simp] theorem kKeys_eq (i : Nat) (sel : List Sel) (ρ : Env) : kKeys (i, sel) ρ = (match getS (slot ρ i) sel with
    | some (.dtt kvs) => .ok (kvs.map fun kv => .dat kv.1, some (i, slot ρ i)) (ρ.set i .dead)
    | _ => .no) := rfl
end
end DE
end

section
set_option Elab.async false
set_option linter.all false
/-! PL0: what repr tells of small data. -/
namespace DE
open PySem

theorem strOk_append (x y : Str) : PyData.strOk (x ++ y) = (PyData.strOk x && PyData.strOk y) := by
  show (x.cps ++ y.cps).all _ = _
  rw [Array.all_append]; rfl
theorem strOk_of (s : String) : PyData.strOk (Str.ofString s) = true := by
  unfold PyData.strOk
  rw [Str.ofString_eq_toList]
  rw [Array.all_eq_true']
  intro c hc
  have hc' : c ∈ s.toList.map Char.toNat := by simpa using hc
  obtain ⟨k, _, rfl⟩ := List.mem_map.mp hc'
  have h := k.valid
  simp only [UInt32.isValidChar, Nat.isValidChar] at h
  have ht : k.toNat = k.val.toNat := rfl
  rw [ht]
  exact decide_eq_true (by omega)
theorem strOk_join (sep : Str) (hs : PyData.strOk sep = true) : ∀ xs : List Str, (∀ x ∈ xs, PyData.strOk x = true) → PyData.strOk (Str.join sep xs) = true
  | [], _ => by show PyData.strOk Str.empty = true; decide +kernel
  | [x], h => h x (by simp)
  | x :: y :: r, h => by
    show PyData.strOk (x ++ sep ++ Str.join sep (y :: r)) = true
    rw [strOk_append, strOk_append, h x (by simp), hs, strOk_join sep hs (y :: r) fun z hz => h z (List.mem_cons_of_mem _ hz)]; rfl
mutual
/-- small data, without dicts -/
def rOk : PyData → Bool
  | .none => true
  | .bool _ => true
  | .int i => decide (i.natAbs < 10 ^ 200)
  | .str x => PyData.strOk (reprText x)
  | .list xs => rOkL xs
  | .tuple xs => rOkL xs
  | .dict _ => false
def rOkL : List PyData → Bool
  | [] => true
  | x :: xs => rOk x && rOkL xs
end
mutual
def wid : PyData → Nat
  | .none => 4
  | .bool _ => 5
  | .int _ => 201
  | .str x => (reprText x).length
  | .list xs => widL xs + 3
  | .tuple xs => widL xs + 3
  | .dict _ => 0
def widL : List PyData → Nat
  | [] => 0
  | x :: xs => wid x + 2 + widL xs
end
theorem ofString_length (s : String) : (Str.ofString s).length = s.length := by
  rw [Str.ofString_eq_toList]
  show (s.toList.map Char.toNat).toArray.size = _
  simp only [List.size_toArray, List.length_map]
  first | exact String.length_toList | rfl | simp
theorem shownAll_map : ∀ xs : List PyData, PyData.shownAll xs = xs.map PyData.shown
  | [] => by simp only [PyData.shownAll]; rfl
  | x :: xs => by simp only [PyData.shownAll]; rw [shownAll_map xs]; rfl
mutual
theorem shown_ok : ∀ {d : PyData}, rOk d = true → PyData.strOk d.shown = true
  | .none, _ => by simp only [PyData.shown]; exact strOk_of _
  | .bool b, _ => by simp only [PyData.shown]; cases b <;> exact strOk_of _
  | .int i, _ => by simp only [PyData.shown]; exact strOk_of _
  | .str x, h => by simp only [PyData.shown]; exact h
  | .list xs, h => by
    simp only [PyData.shown]
    rw [listText_eq_join, strOk_append, strOk_append, strOk_of, strOk_of, strOk_join _ (strOk_of _) _ fun s hs => shownL_ok (by simpa only [rOk] using h) s hs]; rfl
  | .tuple xs, h => by
    simp only [PyData.shown]
    unfold tupleText
    rw [strOk_append, strOk_append, strOk_of, strOk_join _ (strOk_of _) _ fun s hs => shownL_ok (by simpa only [rOk] using h) s hs]
    split <;> (rw [strOk_of]; rfl)
theorem shownL_ok : ∀ {xs : List PyData}, rOkL xs = true → ∀ s ∈ PyData.shownAll xs, PyData.strOk s = true
  | [], _, s, hs => by simp [PyData.shownAll] at hs
  | x :: xs, h, s, hs => by
    rw [rOkL, Bool.and_eq_true] at h
    simp only [PyData.shownAll, List.mem_cons] at hs
    rcases hs with rfl | hs
    · exact shown_ok h.1
    · exact shownL_ok h.2 s hs
end
theorem join_le : ∀ ts : List Str, (Str.join ", " ts).length ≤ piled ts
  | [] => Nat.zero_le _
  | x :: r => by have := join_length_add (x :: r) (by simp); omega
mutual
theorem shown_len : ∀ {d : PyData}, rOk d = true → d.shown.length ≤ wid d
  | .none, _ => by simp only [PyData.shown, wid]; decide +kernel
  | .bool b, _ => by simp only [PyData.shown, wid]; cases b <;> decide +kernel
  | .int i, h => by
    simp only [PyData.shown, wid]
    rw [ofString_length]
    exact int_text_length_le10 (by decide) (of_decide_eq_true h)
  | .str x, h => by simp only [PyData.shown, wid]; exact Nat.le_refl _
  | .list xs, h => by
    have := shownL_len (xs := xs) (by simpa only [rOk] using h)
    simp only [PyData.shown, wid]
    rw [listText_eq_join, strLen_append, strLen_append, ofString_length, ofString_length]
    have j := join_le (PyData.shownAll xs)
    have e1 : ("[" : String).length = 1 := rfl
    have e2 : ("]" : String).length = 1 := rfl
    omega
  | .tuple xs, h => by
    have := shownL_len (xs := xs) (by simpa only [rOk] using h)
    simp only [PyData.shown, wid]
    unfold tupleText
    rw [strLen_append, strLen_append, ofString_length, ofString_length]
    have j := join_le (PyData.shownAll xs)
    have e1 : ("(" : String).length = 1 := rfl
    have e2 : ((if (PyData.shownAll xs).length == 1 then ",)" else ")" : String)).length ≤ 2 := by split <;> decide
    omega
theorem shownL_len : ∀ {xs : List PyData}, rOkL xs = true → piled (PyData.shownAll xs) ≤ widL xs
  | [], _ => by simp [PyData.shownAll, piled, widL]
  | x :: xs, h => by
    rw [rOkL, Bool.and_eq_true] at h
    have h1 := shown_len h.1
    have h2 := shownL_len h.2
    simp only [PyData.shownAll, piled, widL, List.map_cons, List.sum_cons] at *
    omega
end
mutual
theorem rOk_showable : ∀ {d : PyData}, rOk d = true → d.showable = true ∧ d.hasDict = false
  | .none, _ => by simp [PyData.showable, PyData.hasDict]
  | .bool b, _ => by simp [PyData.showable, PyData.hasDict]
  | .int i, h => by
    refine ⟨?_, by simp [PyData.hasDict]⟩
    simp only [PyData.showable]
    refine decide_eq_true ?_
    have h : i.natAbs < 10 ^ 200 := of_decide_eq_true h
    by_cases z : i.natAbs = 0
    · rw [z]; decide
    · exact (Nat.log2_lt z).mpr (Nat.lt_trans h (by decide +kernel))
  | .str x, h => by simp [PyData.showable, PyData.hasDict]
  | .list xs, h => by
    have := rOkL_showable (xs := xs) (by simpa only [rOk] using h)
    simp only [PyData.showable, PyData.hasDict]; exact this
  | .tuple xs, h => by
    have := rOkL_showable (xs := xs) (by simpa only [rOk] using h)
    simp only [PyData.showable, PyData.hasDict]; exact this
theorem rOkL_showable : ∀ {xs : List PyData}, rOkL xs = true → PyData.showableAll xs = true ∧ PyData.hasDictAll xs = false
  | [], _ => by simp [PyData.showableAll, PyData.hasDictAll]
  | x :: xs, h => by
    rw [rOkL, Bool.and_eq_true] at h
    have h1 := rOk_showable h.1
    have h2 := rOkL_showable h.2
    simp [PyData.showableAll, PyData.hasDictAll, h1.1, h1.2, h2.1, h2.2]
end
/-- repr of small data -/
theorem repr_val {d : PyData} (h : rOk d = true) (dp : d.depth ≤ 64) (w : wid d ≤ 16777216) : biD .repr [d] = some (.str d.shown) := by
  obtain ⟨h1, h2⟩ := rOk_showable h
  have h3 : fits d.shown.length = true := decide_eq_true (Nat.le_trans (shown_len h) w)
  simp [biD, reprD, h1, h2, h3, dp]
theorem shaped_str {x : Str} (h : PyData.strOk x = true) : SeqAt.shaped (.str x) = true := by
  unfold SeqAt.shaped
  simp [PyData.canLay0, h, PyData.depth]
end DE
end

section
set_option Elab.async false
set_option linter.all false
/-! PL1: loops and comprehensions, for plain proofs. -/
namespace DE
open PySem

/-! while -/
theorem whileN_mono {c : Env → R D} {b : Env → SR} : ∀ {n : Nat} {ρ : Env} {r : SR}, whileN c b n ρ = some r → whileN c b (n + 1) ρ = some r
  | 0, _, _, h => by simp [whileN] at h
  | n + 1, ρ, r, h => by
    rw [whileN] at h ⊢
    cases hc : c ρ with
    | ok x ρ1 =>
      rw [hc] at h
      cases x with
      | dat d => cases d with
        | bool k => cases k with
          | true =>
            simp only at h ⊢
            cases hb : b ρ1 with
            | nx ρ2 => rw [hb] at h; exact whileN_mono h
            | _ => rw [hb] at h; exact h
          | false => exact h
        | _ => exact h
      | _ => exact h
    | _ => rw [hc] at h; exact h
theorem whileN_le {c : Env → R D} {b : Env → SR} {n m : Nat} {ρ : Env} {r : SR} (h : whileN c b n ρ = some r) (l : n ≤ m) : whileN c b m ρ = some r := by
  induction l with
  | refl => exact h
  | step _ ih => exact whileN_mono ih
theorem whileU_of {c : Env → R D} {b : Env → SR} {n : Nat} {ρ : Env} {r : SR} (h : whileN c b n ρ = some r) : whileU c b ρ = r := by
  have hx : ∃ n r, whileN c b n ρ = some r := ⟨n, r, h⟩
  unfold whileU
  rw [dif_pos hx]
  have h2 := Classical.choose_spec (Classical.choose_spec hx)
  have a := whileN_le h (Nat.le_max_left n (Classical.choose hx))
  have b := whileN_le h2 (Nat.le_max_right n (Classical.choose hx))
  rw [a] at b
  exact (Option.some.inj b).symm
theorem whileU_no {c : Env → R D} {b : Env → SR} {ρ : Env} (h : ¬ ∃ n r, whileN c b n ρ = some r) : whileU c b ρ = .no := by unfold whileU; rw [dif_neg h]
theorem whileU_false {c : Env → R D} {b : Env → SR} {ρ ρ1 : Env} (h : c ρ = .ok (.dat (.bool false)) ρ1) : whileU c b ρ = .nx ρ1 := whileU_of (n := 1) (by rw [whileN, h])
theorem whileU_true {c : Env → R D} {b : Env → SR} {ρ ρ1 ρ2 : Env} (h : c ρ = .ok (.dat (.bool true)) ρ1) (h2 : b ρ1 = .nx ρ2) : whileU c b ρ = whileU c b ρ2 := by
  by_cases hx : ∃ n r, whileN c b n ρ2 = some r
  · obtain ⟨n, r, e⟩ := hx
    rw [whileU_of e]
    exact whileU_of (n := n + 1) (by rw [whileN, h]; simp only [h2]; exact e)
  · rw [whileU_no hx, whileU_no]
    rintro ⟨n, r, e⟩
    cases n with
    | zero => simp [whileN] at e
    | succ n =>
      rw [whileN, h] at e
      simp only [h2] at e
      exact hx ⟨n, r, e⟩
theorem whileU_rt {c : Env → R D} {b : Env → SR} {ρ ρ1 ρ2 : Env} {d : D} (h : c ρ = .ok (.dat (.bool true)) ρ1) (h2 : b ρ1 = .rt d ρ2) : whileU c b ρ = .rt d ρ2 := whileU_of (n := 1) (by rw [whileN, h]; simp only [h2])

/-! for -/
/-- through all items -/
theorem forL_all {t : T} {b : Env → SR} (I : Nat → Env → Prop) : ∀ (items : List D) (k : Nat) (ρ : Env), I k ρ → (∀ i x ρ, items[i]? = some x → I (k + i) ρ → ∃ ρ1 ρ2, storeT t x ρ = some ρ1 ∧ b ρ1 = .nx ρ2 ∧ I (k + i + 1) ρ2) →
    ∃ ρ', forL t b items ρ = .nx ρ' ∧ I (k + items.length) ρ'
  | [], k, ρ, h, _ => ⟨ρ, rfl, h⟩
  | x :: r, k, ρ, h, st => by
    obtain ⟨ρ1, ρ2, e1, e2, h2⟩ := st 0 x ρ rfl h
    obtain ⟨ρ', e3, h3⟩ := forL_all I r (k + 1) ρ2 h2 fun i y ρ e hi => by
      have := st (i + 1) y ρ (by simpa using e) (by rw [show k + (i + 1) = k + 1 + i by omega]; exact hi)
      rw [show k + (i + 1) + 1 = k + 1 + i + 1 by omega] at this
      exact this
    refine ⟨ρ', ?_, by rw [List.length_cons, show k + (r.length + 1) = k + 1 + r.length by omega]; exact h3⟩
    rw [forL, e1]
    simp only [e2, nx_bind]
    exact e3
/-- .. up to where it tells something -/
theorem forL_upto {t : T} {b : Env → SR} (I : Nat → Env → Prop) (Rt : D → Env → Prop) : ∀ (items : List D) (k : Nat) (ρ : Env), I k ρ →
    (∀ i x ρ, items[i]? = some x → I (k + i) ρ → ∃ ρ1, storeT t x ρ = some ρ1 ∧ ((∃ ρ2, b ρ1 = .nx ρ2 ∧ I (k + i + 1) ρ2) ∨ ∃ d ρ2, b ρ1 = .rt d ρ2 ∧ Rt d ρ2)) →
    (∃ ρ', forL t b items ρ = .nx ρ' ∧ I (k + items.length) ρ') ∨ ∃ d ρ', forL t b items ρ = .rt d ρ' ∧ Rt d ρ'
  | [], k, ρ, h, _ => .inl ⟨ρ, rfl, h⟩
  | x :: r, k, ρ, h, st => by
    obtain ⟨ρ1, e1, z⟩ := st 0 x ρ rfl h
    rcases z with ⟨ρ2, e2, h2⟩ | ⟨d, ρ2, e2, h2⟩
    · rcases forL_upto I Rt r (k + 1) ρ2 h2 (fun i y ρ e hi => by
        have := st (i + 1) y ρ (by simpa using e) (by rw [show k + (i + 1) = k + 1 + i by omega]; exact hi)
        rw [show k + (i + 1) + 1 = k + 1 + i + 1 by omega] at this
        exact this) with ⟨ρ', e3, h3⟩ | ⟨d, ρ', e3, h3⟩
      · refine .inl ⟨ρ', ?_, by rw [List.length_cons, show k + (r.length + 1) = k + 1 + r.length by omega]; exact h3⟩
        rw [forL, e1]
        simp only [e2, nx_bind]
        exact e3
      · refine .inr ⟨d, ρ', ?_, h3⟩
        rw [forL, e1]
        simp only [e2, nx_bind]
        exact e3
    · refine .inr ⟨d, ρ2, ?_, h2⟩
      rw [forL, e1]
      simp only [e2, rt_bind]

/-! comprehensions -/
theorem getE_wipe {ρ : Env} {j : Nat} : ∀ {vs : List Nat}, (wipeE ρ vs)[j]? = if j ∈ vs ∧ j < ρ.length then some .dead else ρ[j]?
  | [] => by simp [wipeE]
  | v :: vs => by
    rw [wipeE]
    by_cases e : v = j
    · subst e
      by_cases l : v < ρ.length
      · rw [List.getElem?_set_self (by rw [wipeE_length]; exact l)]
        simp [l]
      · rw [List.getElem?_eq_none (by rw [List.length_set, wipeE_length]; omega), List.getElem?_eq_none (by omega)]
        simp [l]
    · rw [List.getElem?_set_ne e, getE_wipe]
      have : j ∈ v :: vs ↔ j ∈ vs := by simp [List.mem_cons, Ne.symm e]
      simp only [this]
theorem getE_back {ρ0 ρ : Env} {j : Nat} : ∀ {vs : List Nat}, (backE ρ0 ρ vs)[j]? = if j ∈ vs ∧ j < ρ.length then some (slot ρ0 j) else ρ[j]?
  | [] => by simp [backE]
  | v :: vs => by
    rw [backE]
    by_cases e : v = j
    · subst e
      by_cases l : v < ρ.length
      · rw [List.getElem?_set_self (by rw [backE_length]; exact l)]
        simp [l]
      · rw [List.getElem?_eq_none (by rw [List.length_set, backE_length]; omega), List.getElem?_eq_none (by omega)]
        simp [l]
    · rw [List.getElem?_set_ne e, getE_back]
      have : j ∈ v :: vs ↔ j ∈ vs := by simp [List.mem_cons, Ne.symm e]
      simp only [this]
/-- the own slots given back -/
theorem back_wipe {ρ1 ρ : Env} {vs : List Nat} (h : wipeE ρ vs = wipeE ρ1 vs) : backE ρ1 ρ vs = ρ1 := by
  have hl : ρ.length = ρ1.length := by rw [← wipeE_length ρ vs, h, wipeE_length]
  apply List.ext_getElem?
  intro j
  rw [getE_back]
  by_cases hj : j ∈ vs ∧ j < ρ.length
  · rw [if_pos hj]
    have l : j < ρ1.length := by omega
    unfold slot
    rw [List.getD_eq_getElem?_getD, List.getElem?_eq_getElem l]; rfl
  · rw [if_neg hj]
    have e := congrArg (fun l => l[j]?) h
    simp only [getE_wipe] at e
    rw [if_neg hj, if_neg (by rw [← hl]; exact hj)] at e
    exact e
theorem compL_pure {own : List Nat} {t : T} {c e : Env → R D} {k : D → Bool} {g : D → PyData} {ρ0 : Env} : ∀ (items : List D) (ρ : Env), wipeE ρ own = ρ0 →
    (∀ x ∈ items, ∃ ρx, storeT t x ρ0 = some ρx ∧ wipeE ρx own = ρ0 ∧ c ρx = .ok (.dat (.bool (k x))) ρx ∧ (k x = true → ∃ y, e ρx = .ok y ρx ∧ y.fz = some (g x))) →
    ∃ ρ', compL own t c e items ρ = .ok ((items.filter k).map g) ρ' ∧ wipeE ρ' own = ρ0
  | [], ρ, hw, _ => ⟨ρ, rfl, hw⟩
  | x :: r, ρ, hw, h => by
    obtain ⟨ρx, e1, e2, e3, e4⟩ := h x List.mem_cons_self
    obtain ⟨ρ', e5, e6⟩ := compL_pure r ρx e2 fun y hy => h y (List.mem_cons_of_mem _ hy)
    refine ⟨ρ', ?_, e6⟩
    rw [compL, hw, e1]
    simp only [e3, nox_ok, bind_ok]
    cases hk : k x with
    | false =>
      rw [List.filter_cons_of_neg (by simp [hk])]
      exact e5
    | true =>
      obtain ⟨y, e7, e8⟩ := e4 hk
      rw [List.filter_cons_of_pos hk, List.map_cons]
      simp only [e7, nox_ok, bind_ok, e8, e5]
/-- a comprehension that changes nothing: its list -/
theorem comp_pure {G : List Fn} {elt : E} {t : T} {it : I} {c : O} {own : List Nat} {ρ ρ1 ρ3 : Env} {items : List D} {w : Option (Nat × D)} (k : D → Bool) (g : D → PyData) (hi : evI G it ρ = .ok (items, w) ρ1)
    (h : ∀ x ∈ items, ∃ ρx, storeT t x (wipeE ρ1 own) = some ρx ∧ wipeE ρx own = wipeE ρ1 own ∧ evC G c ρx = .ok (.dat (.bool (k x))) ρx ∧ (k x = true → ∃ y, evE G elt ρx = .ok y ρx ∧ y.fz = some (g x)))
    (hf : fits ((items.filter k).map g).length = true) (hu : unlock w ρ1 = some ρ3) : evE G (.comp elt t it c own) ρ = .ok (dl ((items.filter k).map g)) ρ3 := by
  obtain ⟨ρ', e1, e2⟩ := compL_pure (c := evC G c) (e := evE G elt) items ρ1 rfl h
  rw [s_comp, hi, bind_ok, kComp1_eq, e1, bind_ok, kComp2_eq, if_pos hf, back_wipe e2, hu]
/-- a comprehension that changes the rest of the env: by an invariant -/
theorem compL_inv {own : List Nat} {t : T} {c e : Env → R D} (I : Nat → Env → Prop) (V : Nat → PyData → Prop) (hI : ∀ k ρ, I k ρ → I k (wipeE ρ own)) : ∀ (items : List D) (n : Nat) (ρ : Env), I n ρ →
    (∀ i x ρ, items[i]? = some x → I (n + i) (wipeE ρ own) → ∃ ρ1 ρ2 y d, storeT t x (wipeE ρ own) = some ρ1 ∧ c ρ1 = .ok (.dat (.bool true)) ρ1 ∧ e ρ1 = .ok y ρ2 ∧ y.fz = some d ∧ V (n + i) d ∧ I (n + i + 1) ρ2) →
    ∃ ds ρ', compL own t c e items ρ = .ok ds ρ' ∧ I (n + items.length) ρ' ∧ ds.length = items.length ∧ ∀ i d, ds[i]? = some d → V (n + i) d
  | [], n, ρ, h, _ => ⟨[], ρ, rfl, h, rfl, fun i d z => by simp at z⟩
  | x :: r, n, ρ, h, st => by
    obtain ⟨ρ1, ρ2, y, d, e1, e2, e3, e4, v, h2⟩ := st 0 x ρ rfl (hI _ _ h)
    obtain ⟨ds, ρ', e5, h5, l5, v5⟩ := compL_inv I V hI r (n + 1) ρ2 h2 fun i y ρ e hi => by
      have := st (i + 1) y ρ (by simpa using e) (by rw [show n + (i + 1) = n + 1 + i by omega]; exact hi)
      rw [show n + (i + 1) + 1 = n + 1 + i + 1 by omega, show n + (i + 1) = n + 1 + i by omega] at this
      exact this
    refine ⟨d :: ds, ρ', ?_, by rw [List.length_cons, show n + (r.length + 1) = n + 1 + r.length by omega]; exact h5, by simp [l5], fun i d' z => ?_⟩
    · rw [compL, e1]
      simp only [e2, e3, nox_ok, bind_ok, e4, e5]
    · cases i with
      | zero => simp at z; subst z; exact v
      | succ i => rw [show n + (i + 1) = n + 1 + i by omega]; exact v5 i d' (by simpa using z)
theorem length_wipe_back (ρ0 ρ : Env) (vs : List Nat) : (backE ρ0 ρ vs).length = ρ.length := backE_length ρ0 ρ vs
end DE
end

section
set_option Elab.async false
set_option linter.all false
/-! PT: small laws for runs step by step. -/
namespace DE
open PySem
noncomputable section
/-! slots -/
@[simp] theorem slot_z (d : D) (ρ : Env) : slot (d :: ρ) 0 = d := rfl
@[simp] theorem slot_s (d : D) (ρ : Env) (i : Nat) : slot (d :: ρ) (i + 1) = slot ρ i := rfl
@[simp] theorem getS_n (d : D) : getS d [] = some d := getS_nil d
@[simp] theorem putS_n (d y : D) : putS d [] y = some y := putS_nil d y
@[simp] theorem getS_c (xs : List D) (i : Int) (r : List Sel) : getS (.lst xs) (.ix i :: r) = (match L2.atI xs i with | some x => getS x r | none => none) := rfl
@[simp] theorem getS_k (kvs : List (L2.Key × D)) (k : L2.Key) (r : List Sel) : getS (.dct kvs) (.key k :: r) = (match aGet kvs k with | some x => getS x r | none => none) := rfl
@[simp] theorem getS_f (C : Str) (fs : List (Str × D)) (f : Str) (r : List Sel) : getS (.ins C fs) (.fld f :: r) = (match aGet fs f with | some x => getS x r | none => none) := rfl
@[simp] theorem putS_c (xs : List D) (i : Int) (r : List Sel) (y : D) : putS (.lst xs) (.ix i :: r) y = (match L2.ixN xs.length i, L2.atI xs i with
    | some j, some x => (putS x r y).map fun z => .lst (xs.set j z)
    | _, _ => none) := rfl
@[simp] theorem putS_k (kvs : List (L2.Key × D)) (k : L2.Key) (r : List Sel) (y : D) : putS (.dct kvs) (.key k :: r) y = (match aGet kvs k with
    | some x => (putS x r y).map fun z => .dct (aPut kvs k z)
    | none => none) := rfl
@[simp] theorem putS_f (C : Str) (fs : List (Str × D)) (f : Str) (r : List Sel) (y : D) : putS (.ins C fs) (.fld f :: r) y = (match aGet fs f with
    | some x => (putS x r y).map fun z => .ins C (aPut fs f z)
    | none => none) := rfl
@[simp] theorem selD_l (xs : List D) (i : Int) : selD (some (.lst xs)) (.int i) = some (.ix i) := rfl
@[simp] theorem selD_k (kvs : List (L2.Key × D)) (d : PyData) : selD (some (.dct kvs)) d = (keyE d).map .key := by unfold selD; cases d <;> rfl
@[simp] theorem keyE_i (i : Int) : keyE (.int i) = some (.inl i) := rfl
@[simp] theorem keyE_s (x : Str) : keyE (.str x) = some (.inr x) := rfl
theorem inr_ne {a b : Str} (h : a ≠ b) : ((Sum.inr a : L2.Key) = .inr b) = False := by simp [h]
@[simp] theorem aGet_n {κ α : Type} [DecidableEq κ] (k : κ) : aGet ([] : List (κ × α)) k = none := rfl
@[simp] theorem aGet_c {κ α : Type} [DecidableEq κ] (k' k : κ) (v : α) (r : List (κ × α)) : aGet ((k', v) :: r) k = if k' = k then some v else aGet r k := rfl
@[simp] theorem aPut_n {κ α : Type} [DecidableEq κ] (k : κ) (v : α) : aPut ([] : List (κ × α)) k v = [(k, v)] := rfl
@[simp] theorem aPut_c {κ α : Type} [DecidableEq κ] (k' k : κ) (v' v : α) (r : List (κ × α)) : aPut ((k', v') :: r) k v = if k' = k then (k', v) :: r else (k', v') :: aPut r k v := rfl
@[simp] theorem dHas_k (kvs : List (L2.Key × D)) (d : PyData) : dHas (some (.dct kvs)) d = (keyE d).map fun k => (aGet kvs k).isSome := rfl
@[simp] theorem dHas_t (kvs : List (PyData × PyData)) (k : PyData) : dHas (some (.dtt kvs)) k = if tkey k then some (aGet kvs k).isSome else none := rfl
@[simp] theorem dGet2_k (kvs : List (L2.Key × D)) (k z : PyData) : dGet2 (some (.dct kvs)) k z = (keyE k).bind fun k => match aGet kvs k with
    | some (.dat v) => some v
    | some _ => none
    | none => some z := rfl
@[simp] theorem dGet2_t (kvs : List (PyData × PyData)) (k z : PyData) : dGet2 (some (.dtt kvs)) k z = if tkey k then some ((aGet kvs k).getD z) else none := rfl
@[simp] theorem isDct_k (kvs : List (L2.Key × D)) : isDct (some (.dct kvs)) = true := rfl
@[simp] theorem isDct_t (kvs : List (PyData × PyData)) : isDct (some (.dtt kvs)) = true := rfl
@[simp] theorem isIns_i (C m C' : Str) (fs : List (Str × D)) : isIns C m (some (.ins C' fs)) = (decide (C' = C) && (aGet fs m).isNone) := rfl
@[simp] theorem isLive_k (kvs : List (L2.Key × D)) : isLive (some (.dct kvs)) = true := rfl
@[simp] theorem isLive_t (kvs : List (PyData × PyData)) : isLive (some (.dtt kvs)) = true := rfl
@[simp] theorem isLive_i (C : Str) (fs : List (Str × D)) : isLive (some (.ins C fs)) = true := rfl
@[simp] theorem isLive_d (d : PyData) : isLive (some (.dat d)) = true := rfl
@[simp] theorem isLive_b (d : PyData) : isLive (some (.bor d)) = true := rfl
@[simp] theorem isLive_l (xs : List D) : isLive (some (.lst xs)) = true := rfl
@[simp] theorem isLst_l (xs : List D) : isLst (some (.lst xs)) = true := rfl
@[simp] theorem storeT_nm (i : Nat) (d : D) (ρ : Env) : storeT (.nm i) d ρ = if i < ρ.length then (if d.ntr then some (ρ.set i d) else none) else none := rfl
@[simp] theorem storeT_tp (is : List Nat) (xs : List PyData) (ρ : Env) : storeT (.tp is) (.dat (.tuple xs)) ρ = storeT.storeL is (xs.map .dat) ρ := rfl
@[simp] theorem storeT_tr (is : List Nat) (xs : List PyData) (ρ : Env) : storeT (.tp is) (.tr (.tuple xs)) ρ = storeT.storeL is (xs.map .dat) ρ := rfl
@[simp] theorem storeL_n (ρ : Env) : storeT.storeL [] [] ρ = some ρ := rfl
@[simp] theorem storeL_c (i : Nat) (is : List Nat) (d : D) (ds : List D) (ρ : Env) : storeT.storeL (i :: is) (d :: ds) ρ = if i < ρ.length then storeT.storeL is ds (ρ.set i d) else none := rfl
@[simp] theorem fnAt_z (F : Fn) (G : List Fn) : fnAt (F :: G) 0 = F := rfl
@[simp] theorem fnAt_s (F : Fn) (G : List Fn) (n : Nat) : fnAt (F :: G) (n + 1) = fnAt G n := rfl
/-! values -/
@[simp] theorem ntr_dat (d : PyData) : (D.dat d).ntr = true := rfl
@[simp] theorem ntr_bor (d : PyData) : (D.bor d).ntr = true := rfl
@[simp] theorem ntr_tr (d : PyData) : (D.tr d).ntr = false := rfl
@[simp] theorem ntr_lst (xs : List D) : (D.lst xs).ntr = D.ntrL xs := by simp [D.ntr]
@[simp] theorem ntrL_n : D.ntrL [] = true := rfl
@[simp] theorem ntrL_c (x : D) (r : List D) : D.ntrL (x :: r) = (x.ntr && D.ntrL r) := by simp [D.ntrL]
@[simp] theorem ntrL_a (x r : List D) : D.ntrL (x ++ r) = (D.ntrL x && D.ntrL r) := by induction x with
  | nil => simp
  | cons a x ih => simp [ih, Bool.and_assoc]
@[simp] theorem ntr_dct (kvs : List (L2.Key × D)) : (D.dct kvs).ntr = D.ntrK kvs := by simp [D.ntr]
@[simp] theorem ntr_dtt (kvs : List (PyData × PyData)) : (D.dtt kvs).ntr = true := by simp [D.ntr]
@[simp] theorem ntr_ins (C : Str) (fs : List (Str × D)) : (D.ins C fs).ntr = D.ntrF fs := by simp [D.ntr]
@[simp] theorem ntrK_n : D.ntrK [] = true := rfl
@[simp] theorem ntrK_c (k : L2.Key) (x : D) (r : List (L2.Key × D)) : D.ntrK ((k, x) :: r) = (x.ntr && D.ntrK r) := by simp [D.ntrK]
@[simp] theorem ntrF_n : D.ntrF [] = true := rfl
@[simp] theorem ntrF_c (k : Str) (x : D) (r : List (Str × D)) : D.ntrF ((k, x) :: r) = (x.ntr && D.ntrF r) := by simp [D.ntrF]
@[simp] theorem own_dct (kvs : List (L2.Key × D)) : (D.dct kvs).own = D.ownK kvs := by simp [D.own]
@[simp] theorem own_dtt (kvs : List (PyData × PyData)) : (D.dtt kvs).own = true := by simp [D.own]
@[simp] theorem own_ins (C : Str) (fs : List (Str × D)) : (D.ins C fs).own = D.ownF fs := by simp [D.own]
@[simp] theorem ownK_n : D.ownK [] = true := rfl
@[simp] theorem ownK_c (k : L2.Key) (x : D) (r : List (L2.Key × D)) : D.ownK ((k, x) :: r) = (x.own && D.ownK r) := by simp [D.ownK]
@[simp] theorem ownF_n : D.ownF [] = true := rfl
@[simp] theorem ownF_c (k : Str) (x : D) (r : List (Str × D)) : D.ownF ((k, x) :: r) = (x.own && D.ownF r) := by simp [D.ownF]
@[simp] theorem nex_dct (kvs : List (L2.Key × D)) : (D.dct kvs).nex = D.nexK kvs := by simp [D.nex]
@[simp] theorem nex_dtt (kvs : List (PyData × PyData)) : (D.dtt kvs).nex = true := by simp [D.nex]
@[simp] theorem nex_ins (C : Str) (fs : List (Str × D)) : (D.ins C fs).nex = D.nexF fs := by simp [D.nex]
@[simp] theorem nexK_n : D.nexK [] = true := rfl
@[simp] theorem nexK_c (k : L2.Key) (x : D) (r : List (L2.Key × D)) : D.nexK ((k, x) :: r) = (x.nex && D.nexK r) := by simp [D.nexK]
@[simp] theorem nexF_n : D.nexF [] = true := rfl
@[simp] theorem nexF_c (k : Str) (x : D) (r : List (Str × D)) : D.nexF ((k, x) :: r) = (x.nex && D.nexF r) := by simp [D.nexF]
@[simp] theorem own_dat (d : PyData) : (D.dat d).own = true := rfl
@[simp] theorem own_bor (d : PyData) : (D.bor d).own = false := rfl
@[simp] theorem own_tr (d : PyData) : (D.tr d).own = false := rfl
@[simp] theorem own_dead : D.dead.own = false := rfl
@[simp] theorem own_lst (xs : List D) : (D.lst xs).own = D.ownL xs := by simp [D.own]
@[simp] theorem ownL_n : D.ownL [] = true := rfl
@[simp] theorem ownL_c (x : D) (r : List D) : D.ownL (x :: r) = (x.own && D.ownL r) := by simp [D.ownL]
@[simp] theorem ownL_a (x r : List D) : D.ownL (x ++ r) = (D.ownL x && D.ownL r) := by induction x with
  | nil => simp
  | cons a x ih => simp [ih, Bool.and_assoc]
@[simp] theorem nex_dat (d : PyData) : (D.dat d).nex = true := rfl
@[simp] theorem nex_bor (d : PyData) : (D.bor d).nex = true := rfl
@[simp] theorem nex_dead : D.dead.nex = true := rfl
@[simp] theorem nex_exc (C : Str) (fs : List (Str × PyData)) : (D.exc C fs).nex = false := rfl
@[simp] theorem nex_lst (xs : List D) : (D.lst xs).nex = D.nexL xs := by simp [D.nex]
@[simp] theorem nexL_n : D.nexL [] = true := rfl
@[simp] theorem nexL_c (x : D) (r : List D) : D.nexL (x :: r) = (x.nex && D.nexL r) := by simp [D.nexL]
@[simp] theorem view_dat (d : PyData) : (D.dat d).view = some d := rfl
@[simp] theorem view_bor (d : PyData) : (D.bor d).view = some d := rfl
@[simp] theorem view_tr (d : PyData) : (D.tr d).view = some d := rfl
@[simp] theorem view_lst (xs : List D) : (D.lst xs).view = (D.viewL xs).map .list := by simp [D.view]
@[simp] theorem viewL_n : D.viewL [] = some [] := rfl
@[simp] theorem viewL_c (x : D) (r : List D) : D.viewL (x :: r) = (match x.view, D.viewL r with | some a, some b => some (a :: b) | _, _ => none) := by rw [D.viewL] <;> rfl
@[simp] theorem fz_dat (d : PyData) : (D.dat d).fz = some d := rfl
@[simp] theorem fz_lst (xs : List D) : (D.lst xs).fz = (D.fzL xs).map .list := by simp [D.fz]
@[simp] theorem fzL_n : D.fzL [] = some [] := rfl
@[simp] theorem fzL_c (x : D) (r : List D) : D.fzL (x :: r) = (match x.fz, D.fzL r with | some a, some b => some (a :: b) | _, _ => none) := by rw [D.fzL] <;> rfl
@[simp] theorem dats_n : D.dats [] = some [] := rfl
@[simp] theorem dats_c (d : PyData) (r : List D) : D.dats (.dat d :: r) = (D.dats r).map (d :: ·) := rfl
/-- data as items of a list that is owned -/
def dd (ds : List PyData) : List D := ds.map .dat
theorem dd_eq (ds : List PyData) : dd ds = ds.map .dat := rfl
theorem dl_dd (ds : List PyData) : dl ds = .lst (dd ds) := rfl
@[simp] theorem dd_n : dd [] = [] := rfl
theorem dd_c (d : PyData) (r : List PyData) : dd (d :: r) = .dat d :: dd r := rfl
theorem dd_a (x r : List PyData) : dd (x ++ r) = dd x ++ dd r := by simp [dd]
@[simp] theorem viewL_dd : ∀ xs : List PyData, D.viewL (dd xs) = some xs
  | [] => rfl
  | x :: xs => by rw [dd_c, viewL_c, viewL_dd xs]; rfl
@[simp] theorem fzL_dd : ∀ xs : List PyData, D.fzL (dd xs) = some xs
  | [] => rfl
  | x :: xs => by rw [dd_c, fzL_c, fzL_dd xs]; rfl
@[simp] theorem dats_dd : ∀ xs : List PyData, D.dats (dd xs) = some xs
  | [] => rfl
  | x :: xs => by rw [dd_c, dats_c, dats_dd xs]; rfl
@[simp] theorem ownL_dd : ∀ xs : List PyData, D.ownL (dd xs) = true := ownL_dats
@[simp] theorem ntrL_dd (xs : List PyData) : D.ntrL (dd xs) = true := ntrL_dats xs
@[simp] theorem nexL_dd (xs : List PyData) : D.nexL (dd xs) = true := nexL_of_own (ownL_dats xs)
@[simp] theorem length_dd (xs : List PyData) : (dd xs).length = xs.length := by simp [dd]
/-! places -/
@[simp] theorem at0 {α : Type} (a : α) (r : List α) : L2.atI (a :: r) 0 = some a := by simp [L2.atI, L2.ixN]
@[simp] theorem at1 {α : Type} (a b : α) (r : List α) : L2.atI (a :: b :: r) 1 = some b := by
  have : (1 : Int) < ((a :: b :: r).length : Int) := by simp only [List.length_cons]; omega
  unfold L2.atI L2.ixN; rw [if_pos (by decide), if_pos this]; rfl
@[simp] theorem at2 {α : Type} (a b c : α) (r : List α) : L2.atI (a :: b :: c :: r) 2 = some c := by
  have : (2 : Int) < ((a :: b :: c :: r).length : Int) := by simp only [List.length_cons]; omega
  unfold L2.atI L2.ixN; rw [if_pos (by decide), if_pos this]; rfl
@[simp] theorem at3 {α : Type} (a b c d : α) (r : List α) : L2.atI (a :: b :: c :: d :: r) 3 = some d := by
  have : (3 : Int) < ((a :: b :: c :: d :: r).length : Int) := by simp only [List.length_cons]; omega
  unfold L2.atI L2.ixN; rw [if_pos (by decide), if_pos this]; rfl
theorem ixN_of {n : Nat} {k : Int} (h : 0 ≤ k) (h2 : k < n) : L2.ixN n k = some k.toNat := by unfold L2.ixN; rw [if_pos h, if_pos h2]
theorem atI_of {α : Type} {xs : List α} {k : Int} (h : 0 ≤ k) (h2 : k < xs.length) : L2.atI xs k = xs[k.toNat]? := by unfold L2.atI; rw [ixN_of h h2]; rfl
theorem atI_nat {α : Type} {xs : List α} {k : Nat} (h2 : k < xs.length) : L2.atI xs (k : Int) = some xs[k] := by rw [atI_of (by omega) (by omega), Int.toNat_natCast, List.getElem?_eq_getElem h2]
@[simp] theorem ix0 (n : Nat) : L2.ixN (n + 1) 0 = some 0 := ixN_of (by decide) (by omega)
@[simp] theorem ix1 (n : Nat) : L2.ixN (n + 2) 1 = some 1 := ixN_of (by decide) (by omega)
@[simp] theorem ix2 (n : Nat) : L2.ixN (n + 3) 2 = some 2 := ixN_of (by decide) (by omega)
@[simp] theorem ix3 (n : Nat) : L2.ixN (n + 4) 3 = some 3 := ixN_of (by decide) (by omega)
@[simp] theorem ixV_dat (d : PyData) (i : Int) : ixV (.dat d) (.int i) = (ixD d i).map .dat := rfl
@[simp] theorem ixV_tr (d : PyData) (i : Int) : ixV (.tr d) (.int i) = (ixD d i).map .tr := rfl
@[simp] theorem ixV_bor (d : PyData) (i : Int) : ixV (.bor d) (.int i) = (ixD d i).map .bor := rfl
@[simp] theorem ixV_dctS (kvs : List (L2.Key × D)) (k : Str) : ixV (.dct kvs) (.str k) = (match aGet kvs (.inr k) with | some (.dat d) => some (.dat d) | _ => none) := rfl
@[simp] theorem ixV_lst (xs : List D) (i : Int) : ixV (.lst xs) (.int i) = L2.atI xs i := rfl
@[simp] theorem ixD_list (xs : List PyData) (i : Int) : ixD (.list xs) i = L2.atI xs i := rfl
@[simp] theorem ixD_tup (xs : List PyData) (i : Int) : ixD (.tuple xs) i = L2.atI xs i := rfl
@[simp] theorem itemsV_dat (d : PyData) : itemsV (.dat d) = (itemsS d).map (·.map .dat) := rfl
@[simp] theorem itemsS_list (xs : List PyData) : itemsS (.list xs) = some xs := rfl
@[simp] theorem itemsS_tup (xs : List PyData) : itemsS (.tuple xs) = some xs := rfl
@[simp] theorem itemsS_str (x : Str) : itemsS (.str x) = some (signsD x) := rfl
@[simp] theorem itemsV_lst (xs : List D) : itemsV (.lst xs) = (D.dats xs).map fun _ => xs := rfl
@[simp] theorem itemsD_list (xs : List PyData) : itemsD (.list xs) = some xs := rfl
@[simp] theorem itemsD_tup (xs : List PyData) : itemsD (.tuple xs) = some xs := rfl
/-! sources of items -/
@[simp] theorem datsV_dat (d : PyData) : datsV (.dat d) = itemsD d := rfl
@[simp] theorem datsV_lst (xs : List D) : datsV (.lst xs) = D.dats xs := rfl
@[simp] theorem isTupV_t (xs : List PyData) : isTupV (.dat (.tuple xs)) = true := rfl
@[simp] theorem isTupV_l (xs : List PyData) : isTupV (.dat (.list xs)) = false := rfl
@[simp] theorem isTupV_o (xs : List D) : isTupV (.lst xs) = false := rfl
/-! operators -/
@[simp] theorem add_int (i j : Int) : binD .Add (.int i) (.int j) = some (.dat (.int (i + j))) := rfl
@[simp] theorem add_str (x y : Str) : binD .Add (.str x) (.str y) = if fits (x.length + y.length) then some (.dat (.str (x ++ y))) else none := rfl
@[simp] theorem add_tup (x y : List PyData) : binD .Add (.tuple x) (.tuple y) = if fits (x.length + y.length) then some (.dat (.tuple (x ++ y))) else none := rfl
@[simp] theorem add_list (x y : List PyData) : binD .Add (.list x) (.list y) = if fits (x.length + y.length) then some (.lst (dd (x ++ y))) else none := rfl
@[simp] theorem mul_str (x : Str) (k : Int) : binD .Mult (.str x) (.int k) = if decide (1 ≤ k) && decide (k ≤ 10000) && decide (x.length ≤ 1000) && decide (0 < x.length) then some (.dat (.str ⟨(List.replicate k.toNat x.cps.toList).flatten.toArray⟩)) else none := rfl
@[simp] theorem add_bi (i : Bool) (j : Int) : binD .Add (.bool i) (.int j) = some (.dat (.int ((if i = true then (1 : Int) else 0) + j))) := rfl
@[simp] theorem add_ib (i : Int) (j : Bool) : binD .Add (.int i) (.bool j) = some (.dat (.int (i + if j = true then (1 : Int) else 0))) := rfl
@[simp] theorem sub_bi (i : Bool) (j : Int) : binD .Sub (.bool i) (.int j) = some (.dat (.int ((if i = true then (1 : Int) else 0) - j))) := rfl
@[simp] theorem sub_ib (i : Int) (j : Bool) : binD .Sub (.int i) (.bool j) = some (.dat (.int (i - if j = true then (1 : Int) else 0))) := rfl
@[simp] theorem sub_int (i j : Int) : binD .Sub (.int i) (.int j) = some (.dat (.int (i - j))) := rfl
@[simp] theorem mul_list (xs : List PyData) (k : Int) : binD .Mult (.list xs) (.int k) = if rngOk k && fits (xs.length * k.toNat) then some (.lst (dd (List.replicate k.toNat xs).flatten)) else none := rfl
@[simp] theorem mul_tup (xs : List PyData) (k : Int) : binD .Mult (.tuple xs) (.int k) = if decide (0 ≤ k) && decide (k ≤ 1000) && !xs.isEmpty && decide (xs.length ≤ 1000) then some (.dat (.tuple (List.replicate k.toNat xs).flatten)) else none := rfl
@[simp] theorem mul_int (i j : Int) : binD .Mult (.int i) (.int j) = if mulOk i j then some (.dat (.int (i * j))) else none := rfl
@[simp] theorem div_int (i j : Int) : binD .FloorDiv (.int i) (.int j) = if divOk j then some (.dat (.int (i.fdiv j))) else none := rfl
@[simp] theorem mod_int (i j : Int) : binD .Mod (.int i) (.int j) = if decide (j ≠ 0) then some (.dat (.int (i.fmod j))) else none := rfl
@[simp] theorem pow_int (i j : Int) : binD .Pow (.int i) (.int j) = if decide (0 ≤ j) && decide (j ≤ 1000000) && decide (i.natAbs < 2 ^ 64) then some (.dat (.int (i ^ j.toNat))) else none := rfl
@[simp] theorem lt_int (i j : Int) : cmpD .Lt (.int i) (.int j) = some (decide (i < j)) := rfl
@[simp] theorem le_int (i j : Int) : cmpD .LtE (.int i) (.int j) = some (decide (i ≤ j)) := rfl
@[simp] theorem gt_int (i j : Int) : cmpD .Gt (.int i) (.int j) = some (decide (j < i)) := rfl
@[simp] theorem ge_int (i j : Int) : cmpD .GtE (.int i) (.int j) = some (decide (j ≤ i)) := rfl
@[simp] theorem shaped_i (z : Int) : SeqAt.shaped (.int z) = true := by simp [SeqAt.shaped, PyData.canLay0, PyData.depth]
@[simp] theorem shaped_b (z : Bool) : SeqAt.shaped (.bool z) = true := by simp [SeqAt.shaped, PyData.canLay0, PyData.depth]
@[simp] theorem shaped_o : SeqAt.shaped .none = true := by simp [SeqAt.shaped, PyData.canLay0, PyData.depth]
@[simp] theorem shaped_ln : SeqAt.shaped (.list []) = true := by decide +kernel
@[simp] theorem shaped_tn : SeqAt.shaped (.tuple []) = true := by decide +kernel
@[simp] theorem eq_int (i j : Int) : cmpD .Eq (.int i) (.int j) = some (decide (i = j)) := by
  simp only [cmpD, shaped_i, Bool.and_self, if_true, PyData.eqv]
  congr 1
@[simp] theorem ne_int (i j : Int) : cmpD .NotEq (.int i) (.int j) = some (!decide (i = j)) := by
  simp only [cmpD, shaped_i, Bool.and_self, if_true, PyData.eqv]
  congr 1
theorem eq_str {x y : Str} (h : PyData.strOk x = true) (h' : PyData.strOk y = true) : cmpD .Eq (.str x) (.str y) = some (decide (x = y)) := by
  simp only [cmpD, shaped_str h, shaped_str h', Bool.and_self, if_true, PyData.eqv]
  congr 1
  all_goals (rw [Bool.eq_iff_iff]; simp)
theorem ne_str {x y : Str} (h : PyData.strOk x = true) (h' : PyData.strOk y = true) : cmpD .NotEq (.str x) (.str y) = some (!decide (x = y)) := by
  simp only [cmpD, shaped_str h, shaped_str h', Bool.and_self, if_true, PyData.eqv]
  congr 2
  all_goals (rw [Bool.eq_iff_iff]; simp)
@[simp] theorem ne_nn : cmpD .NotEq (.list []) (.list []) = some false := by decide +kernel
@[simp] theorem eq_nn : cmpD .Eq (.list []) (.list []) = some true := by decide +kernel
/-- a list against the empty one -/
theorem ne_nil {xs : List PyData} (h : SeqAt.shaped (.list xs) = true) : cmpD .NotEq (.list xs) (.list []) = some (!xs.isEmpty) := by
  simp only [cmpD, h, shaped_ln, Bool.and_self, if_true]
  cases xs with
  | nil => decide +kernel
  | cons c cs => simp [PyData.eqv, PyData.eqvAll]
theorem eq_nil {xs : List PyData} (h : SeqAt.shaped (.list xs) = true) : cmpD .Eq (.list xs) (.list []) = some xs.isEmpty := by
  simp only [cmpD, h, shaped_ln, Bool.and_self, if_true]
  cases xs with
  | nil => decide +kernel
  | cons c cs => simp [PyData.eqv, PyData.eqvAll]
@[simp] theorem cmpV_Eq (x y : D) : cmpV .Eq x y = (match x.view, y.view with | some a, some b => cmpD .Eq a b | _, _ => none) := by cases y <;> rfl
@[simp] theorem cmpV_Ne (x y : D) : cmpV .NotEq x y = (match x.view, y.view with | some a, some b => cmpD .NotEq a b | _, _ => none) := by cases y <;> rfl
@[simp] theorem cmpV_Lt (x y : D) : cmpV .Lt x y = (match x.view, y.view with | some a, some b => cmpD .Lt a b | _, _ => none) := by cases y <;> rfl
@[simp] theorem cmpV_Le (x y : D) : cmpV .LtE x y = (match x.view, y.view with | some a, some b => cmpD .LtE a b | _, _ => none) := by cases y <;> rfl
@[simp] theorem cmpV_Gt (x y : D) : cmpV .Gt x y = (match x.view, y.view with | some a, some b => cmpD .Gt a b | _, _ => none) := by cases y <;> rfl
@[simp] theorem cmpV_Ge (x y : D) : cmpV .GtE x y = (match x.view, y.view with | some a, some b => cmpD .GtE a b | _, _ => none) := by cases y <;> rfl
@[simp] theorem cmpV_In (x y : D) : cmpV .In x y = (match x.view, y.view with | some a, some b => cmpD .In a b | _, _ => none) := by cases y <;> rfl
@[simp] theorem cmpV_NotIn (x y : D) : cmpV .NotIn x y = (match x.view, y.view with | some a, some b => cmpD .NotIn a b | _, _ => none) := by cases y <;> rfl
/-! built-in functions -/
@[simp] theorem biV_len (xs : List D) : biV .len xs = (D.viewL xs).bind fun ps => (lenD ps).map .dat := rfl
@[simp] theorem biV_sum (xs : List D) : biV .sum xs = (D.viewL xs).bind fun ps => (sumD ps).map .dat := rfl
@[simp] theorem biV_abs (xs : List D) : biV .abs xs = (D.viewL xs).bind fun ps => (absD ps).map .dat := rfl
@[simp] theorem biV_int (xs : List D) : biV .int xs = (D.viewL xs).bind fun ps => (intD ps).map .dat := rfl
@[simp] theorem biV_str (xs : List D) : biV .str xs = (D.viewL xs).bind fun ps => (strD ps).map .dat := rfl
@[simp] theorem biV_min (xs : List D) : biV .min xs = (D.viewL xs).bind fun ps => (minD ps).map .dat := rfl
@[simp] theorem biV_max (xs : List D) : biV .max xs = (D.viewL xs).bind fun ps => (maxD ps).map .dat := rfl
@[simp] theorem biV_all (xs : List D) : biV .all xs = (D.viewL xs).bind fun ps => (allD ps).map .dat := rfl
@[simp] theorem biV_any (xs : List D) : biV .any xs = (D.viewL xs).bind fun ps => (anyD ps).map .dat := rfl
@[simp] theorem biV_repr (xs : List D) : biV .repr xs = (D.viewL xs).bind fun ps => (biD .repr ps).map .dat := rfl
@[simp] theorem biV_list (xs : List D) : biV .list xs = (D.fzL xs).bind listD := rfl
@[simp] theorem biV_sorted (xs : List D) : biV .sorted xs = (D.fzL xs).bind (sortD false) := rfl
@[simp] theorem biV_sortedRev (xs : List D) : biV .sortedRev xs = (D.fzL xs).bind (sortD true) := rfl
@[simp] theorem biV_lset (xs : List D) : biV .lset xs = (D.viewL xs).bind fun ps => (lsetD ps).map .dat := rfl
@[simp] theorem biV_tuple (xs : List D) : biV .tuple xs = (D.fzL xs).bind tupleD := rfl
@[simp] theorem listD_l (xs : List PyData) : listD [.list xs] = some (.lst (dd xs)) := rfl
@[simp] theorem listD_t (xs : List PyData) : listD [.tuple xs] = some (.lst (dd xs)) := rfl
@[simp] theorem listD_s (x : Str) : listD [.str x] = if fits x.length then some (.lst (dd (signsD x))) else none := rfl
@[simp] theorem tupleD_l (xs : List PyData) : tupleD [.list xs] = some (.dat (.tuple xs)) := rfl
@[simp] theorem tupleD_t (xs : List PyData) : tupleD [.tuple xs] = some (.dat (.tuple xs)) := rfl
@[simp] theorem lenD_l (xs : List PyData) : lenD [.list xs] = some (.int xs.length) := rfl
@[simp] theorem lenD_t (xs : List PyData) : lenD [.tuple xs] = some (.int xs.length) := rfl
@[simp] theorem lenD_s (z : Str) : lenD [.str z] = if fits z.length then some (.int z.length) else none := rfl
@[simp] theorem absD_i (i : Int) : absD [.int i] = some (.int (i.natAbs : Int)) := by
  simp only [absD]
  congr 2
  split <;> omega
@[simp] theorem intD_b (k : Bool) : intD [.bool k] = some (.int (if k then 1 else 0)) := rfl
@[simp] theorem intD_i (k : Int) : intD [.int k] = some (.int k) := rfl
@[simp] theorem isiV_eq (x : D) (t : String) : isiV x [t] = x.view.map fun d => isiD d t := by
  unfold isiV
  congr 1
  funext d
  simp
@[simp] theorem isi_int_i (i : Int) : isiD (.int i) "int" = true := rfl
@[simp] theorem isi_int_b (i : Bool) : isiD (.bool i) "int" = true := rfl
@[simp] theorem isi_bool_i (i : Int) : isiD (.int i) "bool" = false := rfl
@[simp] theorem isi_bool_b (i : Bool) : isiD (.bool i) "bool" = true := rfl
@[simp] theorem isi_tup_t (xs : List PyData) : isiD (.tuple xs) "tuple" = true := rfl
@[simp] theorem isi_tup_l (xs : List PyData) : isiD (.list xs) "tuple" = false := rfl
@[simp] theorem isi_tup_i (i : Int) : isiD (.int i) "tuple" = false := rfl
@[simp] theorem isi_tup_b (i : Bool) : isiD (.bool i) "tuple" = false := rfl
@[simp] theorem isi_tup_s (i : Str) : isiD (.str i) "tuple" = false := rfl
@[simp] theorem isi_tup_n : isiD .none "tuple" = false := rfl
@[simp] theorem isi_str_s (i : Str) : isiD (.str i) "str" = true := rfl
@[simp] theorem slV_l (xs : List PyData) (lo hi : Option Int) : slV (.dat (.list xs)) lo hi = some (.lst (dd (cutL xs lo hi))) := rfl
@[simp] theorem slV_t (xs : List PyData) (lo hi : Option Int) : slV (.dat (.tuple xs)) lo hi = some (.dat (.tuple (cutL xs lo hi))) := rfl
@[simp] theorem slV_s (z : Str) (lo hi : Option Int) : slV (.dat (.str z)) lo hi = if fits z.length then some (.dat (.str (cutZ z lo hi))) else none := rfl
@[simp] theorem slV_dd (xs : List PyData) (lo hi : Option Int) : slV (.lst (dd xs)) lo hi = some (.lst (dd (cutL xs lo hi))) := by
  unfold slV
  rw [fz_lst, fzL_dd]
  rfl
/-! purity -/
@[simp] theorem pu_var (i : Nat) : (E.var i).pure = true := rfl
@[simp] theorem pu_cst (d : PyData) : (E.cst d).pure = true := rfl
@[simp] theorem pu_glo (x : Str) (d : PyData) : (E.glo x d).pure = true := rfl
@[simp] theorem pu_rd (p : P) : (E.rd p).pure = p.pure := by simp [E.pure]
@[simp] theorem pu_bp (p : P) : (E.bp p).pure = p.pure := by simp [E.pure]
@[simp] theorem pu_root (i : Nat) : (P.root i).pure = true := by simp [P.pure]
@[simp] theorem pu_idx (p : P) (e : E) : (P.idx p e).pure = (p.pure && e.pure) := by simp [P.pure]
@[simp] theorem pu_bin (o : Operator) (a b : E) : (E.bin o a b).pure = (a.pure && b.pure) := by simp [E.pure]
@[simp] theorem pu_bi (b : Bi) (es : Es) : (E.bi b es).pure = es.pure := by simp [E.pure]
@[simp] theorem pu_frz (a : E) : (E.frz a).pure = a.pure := by simp [E.pure]
@[simp] theorem pu_nil : Es.nil.pure = true := by simp [Es.pure]
@[simp] theorem pu_cons (e : E) (r : Es) : (Es.cons e r).pure = (e.pure && r.pure) := by simp [Es.pure]
@[simp] theorem pu_lst (es : Es) : (E.lst es).pure = es.pure := by simp [E.pure]
@[simp] theorem pu_tup (es : Es) : (E.tup es).pure = es.pure := by simp [E.pure]
@[simp] theorem pu_ix (a i : E) : (E.ix a i).pure = (a.pure && i.pure) := by simp [E.pure]
@[simp] theorem pu_neg (a : E) : (E.neg a).pure = a.pure := by simp [E.pure]
@[simp] theorem pu_mv (i : Nat) : (E.mv i).pure = false := by simp [E.pure]
@[simp] theorem pu_call (n : Nat) (f : Str) (as : As) : (E.call n f false as).pure = false := by simp [E.pure]
@[simp] theorem pu_comp (e : E) (t : T) (it : I) (c : O) (own : List Nat) : (E.comp e t it c own).pure = false := by simp [E.pure]
@[simp] theorem pu_anil : As.nil.pure = true := by simp [As.pure]
@[simp] theorem pu_aval (e : E) (r : As) : (As.val e r).pure = (e.pure && r.pure) := by simp [As.pure]
/-! calls -/
@[simp] theorem takeAs_n (ρ : Env) : takeAs [] ρ = some ([], [], ρ) := rfl
@[simp] theorem takeAs_v (d : D) (r : List Ar) (ρ : Env) : takeAs (.val d :: r) ρ = (match takeAs r ρ with
    | some (ds, bs, ρ') => some (d :: ds, none :: bs, ρ')
    | none => none) := rfl
@[simp] theorem takeAs_l (i : Nat) (sel : List Sel) (r : List Ar) (ρ : Env) : takeAs (.look i sel :: r) ρ = (match takeAs r ρ with
    | some (ds, bs, ρ') => (match getS (slot ρ' i) sel with
      | some x => (match x.view with
        | some d => some (borD d :: ds, none :: bs, ρ')
        | none => none)
      | none => none)
    | none => none) := rfl
@[simp] theorem takeAs_r (i : Nat) (sel : List Sel) (r : List Ar) (ρ : Env) : takeAs (.ref i sel :: r) ρ = (match getS (slot ρ i) sel with
    | some x => if isDead x then none else (match takeAs r (ρ.set i .dead) with
      | some (ds, bs, ρ') => some (x :: ds, some ⟨i, slot ρ i, sel⟩ :: bs, ρ')
      | none => none)
    | none => none) := by
  rw [takeAs]
  cases getS (slot ρ i) sel with
  | none => rfl
  | some d => cases d <;> rfl
@[simp] theorem putBack_n (ρ : Env) : putBack [] [] ρ = some ρ := rfl
@[simp] theorem putBack_v (r : List (Option Back)) (o : D) (os ρ : Env) : putBack (none :: r) (o :: os) ρ = putBack r os ρ := rfl
@[simp] theorem putBack_r (b : Back) (r : List (Option Back)) (o : D) (os ρ : Env) : putBack (some b :: r) (o :: os) ρ = if o.own then (match putS b.d b.sel o with
    | some d => if b.i < ρ.length then putBack r os (ρ.set b.i d) else none
    | none => none) else none := rfl
@[simp] theorem outs_n (ρ : Env) : outsOf [] ρ = [] := rfl
@[simp] theorem outs_t (r : List Bool) (d : D) (ρ : Env) : outsOf (true :: r) (d :: ρ) = d :: outsOf r ρ := rfl
@[simp] theorem outs_f (r : List Bool) (d : D) (ρ : Env) : outsOf (false :: r) (d :: ρ) = .dead :: outsOf r ρ := rfl
/-- what a run tells, by its body -/
def told (io : List Bool) : SR → FR
  | .rt d ρ => .ret d (outsOf io ρ)
  | .nx ρ => .ret (.dat .none) (outsOf io ρ)
  | .ex x ρ => .ex x (outsOf io ρ)
  | .no => .no
@[simp] theorem told_rt (io : List Bool) (d : D) (ρ : Env) : told io (.rt d ρ) = .ret d (outsOf io ρ) := rfl
@[simp] theorem told_nx (io : List Bool) (ρ : Env) : told io (.nx ρ) = .ret (.dat .none) (outsOf io ρ) := rfl
@[simp] theorem told_ex (io : List Bool) (x : D) (ρ : Env) : told io (.ex x ρ) = .ex x (outsOf io ρ) := rfl
theorem runF_eq {G : List Fn} {f : FnIR} {ds : List D} (h : ds.length = f.io.length ∧ f.io.length ≤ f.n) : runF G f ds = told f.io (exSs G f.body (ds ++ List.replicate (f.n - ds.length) .dead)) := by
  unfold runF
  rw [if_pos h]
  cases exSs G f.body (ds ++ List.replicate (f.n - ds.length) .dead) <;> rfl
@[simp] theorem unlock_n (ρ : Env) : unlock none ρ = some ρ := rfl
@[simp] theorem unlock_s (i : Nat) (d : D) (ρ : Env) : unlock (some (i, d)) ρ = (match slot ρ i with | .dead => some (ρ.set i d) | _ => none) := rfl
@[simp] theorem sunl_n (r : SR) : r.unlock none = r := by cases r <;> rfl
@[simp] theorem fits_le {n : Nat} (h : n ≤ 16777216) : fits n = true := decide_eq_true h
theorem fits_eq (n : Nat) : fits n = decide (n ≤ 16777216) := rfl
@[simp] theorem kIv_dat (d : PyData) (ρ : Env) : kIv (.dat d) ρ = (match (itemsS d).map (·.map D.dat) with | some xs => .ok (xs, none) ρ | none => .no) := rfl
/-- a comprehension over data that changes nothing -/
theorem comp_dat {G : List Fn} {elt : E} {t : T} {it : I} {c : O} {own : List Nat} {ρ ρ1 ρ3 : Env} {w : Option (Nat × D)} (ds : List PyData) (k : PyData → Bool) (g : PyData → PyData) (hi : evI G it ρ = .ok (dd ds, w) ρ1)
    (h : ∀ d ∈ ds, ∃ ρx, storeT t (.dat d) (wipeE ρ1 own) = some ρx ∧ wipeE ρx own = wipeE ρ1 own ∧ evC G c ρx = .ok (.dat (.bool (k d))) ρx ∧ (k d = true → ∃ y, evE G elt ρx = .ok y ρx ∧ y.fz = some (g d)))
    (hf : (ds.filter k).length ≤ 16777216) (hu : unlock w ρ1 = some ρ3) : evE G (.comp elt t it c own) ρ = .ok (.lst (dd ((ds.filter k).map g))) ρ3 := by
  have e : ∀ ds : List PyData, (((dd ds).filter fun d => match d with | .dat z => k z | _ => false).map fun d => match d with | .dat z => g z | _ => .none) = (ds.filter k).map g := by
    intro ds
    induction ds with
    | nil => rfl
    | cons d ds ih =>
      rw [dd_c, List.filter_cons, List.filter_cons]
      by_cases hk : k d = true
      · rw [if_pos hk, if_pos hk, List.map_cons, List.map_cons, ih]
      · rw [if_neg hk, if_neg hk, ih]
  have := comp_pure (G := G) (elt := elt) (t := t) (it := it) (c := c) (own := own) (ρ := ρ) (ρ1 := ρ1) (ρ3 := ρ3) (items := dd ds) (w := w) (fun d => match d with | .dat z => k z | _ => false) (fun d => match d with | .dat z => g z | _ => .none) hi
    (fun x hx => by
      obtain ⟨z, hz, rfl⟩ := List.mem_map.mp hx
      exact h z hz) (by rw [e, List.length_map]; exact decide_eq_true hf) hu
  rw [this, e]; rfl
theorem comp_map {G : List Fn} {elt : E} {t : T} {it : I} {own : List Nat} {ρ ρ1 ρ3 : Env} {w : Option (Nat × D)} (ds : List PyData) (g : PyData → PyData) (hi : evI G it ρ = .ok (dd ds, w) ρ1)
    (h : ∀ d ∈ ds, ∃ ρx, storeT t (.dat d) (wipeE ρ1 own) = some ρx ∧ wipeE ρx own = wipeE ρ1 own ∧ ∃ y, evE G elt ρx = .ok y ρx ∧ y.fz = some (g d))
    (hf : ds.length ≤ 16777216) (hu : unlock w ρ1 = some ρ3) : evE G (.comp elt t it .none own) ρ = .ok (.lst (dd (ds.map g))) ρ3 := by
  have := comp_dat (c := .none) ds (fun _ => true) g hi (fun d hd => by
    obtain ⟨ρx, h1, h2, h3⟩ := h d hd
    exact ⟨ρx, h1, h2, by simp, fun _ => h3⟩) (by rw [List.filter_eq_self.mpr (by simp)]; exact hf) hu
  rw [this, List.filter_eq_self.mpr (by simp)]
theorem mulOk_of {i j : Int} (hi : i.natAbs < 2 ^ 4000) (hj : j.natAbs < 2 ^ 4000) : mulOk i j = true := by
  have z : ∀ k : Nat, k < 2 ^ 4000 → k.log2 < 4000 := fun k h => by
    by_cases e : k = 0
    · subst e; decide
    · exact (Nat.log2_lt e).mpr h
  exact decide_eq_true (by have := z _ hi; have := z _ hj; omega)
theorem divOk_of {j : Int} (h0 : j ≠ 0) (h : j.natAbs < 2 ^ 4000) : divOk j = true := by
  unfold divOk
  have : j.natAbs.log2 < 4000 := (Nat.log2_lt (by omega)).mpr h
  simp [h0]; omega
/-- a loop whose state is told -/
theorem forL_pre {α β : Type} {t : T} {b : Env → SR} (enc : α → Env) (val : β → D) (step : α → β → α) : ∀ (xs : List β) (s0 : α),
    (∀ p x r, xs = p ++ x :: r → ∃ ρ1, storeT t (val x) (enc (p.foldl step s0)) = some ρ1 ∧ b ρ1 = .nx (enc (step (p.foldl step s0) x))) → forL t b (xs.map val) (enc s0) = .nx (enc (xs.foldl step s0))
  | [], _, _ => rfl
  | x :: xs, s0, h => by
    obtain ⟨ρ1, e1, e2⟩ := h [] x xs rfl
    simp only [List.foldl_nil] at e1 e2
    rw [List.map_cons, forL, e1]
    simp only [e2, nx_bind]
    rw [List.foldl_cons]
    exact forL_pre enc val step xs (step s0 x) fun p y r e => h (x :: p) y r (by rw [e]; rfl)
@[simp] theorem pm_extend (xs ys : List PyData) : pmD .extend (dd xs) [.lst (dd ys)] = if xs.length + ys.length ≤ 16777216 then some (dd (xs ++ ys), .dat .none) else none := by
  simp only [pmD, length_dd, ownL_dd, Bool.and_true, dd_a, fits_eq, decide_eq_true_eq]
theorem rngL_dd (n : Nat) : rngL 0 n = dd ((List.range n).map fun (k : Nat) => PyData.int (k : Int)) := by
  unfold rngL dd
  rw [List.map_map]
  refine List.map_congr_left fun k _ => ?_
  simp
@[simp] theorem rngOk_s {j : Int} (h : 0 ≤ j ∧ j ≤ 1000000) : rngOk j = true := by
  refine decide_eq_true ?_
  by_cases e : j.natAbs = 0
  · rw [e]; decide
  · exact (Nat.log2_lt e).mpr (by omega)
@[simp] theorem kBin1_lst {G : List Fn} (o : Operator) (b : E) (xs : List D) (ρ : Env) : kBin1 G o b (.lst xs) ρ = if D.ntrL xs || b.pure then (evE G b ρ).bind (kBin2 o (.lst xs)) else .no := by unfold kBin1; rw [ntr_lst]
@[simp] theorem kBin2_ll (o : Operator) (xs ys : List D) (ρ : Env) : kBin2 o (.lst xs) (.lst ys) ρ = (match (D.fzL xs).map PyData.list, (D.fzL ys).map PyData.list with | some x, some y => R.of (binD o x y) ρ | _, _ => .no) := by
  unfold kBin2
  rw [fz_lst, fz_lst]
  all_goals (cases (D.fzL xs).map PyData.list <;> cases (D.fzL ys).map PyData.list <;> rfl)
@[simp] theorem kBin2_ld (o : Operator) (xs : List D) (y : PyData) (ρ : Env) : kBin2 o (.lst xs) (.dat y) ρ = (match (D.fzL xs).map PyData.list with | some x => R.of (binD o x y) ρ | _ => .no) := by
  unfold kBin2
  rw [fz_lst, fz_dat]
  all_goals (cases (D.fzL xs).map PyData.list <;> rfl)
@[simp] theorem kBin2_dl (o : Operator) (ys : List D) (x : PyData) (ρ : Env) : kBin2 o (.dat x) (.lst ys) ρ = (match (D.fzL ys).map PyData.list with | some y => R.of (binD o x y) ρ | _ => .no) := by
  unfold kBin2
  rw [fz_lst, fz_dat]
  all_goals (cases (D.fzL ys).map PyData.list <;> rfl)
@[simp] theorem pm_append (xs : List PyData) (y : PyData) : pmD .append (dd xs) [.dat y] = if xs.length < 16777216 then some (dd (xs ++ [y]), .dat .none) else none := by
  simp only [pmD, length_dd, decide_eq_true_eq, own_dat, if_true, dd_a]
  rfl
theorem pw_s {x : Nat} (h : x < 2 ^ 200) : x < 2 ^ 4000 := Nat.lt_of_lt_of_le h (Nat.pow_le_pow_right (by decide) (by decide))
theorem mulOk_s {i j : Int} (hi : i.natAbs < 2 ^ 200) (hj : j.natAbs < 2 ^ 200) : mulOk i j = true := mulOk_of (pw_s hi) (pw_s hj)
theorem divOk_s {j : Int} (h0 : j ≠ 0) (h : j.natAbs < 2 ^ 200) : divOk j = true := divOk_of h0 (pw_s h)
end
end DE
end

section
set_option Elab.async false
set_option linter.all false
/-! PU: loops and comprehensions whose state is told. -/
namespace DE
open PySem
noncomputable section
theorem dd_get {ds : List PyData} {i : Nat} {x : D} (h : (dd ds)[i]? = some x) : ∃ d, x = .dat d ∧ ds[i]? = some d := by
  unfold dd at h
  rw [List.getElem?_map] at h
  obtain ⟨d, e, rfl⟩ := Option.map_eq_some_iff.mp h
  exact ⟨d, rfl, e⟩
theorem slot_wipe {ρ : Env} {vs : List Nat} (h : wipeE ρ vs = ρ) {v : Nat} (hv : v ∈ vs) : slot ρ v = .dead := by
  by_cases l : v < ρ.length
  · have e := congrArg (fun l => l[v]?) h
    simp only [getE_wipe] at e
    rw [if_pos ⟨hv, l⟩] at e
    unfold slot
    rw [List.getD_eq_getElem?_getD, ← e]; rfl
  · unfold slot
    rw [List.getD_eq_getElem?_getD, List.getElem?_eq_none (by omega)]; rfl
theorem back_dead {ρ0 ρ : Env} {vs : List Nat} (h : wipeE ρ0 vs = ρ0) : backE ρ0 ρ vs = wipeE ρ vs := by
  apply List.ext_getElem?
  intro j
  rw [getE_back, getE_wipe]
  by_cases hj : j ∈ vs ∧ j < ρ.length
  · rw [if_pos hj, if_pos hj, slot_wipe h hj.1]
  · rw [if_neg hj, if_neg hj]
/-- a comprehension with a state, all of whose items are kept -/
theorem comp_st {σ β : Type} {G : List Fn} {elt : E} {t : T} {it : I} {own : List Nat} {ρ : Env} {w : Option (Nat × D)} {items : List D} {s0 : σ} (enc : σ → Env) (I : Nat → σ → Prop) (V : Nat → β → Prop) (val : β → PyData) (hi : evI G it ρ = .ok (items, w) (enc s0)) (h0 : I 0 s0) (hw : ∀ s, wipeE (enc s) own = enc s)
    (step : ∀ i x s, items[i]? = some x → I i s → ∃ ρ1 ρ2 y b s', storeT t x (enc s) = some ρ1 ∧ evE G elt ρ1 = .ok y ρ2 ∧ y.fz = some (val b) ∧ V i b ∧ wipeE ρ2 own = enc s' ∧ I (i + 1) s') (hl : items.length ≤ 16777216) :
    ∃ (bs : List β) (s' : σ), (∀ ρ3, unlock w (enc s') = some ρ3 → evE G (.comp elt t it .none own) ρ = .ok (.lst (dd (bs.map val))) ρ3) ∧ I items.length s' ∧ bs.length = items.length ∧ ∀ i b, bs[i]? = some b → V i b := by
  have go : ∀ (its : List D) (n : Nat) (ρ : Env) (s : σ), (∀ i, its[i]? = items[n + i]?) → wipeE ρ own = enc s → I n s → ∃ (bs : List β) (ρ' : Env) (s' : σ), compL own t (evC G .none) (evE G elt) its ρ = .ok (bs.map val) ρ' ∧ wipeE ρ' own = enc s' ∧ I (n + its.length) s' ∧ bs.length = its.length ∧ ∀ i b, bs[i]? = some b → V (n + i) b := by
    intro its
    induction its with
    | nil => intro n ρ s _ hs h; exact ⟨[], ρ, s, rfl, hs, h, rfl, fun i b z => by simp at z⟩
    | cons x r ih =>
      intro n ρ s hn hs h
      obtain ⟨ρ1, ρ2, y, b, s1, e1, e2, e3, v, e4, h1⟩ := step n x s (by have := hn 0; simpa using this.symm) h
      obtain ⟨bs, ρ', s', e5, e6, h2, l, v2⟩ := ih (n + 1) ρ2 s1 (fun i => by have := hn (i + 1); rw [show n + 1 + i = n + (i + 1) by omega, ← this]; simp) e4 h1
      refine ⟨b :: bs, ρ', s', ?_, e6, by rw [List.length_cons, show n + (r.length + 1) = n + 1 + r.length by omega]; exact h2, by simp [l], fun i b' z => ?_⟩
      · rw [compL, hs, e1]
        simp only [s_cnone, nox_ok, bind_ok, e2, e3, e5, List.map_cons]
      · cases i with
        | zero => simp at z; subst z; exact v
        | succ i => rw [show n + (i + 1) = n + 1 + i by omega]; exact v2 i b' (by simpa using z)
  obtain ⟨bs, ρ', s', e, e2, h, l, v⟩ := go items 0 (enc s0) s0 (fun i => by simp) (hw s0) h0
  refine ⟨bs, s', fun ρ3 hu => ?_, by simpa using h, l, fun i b z => by simpa using v i b z⟩
  rw [s_comp, hi, bind_ok, kComp1_eq, e, bind_ok, kComp2_eq, if_pos (show fits (bs.map val).length = true from decide_eq_true (by simp [l]; omega)), back_dead (hw s0), e2, hu]
  rfl
/-- .. its items data, no slot shut -/
theorem comp_st0 {σ β : Type} {G : List Fn} {elt : E} {t : T} {it : I} {own : List Nat} {ρ : Env} {items : List PyData} {s0 : σ} (enc : σ → Env) (I : Nat → σ → Prop) (V : Nat → β → Prop) (val : β → PyData) (hi : evI G it ρ = .ok (dd items, none) (enc s0)) (h0 : I 0 s0) (hw : ∀ s, wipeE (enc s) own = enc s)
    (step : ∀ i d s, items[i]? = some d → I i s → ∃ ρ1 ρ2 y b s', storeT t (.dat d) (enc s) = some ρ1 ∧ evE G elt ρ1 = .ok y ρ2 ∧ y.fz = some (val b) ∧ V i b ∧ wipeE ρ2 own = enc s' ∧ I (i + 1) s') (hl : items.length ≤ 16777216) :
    ∃ (bs : List β) (s' : σ), evE G (.comp elt t it .none own) ρ = .ok (.lst (dd (bs.map val))) (enc s') ∧ I items.length s' ∧ bs.length = items.length ∧ ∀ i b, bs[i]? = some b → V i b := by
  obtain ⟨bs, s', e, h, l, v⟩ := comp_st (items := dd items) enc I V val hi h0 hw (fun i x s hx hs => by
    obtain ⟨d, rfl, e⟩ := dd_get hx
    exact step i d s e hs) (by simpa using hl)
  exact ⟨bs, s', e _ rfl, by simpa using h, by simpa using l, v⟩
theorem forL_st {σ : Type} {t : T} {b : Env → SR} (enc : σ → Env) (I : Nat → σ → Prop) (items : List D) (s0 : σ) (h0 : I 0 s0)
    (step : ∀ i x s, items[i]? = some x → I i s → ∃ ρ1 s', storeT t x (enc s) = some ρ1 ∧ b ρ1 = .nx (enc s') ∧ I (i + 1) s') : ∃ s', forL t b items (enc s0) = .nx (enc s') ∧ I items.length s' := by
  obtain ⟨ρ', e, s', rfl, h⟩ := forL_all (t := t) (b := b) (fun j ρ => ∃ s, ρ = enc s ∧ I j s) items 0 (enc s0) ⟨s0, rfl, h0⟩ (fun i x ρ hx ⟨s, e, hs⟩ => by
    subst e
    rw [Nat.zero_add] at hs ⊢
    obtain ⟨ρ1, s', e1, e2, h⟩ := step i x s hx hs
    exact ⟨ρ1, _, e1, e2, s', rfl, h⟩)
  rw [Nat.zero_add] at h
  exact ⟨s', e, h⟩
/-- a loop that may tell -/
theorem forL_stR {σ : Type} {t : T} {b : Env → SR} (enc : σ → Env) (I : Nat → σ → Prop) (Rt : D → Env → Prop) (items : List D) (s0 : σ) (h0 : I 0 s0)
    (step : ∀ i x s, items[i]? = some x → I i s → ∃ ρ1, storeT t x (enc s) = some ρ1 ∧ ((∃ s', b ρ1 = .nx (enc s') ∧ I (i + 1) s') ∨ ∃ d ρ2, b ρ1 = .rt d ρ2 ∧ Rt d ρ2)) : (∃ s', forL t b items (enc s0) = .nx (enc s') ∧ I items.length s') ∨ ∃ d ρ2, forL t b items (enc s0) = .rt d ρ2 ∧ Rt d ρ2 := by
  have := forL_upto (t := t) (b := b) (fun j ρ => ∃ s, ρ = enc s ∧ I j s) Rt items 0 (enc s0) ⟨s0, rfl, h0⟩ (fun i x ρ hx ⟨s, e, hs⟩ => by
    subst e
    rw [Nat.zero_add] at hs ⊢
    obtain ⟨ρ1, e1, h⟩ := step i x s hx hs
    refine ⟨ρ1, e1, ?_⟩
    rcases h with ⟨s', e2, h⟩ | h
    · exact .inl ⟨_, e2, s', rfl, h⟩
    · exact .inr h)
  rcases this with ⟨ρ', e, s', rfl, h⟩ | h
  · rw [Nat.zero_add] at h
    exact .inl ⟨s', e, h⟩
  · exact .inr h
theorem whl_st {σ : Type} {c : Env → R D} {b : Env → SR} (enc : σ → Env) (I P : σ → Prop) (m : σ → Nat) (step : ∀ s, I s → (c (enc s) = .ok (.dat (.bool false)) (enc s) ∧ P s) ∨ ∃ s', c (enc s) = .ok (.dat (.bool true)) (enc s) ∧ b (enc s) = .nx (enc s') ∧ I s' ∧ m s' < m s) : ∀ s0, I s0 → ∃ s', whileU c b (enc s0) = .nx (enc s') ∧ I s' ∧ P s' := by
  intro s0
  obtain ⟨n, hn⟩ : ∃ n, m s0 = n := ⟨_, rfl⟩
  induction n using Nat.strongRecOn generalizing s0 with
  | ind n ih =>
    intro h0
    rcases step s0 h0 with ⟨e, p⟩ | ⟨s', e1, e2, h, lt⟩
    · exact ⟨s0, whileU_false e, h0, p⟩
    · rw [whileU_true e1 e2]
      exact ih (m s') (by omega) s' rfl h
end
end DE
end

section
set_option Elab.async false
set_option linter.all false
/-! PV: repr, ==, sorted of small data. -/
namespace DE
open PySem
/-- data whose repr is told -/
structure Rep (d : PyData) : Prop where
  val : biD .repr [d] = some (.str d.shown)
  ok : PyData.strOk d.shown = true
theorem Rep.of {d : PyData} (h : rOk d = true) (dp : d.depth ≤ 64) (w : wid d ≤ 16777216) : Rep d := ⟨repr_val h dp w, shown_ok h⟩
theorem Rep.ne {d : PyData} (h : Rep d) : cmpD .NotEq (.str d.shown) (.str d.shown) = some false := by rw [ne_str h.ok h.ok]; simp
theorem Rep.eq {d : PyData} (h : Rep d) : cmpD .Eq (.str d.shown) (.str d.shown) = some true := by rw [eq_str h.ok h.ok]; simp
mutual
/-- data of whole numbers, texts, nothing -/
def iOk : PyData → Bool
  | .none => true
  | .int _ => true
  | .str x => PyData.strOk x
  | .list xs => iOkL xs
  | .tuple xs => iOkL xs
  | _ => false
def iOkL : List PyData → Bool
  | [] => true
  | x :: xs => iOk x && iOkL xs
end
mutual
theorem eqv_iOk : ∀ {a b : PyData}, iOk a = true → iOk b = true → PyData.eqv a b = decide (a = b)
  | .none, b, _, hb => by cases b <;> simp_all [iOk, PyData.eqv]
  | .int i, b, _, hb => by
    cases b <;> simp_all [iOk, PyData.eqv]
    all_goals rfl
  | .str x, b, _, hb => by
    cases b <;> simp_all [iOk, PyData.eqv]
    all_goals (rw [Bool.eq_iff_iff]; simp)
  | .list xs, b, ha, hb => by
    cases b with
    | list ys =>
      have := eqvL_iOk (a := xs) (b := ys) (by simpa [iOk] using ha) (by simpa [iOk] using hb)
      simp [PyData.eqv, this]
    | _ => simp_all [iOk, PyData.eqv]
  | .tuple xs, b, ha, hb => by
    cases b with
    | tuple ys =>
      have := eqvL_iOk (a := xs) (b := ys) (by simpa [iOk] using ha) (by simpa [iOk] using hb)
      simp [PyData.eqv, this]
    | _ => simp_all [iOk, PyData.eqv]
  | .bool _, _, ha, _ => by simp [iOk] at ha
  | .dict _, _, ha, _ => by simp [iOk] at ha
theorem eqvL_iOk : ∀ {a b : List PyData}, iOkL a = true → iOkL b = true → PyData.eqvAll a b = decide (a = b)
  | [], [], _, _ => by simp [PyData.eqvAll]
  | [], _ :: _, _, _ => by simp [PyData.eqvAll]
  | _ :: _, [], _, _ => by simp [PyData.eqvAll]
  | x :: xs, y :: ys, ha, hb => by
    simp only [iOkL, Bool.and_eq_true] at ha hb
    rw [PyData.eqvAll, eqv_iOk ha.1 hb.1, eqvL_iOk ha.2 hb.2]
    simp
end
mutual
theorem canLay_iOk : ∀ {a : PyData}, iOk a = true → a.canLay0 = true
  | .none, _ => by simp [PyData.canLay0]
  | .int _, _ => by simp [PyData.canLay0]
  | .str x, h => by simpa [PyData.canLay0, iOk] using h
  | .list xs, h => by simpa [PyData.canLay0] using canLayL_iOk (a := xs) (by simpa [iOk] using h)
  | .tuple xs, h => by simpa [PyData.canLay0] using canLayL_iOk (a := xs) (by simpa [iOk] using h)
  | .bool _, h => by simp [iOk] at h
  | .dict _, h => by simp [iOk] at h
theorem canLayL_iOk : ∀ {a : List PyData}, iOkL a = true → PyData.canLayAll0 a = true
  | [], _ => by simp [PyData.canLayAll0]
  | x :: xs, h => by
    simp only [iOkL, Bool.and_eq_true] at h
    simp [PyData.canLayAll0, canLay_iOk h.1, canLayL_iOk h.2]
end
theorem shaped_iOk {a : PyData} (h : iOk a = true) (d : a.depth ≤ 64) : SeqAt.shaped a = true := by
  unfold SeqAt.shaped
  simp [canLay_iOk h]
  omega
theorem eqI {a b : PyData} (ha : iOk a = true) (hb : iOk b = true) (da : a.depth ≤ 64) (db : b.depth ≤ 64) : cmpD .Eq a b = some (decide (a = b)) := by
  simp only [cmpD, shaped_iOk ha da, shaped_iOk hb db, Bool.and_self, if_true, eqv_iOk ha hb]
theorem neI {a b : PyData} (ha : iOk a = true) (hb : iOk b = true) (da : a.depth ≤ 64) (db : b.depth ≤ 64) : cmpD .NotEq a b = some (!decide (a = b)) := by
  simp only [cmpD, shaped_iOk ha da, shaped_iOk hb db, Bool.and_self, if_true, eqv_iOk ha hb]
theorem iOkL_all : ∀ {xs : List PyData}, (∀ x ∈ xs, iOk x = true) → iOkL xs = true
  | [], _ => rfl
  | x :: xs, h => by simp [iOkL, h x List.mem_cons_self, iOkL_all fun y hy => h y (List.mem_cons_of_mem _ hy)]
theorem rOkL_all : ∀ {xs : List PyData}, (∀ x ∈ xs, rOk x = true) → rOkL xs = true
  | [], _ => rfl
  | x :: xs, h => by simp [rOkL, h x List.mem_cons_self, rOkL_all fun y hy => h y (List.mem_cons_of_mem _ hy)]
theorem widL_le {n : Nat} : ∀ {xs : List PyData}, (∀ x ∈ xs, wid x ≤ n) → widL xs ≤ (n + 2) * xs.length
  | [], _ => by simp [widL]
  | x :: xs, h => by
    have h1 := h x List.mem_cons_self
    have h2 := widL_le fun y hy => h y (List.mem_cons_of_mem _ hy)
    simp only [widL, List.length_cons, Nat.mul_add] at *
    omega
theorem depthAll_le {n : Nat} : ∀ {xs : List PyData}, (∀ x ∈ xs, x.depth ≤ n) → PyData.depthAll xs ≤ n
  | [], _ => by simp [PyData.depthAll]
  | x :: xs, h => by
    have h1 := h x List.mem_cons_self
    have h2 := depthAll_le fun y hy => h y (List.mem_cons_of_mem _ hy)
    simp only [PyData.depthAll]
    omega
/-! sorted whole numbers -/
def leI (rev : Bool) (a b : Int) : Bool := if rev then decide (b ≤ a) else decide (a ≤ b)
def sortI (rev : Bool) (l : List Int) : List Int := l.mergeSort (leI rev)
theorem dataLe_int (rev : Bool) (a b : Int) : PySem.W.dataLe rev id (.int a) (.int b) = leI rev a b := by
  have h1 : PySem.W.dataLe rev id (.int a) (.int b) = cond rev (!PySem.W.dataLt (.int a) (.int b)) (!PySem.W.dataLt (.int b) (.int a)) := rfl
  rw [h1, PySem.W.dataLt_int, PySem.W.dataLt_int]
  unfold leI
  cases rev <;> (rw [Bool.eq_iff_iff]; simp)
theorem sortL_int (rev : Bool) (l : List Int) : sortL rev (l.map .int) = (sortI rev l).map .int := by
  unfold sortL sortI
  rw [List.map_mergeSort]
  intro a _ b _
  rw [dataLe_int]
theorem sortI_perm (rev : Bool) (l : List Int) : (sortI rev l).Perm l := List.mergeSort_perm _ _
theorem sortI_sorted (rev : Bool) (l : List Int) : (sortI rev l).Pairwise fun a b => leI rev a b = true :=
  List.pairwise_mergeSort (fun a b c h1 h2 => by unfold leI at *; cases rev <;> simp at * <;> omega) (fun a b => by unfold leI; cases rev <;> simp <;> omega) l
theorem sortI_eq {rev : Bool} {l m : List Int} (p : l.Perm m) (h : m.Pairwise fun a b => leI rev a b = true) : sortI rev l = m :=
  List.Perm.eq_of_pairwise (le := fun a b => leI rev a b = true) (fun a b _ _ h1 h2 => by unfold leI at *; cases rev <;> simp at * <;> omega) (sortI_sorted rev l) h ((sortI_perm rev l).trans p)
theorem sortI_rev (l : List Int) : sortI true l = (sortI false l).reverse :=
  sortI_eq ((sortI_perm false l).symm.trans (List.reverse_perm _).symm) (by
    rw [List.pairwise_reverse]
    exact (sortI_sorted false l).imp fun h => by unfold leI at *; simpa using h)
theorem sortI_idem (rev : Bool) (l : List Int) : sortI rev (sortI rev l) = sortI rev l := sortI_eq (List.Perm.refl _) (sortI_sorted rev l)
theorem sortI_length (rev : Bool) (l : List Int) : (sortI rev l).length = l.length := (sortI_perm rev l).length_eq
theorem sortOk_int {l : List Int} (h : l.length ≤ 16777216) : sortOk (l.map .int) = true := by
  simp [sortOk, List.all_eq_true, PySem.W.alike, PyData.depth, fits, h]
theorem sortD_ints {rev : Bool} {l : List Int} (h : l.length ≤ 16777216) : sortD rev [.list (l.map .int)] = some (.lst (dd ((sortI rev l).map .int))) ∧ sortD rev [.tuple (l.map .int)] = some (.lst (dd ((sortI rev l).map .int))) := by
  constructor <;> · rw [sortD, if_pos (sortOk_int h), sortL_int]; rfl

/-- xs[1:] -/
theorem cut1 {α : Type} (x : α) (r : List α) : cutL (x :: r) (some 1) none = r := by
  unfold cutL
  have h1 : HT.sIx (x :: r).length 0 (some 1) = 1 := by
    have := HT.sIx_nat (x :: r).length 0 1
    simp at this ⊢
    rw [this]
  have h2 : HT.sIx (x :: r).length (x :: r).length none = (x :: r).length := rfl
  rw [h1, h2]
  simp [List.take_of_length_le]
/-- small: repr, how wide, how deep -/
structure Sm (w dp : Nat) (d : PyData) : Prop where
  r : rOk d = true
  w : wid d ≤ w
  dp : d.depth ≤ dp
structure SmL (w dp : Nat) (ds : List PyData) : Prop where
  r : rOkL ds = true
  w : widL ds ≤ w
  dp : PyData.depthAll ds ≤ dp
theorem SmL.nil : SmL 0 0 [] := ⟨rfl, by simp [widL], by simp [PyData.depthAll]⟩
theorem SmL.cons {w w' dp dp' : Nat} {d : PyData} {ds : List PyData} (h : Sm w dp d) (t : SmL w' dp' ds) : SmL (w + 2 + w') (max dp dp') (d :: ds) :=
  ⟨by rw [rOkL, h.r, t.r]; rfl, by rw [widL]; have := h.w; have := t.w; omega, by rw [PyData.depthAll]; have := h.dp; have := t.dp; omega⟩
theorem SmL.tup {w dp : Nat} {ds : List PyData} (h : SmL w dp ds) : Sm (w + 3) (dp + 1) (.tuple ds) := ⟨by rw [rOk]; exact h.r, by rw [wid]; have := h.w; omega, by rw [PyData.depth]; have := h.dp; omega⟩
theorem SmL.lst {w dp : Nat} {ds : List PyData} (h : SmL w dp ds) : Sm (w + 3) (dp + 1) (.list ds) := ⟨by rw [rOk]; exact h.r, by rw [wid]; have := h.w; omega, by rw [PyData.depth]; have := h.dp; omega⟩
theorem Sm.mono {w w' dp dp' : Nat} {d : PyData} (h : Sm w dp d) (a : w ≤ w') (b : dp ≤ dp') : Sm w' dp' d := ⟨h.r, by have := h.w; omega, by have := h.dp; omega⟩
theorem Sm.rep {w dp : Nat} {d : PyData} (h : Sm w dp d) (a : w ≤ 16777216) (b : dp ≤ 64) : Rep d := .of h.r (by have := h.dp; omega) (by have := h.w; omega)
theorem sm_int {i : Int} (h : i.natAbs < 10 ^ 200) : Sm 201 0 (.int i) := ⟨by simp only [rOk, h, decide_true], by simp [wid], by simp [PyData.depth]⟩
theorem sm_bool (b : Bool) : Sm 5 0 (.bool b) := ⟨rfl, by simp [wid], by simp [PyData.depth]⟩
theorem sml_all {w dp : Nat} : ∀ {ds : List PyData}, (∀ d ∈ ds, Sm w dp d) → SmL ((w + 2) * ds.length) dp ds
  | [], _ => ⟨rfl, by simp [widL], by simp [PyData.depthAll]⟩
  | d :: ds, h => by
    have a := h d List.mem_cons_self
    have b := sml_all (ds := ds) fun e he => h e (List.mem_cons_of_mem _ he)
    refine ⟨by rw [rOkL, a.r, b.r]; rfl, ?_, ?_⟩
    · rw [widL, List.length_cons, Nat.mul_add]
      have := a.w
      have := b.w
      omega
    · rw [PyData.depthAll]
      have := a.dp
      have := b.dp
      omega
theorem sm_ints {l : List Int} (h : ∀ i ∈ l, i.natAbs < 10 ^ 200) : Sm (203 * l.length + 3) 1 (.tuple (l.map .int)) := by
  have := (sml_all (w := 201) (dp := 0) (ds := l.map PyData.int) fun d hd => by
    obtain ⟨i, hi, rfl⟩ := List.mem_map.mp hd
    exact sm_int (h i hi)).tup
  simpa using this
theorem sm_str {x : Str} (h : PyData.strOk (reprText x) = true) (h2 : (reprText x).length ≤ 100) : Sm 100 0 (.str x) := ⟨by rw [rOk]; exact h, by rw [wid]; exact h2, by simp [PyData.depth]⟩

/-! repr of any text -/
theorem char_lt (k : Char) : k.toNat < 0x110000 := by
  have h := k.valid
  simp only [UInt32.isValidChar, Nat.isValidChar] at h
  have ht : k.toNat = k.val.toNat := rfl
  rw [ht]
  omega
theorem reprChar_ok {q c : Nat} (hc : c < 0x110000) : ∀ d ∈ Builtin.Str.reprChar q c, d < 0x110000 := by
  have hx : ∀ d ∈ (Nat.toDigits 16 c).map Char.toNat, d < 0x110000 := fun d hd => by
    obtain ⟨k, _, rfl⟩ := List.mem_map.mp hd
    exact char_lt k
  have hr : ∀ n : Nat, ∀ d ∈ List.replicate n 48, d < 0x110000 := fun n d hd => by rw [(List.mem_replicate.mp hd).2]; decide
  intro d hd
  unfold Builtin.Str.reprChar at hd
  simp only at hd
  repeat' split at hd
  all_goals simp only [List.mem_append, List.mem_cons, List.not_mem_nil, or_false] at hd
  all_goals first
    | (rcases hd with rfl | rfl <;> omega)
    | (subst hd; omega)
    | (rcases hd with (rfl | rfl) | hd | hd <;> first | omega | exact hr _ _ hd | exact hx _ hd)
theorem foldl_repr_ok (q : Nat) : ∀ (l : List Nat) (acc : Array Nat), (∀ c ∈ l, c < 0x110000) → (∀ d ∈ acc.toList, d < 0x110000) → ∀ d ∈ (l.foldl (fun out c => out ++ (Builtin.Str.reprChar q c).toArray) acc).toList, d < 0x110000
  | [], acc, _, h => h
  | c :: r, acc, hc, h => by
    rw [List.foldl_cons]
    refine foldl_repr_ok q r _ (fun d hd => hc d (List.mem_cons_of_mem _ hd)) fun d hd => ?_
    rw [Array.toList_append, List.mem_append] at hd
    rcases hd with hd | hd
    · exact h d hd
    · exact reprChar_ok (hc c List.mem_cons_self) d hd
theorem strOk_iff {x : Str} : PyData.strOk x = true ↔ ∀ c ∈ x.cps.toList, c < 0x110000 := by
  unfold PyData.strOk
  rw [Array.all_eq_true']
  simp
theorem quote_lt (x : Str) : reprQuote x < 0x110000 := by unfold reprQuote; split <;> decide
theorem strOk_repr {x : Str} (h : PyData.strOk x = true) : PyData.strOk (reprText x) = true := by
  rw [strOk_iff] at h ⊢
  intro d hd
  unfold reprText at hd
  simp only [Array.toList_push, List.mem_append, List.mem_singleton] at hd
  rcases hd with hd | rfl
  · rw [← Array.foldl_toList] at hd
    exact foldl_repr_ok _ _ _ h (fun d hd => by simp at hd; subst hd; exact quote_lt x) d hd
  · exact quote_lt x
theorem sm_text {x : Str} (h : PyData.strOk x = true) : Sm (10 * x.length + 2) 0 (.str x) :=
  ⟨by rw [rOk]; exact strOk_repr h, by rw [wid]; exact StrLaws.reprText_len x fun c hc => by have := strOk_iff.mp h c hc; omega, by simp [PyData.depth]⟩
end DE
end

section
set_option Elab.async false
set_option linter.all false
set_option maxRecDepth 100000
set_option maxHeartbeats 0
namespace DE
open PySem PySem.Spec PyProof.Rows L2
abbrev PW : Program := PySem.Challenge.pw_shorterline_k55_rules_by_turns_refused
def top (i : Nat) : Stmt := PW.main.body.getD i (.Pass ⟨0, 0, 0, 0⟩)
def cbody : Stmt → List Stmt
  | .ClassDef (body := b) .. => b
  | _ => []
def mth (i j : Nat) : Stmt := (cbody (top i)).getD j (.Pass ⟨0, 0, 0, 0⟩)
def tb : Tb where
  blt := ["len", "range", "max", "sum", "tuple", "isinstance", "ValueError"]
  glb := [("TURNS", (.str "turns"))]
  exs := ["NoHall", "NoText", "TooMany", "NoShares", "NoBest", "NoNever", "NoFraction", "NoAlike", "NoBack", "NoRow"]
  rs := [("NoNever", ["word", "number"])]
  ups := [("LineError", ["NoHall", "NoText", "TooMany", "NoShares", "NoBest", "NoNever", "NoFraction", "NoAlike", "NoBack", "NoRow"]), ("NoAlike", ["NoAlike"]), ("NoBack", ["NoBack"]), ("NoBest", ["NoBest"]), ("NoFraction", ["NoFraction"]), ("NoHall", ["NoHall"]), ("NoRow", ["NoRow"]), ("NoShares", ["NoShares"]), ("NoText", ["NoText"]), ("TooMany", ["TooMany"]), ("NoNever", ["NoNever"]), ("ValueError", ["NoHall", "NoText", "TooMany", "NoShares", "NoBest", "NoNever", "NoFraction", "NoAlike", "NoBack", "NoRow"])]
  fds := ["word", "number"]
  cls := []
  ifs := []
/-! _law_tape -/
def N_w_tape : List Str := ["_law_script"]
def i_w_tape : FnIR := ⟨1, [false], (.cons (.ret (.dcK [(.inr "script"), (.inr "turn"), (.inr "left")] (.cons (.frz (.sl (.var 0) .none (.some (.cst (.int 63))))) (.cons (.cst (.int 0)) (.cons (.cst (.int 0)) .nil))))) .nil)⟩
noncomputable def d_w_tape : Fn := runF [] i_w_tape
def t_w_tape : FnT := ⟨"_law_tape", ["_law_script"], 1, none⟩
def fs_w_tape : List FnT := []
theorem c_w_tape : chkFn tb fs_w_tape 0 N_w_tape ["_law_script"] (top 58) i_w_tape = true := by kernel_rfl
/-! _law_draw -/
def N_w_draw : List Str := ["_law_tape_here", "_law_many", "_law_turn", "_law_cell", "_law_mixed", "_law_found"]
def i_w_draw : FnIR := ⟨6, [true, false], (.cons (.ifs (.cmp .Gt (.rd (.idx (.root 0) (.cst (.str "left")))) (.cst (.int 0))) (.cons (.asg (.nm 5) (.bin .Mod (.rd (.idx (.root 0) (.cst (.str "left")))) (.var 1))) (.cons (.set (.root 0) (.cst (.str "left")) (.bin .FloorDiv (.rd (.idx (.root 0) (.cst (.str "left")))) (.var 1))) (.cons (.ret (.var 5)) .nil))) .nil) (.cons (.asg (.nm 2) (.rd (.idx (.root 0) (.cst (.str "turn"))))) (.cons (.set (.root 0) (.cst (.str "turn")) (.bin .Add (.var 2) (.cst (.int 1)))) (.cons (.asg (.nm 3) (.bin .Mult (.cst (.int 31)) (.var 2))) (.cons (.ifs (.cmp .NotEq (.rd (.idx (.root 0) (.cst (.str "script")))) (.lst .nil)) (.cons (.asg (.nm 3) (.ix (.rd (.idx (.root 0) (.cst (.str "script")))) (.bin .Mod (.var 2) (.bi .len (.cons (.rd (.idx (.root 0) (.cst (.str "script")))) .nil))))) .nil) .nil) (.cons (.ifs (.and (.cmp .GtE (.var 3) (.bin .Pow (.cst (.int 10)) (.cst (.int 18)))) (.cmp .Lt (.var 2) (.bi .len (.cons (.rd (.idx (.root 0) (.cst (.str "script")))) .nil)))) (.cons (.set (.root 0) (.cst (.str "left")) (.bin .FloorDiv (.var 3) (.var 1))) (.cons (.ret (.bin .Mod (.var 3) (.var 1))) .nil)) .nil) (.cons (.asg (.nm 4) (.bin .Mod (.bin .Mult (.bin .Add (.bin .Add (.bin .Mod (.var 3) (.cst (.int 2147483629))) (.bin .Mult (.cst (.int 7919)) (.var 2))) (.cst (.int 104729))) (.cst (.int 48271))) (.cst (.int 2147483647)))) (.cons (.asg (.nm 4) (.bin .Mod (.bin .Mult (.bin .Add (.bin .Add (.bin .FloorDiv (.var 4) (.cst (.int 64))) (.bin .Mult (.cst (.int 6151)) (.var 2))) (.cst (.int 17))) (.cst (.int 69621))) (.cst (.int 2147483587)))) (.cons (.ret (.bin .Mod (.bin .FloorDiv (.var 4) (.cst (.int 64))) (.var 1))) .nil)))))))))⟩
noncomputable def d_w_draw : Fn := runF [] i_w_draw
def t_w_draw : FnT := ⟨"_law_draw", ["_law_tape_here", "_law_many"], 1, none⟩
def fs_w_draw : List FnT := []
theorem c_w_draw : chkFn tb fs_w_draw 0 N_w_draw ["_law_tape_here", "_law_many"] (top 59) i_w_draw = true := by kernel_rfl
/-! _law_all_lines -/
def N_w_all_lines : List Str := ["_law_rooms", "_law_found", "_law_room", "_law_longer", "_law_lines", "_law_k"]
def e_w_all_lines_0 : E := (.bin .Add (.var 4) (.tup (.cons (.var 5) .nil)))
def b_w_all_lines_0 : Ss := (.cons (.ex (.pm .extend (.root 3) (.cons (.comp e_w_all_lines_0 (.nm 5) (.rng1 (.bin .Add (.var 2) (.cst (.int 1)))) .none [5]) .nil))) (.cons (.kill 4) .nil))
def b_w_all_lines_1 : Ss := (.cons (.asg (.nm 3) (.lst .nil)) (.cons (.fors (.nm 4) (.val (.var 1)) b_w_all_lines_0) (.cons (.asg (.nm 1) (.frz (.mv 3))) (.cons (.kill 2) (.cons (.kill 3) (.cons (.kill 4) .nil))))))
def i_w_all_lines : FnIR := ⟨6, [false], (.cons (.asg (.nm 1) (.frz (.lst (.cons (.tup .nil) .nil)))) (.cons (.fors (.nm 2) (.val (.var 0)) b_w_all_lines_1) (.cons (.ret (.var 1)) .nil)))⟩
noncomputable def d_w_all_lines : Fn := runF [] i_w_all_lines
def t_w_all_lines : FnT := ⟨"_law_all_lines", ["_law_rooms"], 1, none⟩
def fs_w_all_lines : List FnT := []
theorem c_w_all_lines : chkFn tb fs_w_all_lines 0 N_w_all_lines ["_law_rooms"] (top 62) i_w_all_lines = true := by kernel_rfl
/-! _law_frac -/
def N_w_frac : List Str := ["_law_top", "_law_bottom", "_law_one", "_law_other"]
def b_w_frac_0 : Ss := (.cons (.par [2, 3] (.cons (.var 3) (.cons (.bin .Mod (.var 2) (.var 3)) .nil))) .nil)
def i_w_frac : FnIR := ⟨4, [false, false], (.cons (.par [2, 3] (.cons (.var 0) (.cons (.var 1) .nil))) (.cons (.whl (.cmp .Gt (.var 3) (.cst (.int 0))) b_w_frac_0) (.cons (.ret (.tup (.cons (.bin .FloorDiv (.var 0) (.var 2)) (.cons (.bin .FloorDiv (.var 1) (.var 2)) .nil)))) .nil)))⟩
noncomputable def d_w_frac : Fn := runF [] i_w_frac
def t_w_frac : FnT := ⟨"_law_frac", ["_law_top", "_law_bottom"], 1, none⟩
def fs_w_frac : List FnT := []
theorem c_w_frac : chkFn tb fs_w_frac 0 N_w_frac ["_law_top", "_law_bottom"] (top 60) i_w_frac = true := by kernel_rfl
/-! _law_hall -/
def N_w_hall : List Str := ["_law_tape_here", "_law_most", "_law_many", "_law_servers", "_law_come", "_law_whole", "_law_speeds", "_law_k", "_law_top", "_law_room"]
def e_w_hall_0 : E := (.tup (.cons (.bin .Add (.cst (.int 1)) (.call 0 "_law_draw" false (.ref (.root 0) (.val (.cst (.int 3)) .nil)))) (.cons (.bin .Add (.cst (.int 1)) (.call 0 "_law_draw" false (.ref (.root 0) (.val (.cst (.int 4)) .nil)))) .nil)))
def e_w_hall_1 : E := (.var 9)
def e_w_hall_2 : E := (.var 9)
def e_w_hall_3 : E := (.tup (.cons (.var 8) (.cons (.bi .max (.cons (.cst (.int 1)) (.cons (.bin .Sub (.var 9) (.cst (.int 1))) .nil))) .nil)))
def b_w_hall_0 : Ss := (.cons (.ifs (.cmp .Eq (.bi .max (.cons (.comp e_w_hall_2 (.tp [8, 9]) (.val (.var 3)) .none [8, 9]) .nil)) (.cst (.int 1))) (.cons (.asg (.nm 3) (.frz (.sl (.var 3) (.some (.cst (.int 1))) .none))) .nil) .nil) (.cons (.asg (.nm 3) (.comp e_w_hall_3 (.tp [8, 9]) (.val (.var 3)) .none [8, 9])) (.cons (.freeze 3) .nil)))
def e_w_hall_4 : E := (.var 8)
def e_w_hall_5 : E := (.tup (.cons (.call 2 "_law_frac" false (.val (.var 8) (.val (.var 5) .nil))) (.cons (.var 9) .nil)))
def i_w_hall : FnIR := ⟨10, [true, false], (.cons (.asg (.nm 2) (.ix (.lst (.cons (.cst (.int 2)) (.cons (.cst (.int 2)) (.cons (.cst (.int 3)) (.cons (.cst (.int 1)) (.cons (.cst (.int 2)) (.cons (.cst (.int 3)) (.cons (.cst (.int 2)) (.cons (.cst (.int 4)) .nil))))))))) (.call 0 "_law_draw" false (.ref (.root 0) (.val (.cst (.int 8)) .nil))))) (.cons (.asg (.nm 3) (.comp e_w_hall_0 (.nm 7) (.rng1 (.var 2)) .none [7])) (.cons (.freeze 3) (.cons (.ifs (.cmp .Eq (.call 0 "_law_draw" false (.ref (.root 0) (.val (.cst (.int 2)) .nil))) (.cst (.int 0))) (.cons (.asg (.nm 3) (.frz (.bin .Mult (.lst (.cons (.ix (.var 3) (.cst (.int 0))) .nil)) (.var 2)))) .nil) .nil) (.cons (.whl (.cmp .Gt (.bi .len (.cons (.call 1 "_law_all_lines" false (.val (.frz (.comp e_w_hall_1 (.tp [8, 9]) (.val (.var 3)) .none [8, 9])) .nil)) .nil)) (.var 1)) b_w_hall_0) (.cons (.asg (.nm 4) (.bin .Add (.cst (.int 1)) (.call 0 "_law_draw" false (.ref (.root 0) (.val (.cst (.int 5)) .nil))))) (.cons (.asg (.nm 5) (.frz (.bin .Add (.bin .Add (.var 4) (.bi .sum (.cons (.comp e_w_hall_4 (.tp [8, 9]) (.val (.var 3)) .none [8, 9]) .nil))) (.ix (.lst (.cons (.cst (.int 0)) (.cons (.cst (.int 0)) (.cons (.cst (.int 1)) (.cons (.cst (.int 7)) (.cons (.cst (.int 40)) .nil)))))) (.call 0 "_law_draw" false (.ref (.root 0) (.val (.cst (.int 5)) .nil))))))) (.cons (.asg (.nm 6) (.bi .tuple (.cons (.comp e_w_hall_5 (.tp [8, 9]) (.val (.var 3)) .none [8, 9]) .nil))) (.cons (.ret (.tup (.cons (.call 2 "_law_frac" false (.val (.var 4) (.val (.var 5) .nil))) (.cons (.var 6) (.cons (.cmp .Eq (.call 0 "_law_draw" false (.ref (.root 0) (.val (.cst (.int 4)) .nil))) (.cst (.int 0))) .nil))))) .nil)))))))))⟩
noncomputable def d_w_hall : Fn := runF [d_w_draw, d_w_all_lines, d_w_frac] i_w_hall
def t_w_hall : FnT := ⟨"_law_hall", ["_law_tape_here", "_law_most"], 2, none⟩
def fs_w_hall : List FnT := [t_w_draw, t_w_all_lines, t_w_frac]
theorem c_w_hall : chkFn tb fs_w_hall 1 N_w_hall ["_law_tape_here", "_law_most"] (top 61) i_w_hall = true := by kernel_rfl
/-! _law_rule -/
def N_w_rule : List Str := ["_law_tape_here", "_law_hall_here", "_law_way", "_law_count", "_law_k", "_law_speed", "_law_room"]
def e_w_rule_0 : E := (.var 6)
def e_w_rule_1 : E := (.call 0 "_law_draw" false (.ref (.root 0) (.val (.bi .len (.cons (.ix (.var 1) (.cst (.int 1))) .nil)) .nil)))
def i_w_rule : FnIR := ⟨7, [true, false], (.cons (.asg (.nm 2) (.call 0 "_law_draw" false (.ref (.root 0) (.val (.cst (.int 6)) .nil)))) (.cons (.ifs (.cmp .Lt (.var 2) (.cst (.int 4))) (.cons (.ret (.tup (.cons (.ix (.lst (.cons (.cst (.str "random")) (.cons (.cst (.str "two")) (.cons (.cst (.str "least")) (.cons (.cst (.str "quick")) .nil))))) (.var 2)) .nil))) .nil) .nil) (.cons (.asg (.nm 3) (.bi .len (.cons (.call 1 "_law_all_lines" false (.val (.frz (.comp e_w_rule_0 (.tp [5, 6]) (.val (.ix (.var 1) (.cst (.int 1)))) .none [5, 6])) .nil)) .nil))) (.cons (.ret (.tup (.cons (.cst (.str "told")) (.cons (.bi .tuple (.cons (.comp e_w_rule_1 (.nm 4) (.rng1 (.var 3)) .none [4]) .nil)) .nil)))) .nil))))⟩
noncomputable def d_w_rule : Fn := runF [d_w_draw, d_w_all_lines] i_w_rule
def t_w_rule : FnT := ⟨"_law_rule", ["_law_tape_here", "_law_hall_here"], 2, none⟩
def fs_w_rule : List FnT := [t_w_draw, t_w_all_lines]
theorem c_w_rule : chkFn tb fs_w_rule 1 N_w_rule ["_law_tape_here", "_law_hall_here"] (top 63) i_w_rule = true := by kernel_rfl
/-! ask_rules -/
def N_p_ask_rules : List Str := ["one", "other"]
def i_p_ask_rules : FnIR := ⟨2, [false, false], (.cons (.ifs (.or (.cmp .Eq (.ix (.var 0) (.cst (.int 0))) (.glo "TURNS" (.str "turns"))) (.cmp .Eq (.ix (.var 1) (.cst (.int 0))) (.glo "TURNS" (.str "turns")))) (.cons (.rse "NoNever" ["word", "number"] (.cons (.cst (.str "rule")) (.cons (.neg (.cst (.int 1))) .nil))) .nil) .nil) .nil)⟩
noncomputable def d_p_ask_rules : Fn := runF [] i_p_ask_rules
def t_p_ask_rules : FnT := ⟨"ask_rules", ["one", "other"], 3, none⟩
def fs_p_ask_rules : List FnT := []
theorem c_p_ask_rules : chkFn tb fs_p_ask_rules 2 N_p_ask_rules ["one", "other"] (top 46) i_p_ask_rules = true := by kernel_rfl
/-! never_worse -/
def N_p_never_worse : List Str := ["hall", "one", "other", "pairs", "run", "least_of", "x", "y"]
def i_p_never_worse : FnIR := ⟨8, [false, false, false], (.cons (.ex (.call 0 "ask_rules" false (.val (.var 1) (.val (.var 2) .nil)))) .opq)⟩
noncomputable def d_p_never_worse : Fn := runF [d_p_ask_rules] i_p_never_worse
def t_p_never_worse : FnT := ⟨"never_worse", ["hall", "one", "other"], 4, none⟩
def fs_p_never_worse : List FnT := [t_p_ask_rules]
theorem c_p_never_worse : chkFn tb fs_p_never_worse 3 N_p_never_worse ["hall", "one", "other"] (top 56) i_p_never_worse = true := by kernel_rfl
/-! lets_never -/
def N_p_lets_never : List Str := ["hall", "one", "other", "thing", "void", "known", "k", "triple"]
def i_p_lets_never : FnIR := ⟨8, [false, false, false, false], (.cons (.ex (.call 0 "ask_rules" false (.val (.var 1) (.val (.var 2) .nil)))) .opq)⟩
noncomputable def d_p_lets_never : Fn := runF [d_p_ask_rules] i_p_lets_never
def t_p_lets_never : FnT := ⟨"lets_never", ["hall", "one", "other", "thing"], 4, none⟩
def fs_p_lets_never : List FnT := [t_p_ask_rules]
theorem c_p_lets_never : chkFn tb fs_p_lets_never 3 N_p_lets_never ["hall", "one", "other", "thing"] (top 53) i_p_lets_never = true := by kernel_rfl
/-! _law_told -/
def N_w_told : List Str := ["_law_hall_here", "_law_one", "_law_other", "_law_things", "_law_found", "e", "_law_others"]
def i_w_told : FnIR := ⟨7, [false, false, false, false], (.cons (.asg (.nm 4) (.cst (.str "odd"))) (.cons (.tri (.cons (.ifs (.cmp .Eq (.var 3) (.lst .nil)) (.cons (.ex (.call 0 "never_worse" false (.val (.var 0) (.val (.var 1) (.val (.var 2) .nil))))) .nil) (.cons (.ex (.call 1 "lets_never" false (.val (.var 0) (.val (.var 1) (.val (.var 2) (.val (.ix (.var 3) (.cst (.int 0))) .nil)))))) .nil)) .nil) (some 5) "LineError" ["NoHall", "NoText", "TooMany", "NoShares", "NoBest", "NoNever", "NoFraction", "NoAlike", "NoBack", "NoRow"] (.cons (.asg (.nm 6) (.isx 5 ["NoAlike", "NoBack", "NoBest", "NoFraction", "NoHall"])) (.cons (.asg (.nm 6) (.or (.var 6) (.isx 5 ["NoRow", "NoShares", "NoText", "TooMany"]))) (.cons (.ifs (.and (.isx 5 ["NoNever"]) (.and (.isx 5 ["NoHall", "NoText", "TooMany", "NoShares", "NoBest", "NoNever", "NoFraction", "NoAlike", "NoBack", "NoRow"]) (.not (.var 6)))) (.cons (.asg (.nm 4) (.tup (.cons (.xf 5 "word") (.cons (.xf 5 "number") .nil)))) .nil) .nil) .nil)))) (.cons (.kill 6) (.cons (.ret (.var 4)) .nil))))⟩
noncomputable def d_w_told : Fn := runF [d_p_never_worse, d_p_lets_never] i_w_told
def t_w_told : FnT := ⟨"_law_told", ["_law_hall_here", "_law_one", "_law_other", "_law_things"], 5, none⟩
def fs_w_told : List FnT := [t_p_never_worse, t_p_lets_never]
theorem c_w_told : chkFn tb fs_w_told 4 N_w_told ["_law_hall_here", "_law_one", "_law_other", "_law_things"] (top 64) i_w_told = true := by kernel_rfl
/-! law -/
def N_law : List Str := ["_law_script", "_law_tape_here", "_law_k", "_law_hall_here", "_law_rule_here", "_law_void", "_law_one", "_law_other", "_law_thing", "_law_is_small", "_law_speed", "_law_room"]
def b_law_0 : Ss := (.cons (.ifs (.cmp .NotEq (.call 3 "_law_told" false (.val (.var 3) (.val (.var 6) (.val (.var 7) (.val (.frz (.lst (.cons (.var 8) .nil))) .nil))))) (.tup (.cons (.cst (.str "rule")) (.cons (.neg (.cst (.int 1))) .nil)))) (.cons (.ret (.cst (.bool false))) .nil) .nil) (.cons (.kill 8) .nil))
def e_law_0 : E := (.var 11)
def b_law_1 : Ss := (.cons (.fors (.nm 8) (.val (.lst (.cons (.tup (.cons (.tup (.cons (.var 5) (.cons (.var 5) (.cons (.cst (.int 0)) .nil)))) .nil)) (.cons (.tup .nil) (.cons (.cst .none) (.cons (.frz (.lst (.cons (.tup (.cons (.var 5) (.cons (.var 5) (.cons (.cst (.int 0)) .nil)))) .nil))) (.cons (.cst (.str "turns")) .nil))))))) b_law_0) (.cons (.asg (.nm 9) (.cmp .Lt (.bi .len (.cons (.call 4 "_law_all_lines" false (.val (.frz (.comp e_law_0 (.tp [10, 11]) (.val (.ix (.var 3) (.cst (.int 1)))) .none [10, 11])) .nil)) .nil)) (.cst (.int 25)))) (.cons (.ifs (.and (.var 9) (.cmp .NotEq (.call 3 "_law_told" false (.val (.var 3) (.val (.var 6) (.val (.var 7) (.val (.frz (.lst .nil)) .nil))))) (.tup (.cons (.cst (.str "rule")) (.cons (.neg (.cst (.int 1))) .nil))))) (.cons (.ret (.cst (.bool false))) .nil) .nil) (.cons (.kill 6) (.cons (.kill 7) (.cons (.kill 8) (.cons (.kill 9) .nil)))))))
def b_law_2 : Ss := (.cons (.asg (.nm 3) (.call 1 "_law_hall" false (.ref (.root 1) (.val (.cst (.int 400)) .nil)))) (.cons (.asg (.nm 4) (.call 2 "_law_rule" false (.ref (.root 1) (.val (.var 3) .nil)))) (.cons (.asg (.nm 5) (.bin .Mult (.tup (.cons (.cst (.int 0)) .nil)) (.bi .len (.cons (.ix (.var 3) (.cst (.int 1))) .nil)))) (.cons (.fors (.tp [6, 7]) (.val (.lst (.cons (.tup (.cons (.tup (.cons (.cst (.str "turns")) .nil)) (.cons (.var 4) .nil))) (.cons (.tup (.cons (.var 4) (.cons (.tup (.cons (.cst (.str "turns")) .nil)) .nil))) (.cons (.tup (.cons (.tup (.cons (.cst (.str "turns")) .nil)) (.cons (.tup (.cons (.cst (.str "turns")) .nil)) .nil))) .nil))))) b_law_1) (.cons (.kill 2) (.cons (.kill 3) (.cons (.kill 4) (.cons (.kill 5) (.cons (.kill 6) (.cons (.kill 7) (.cons (.kill 8) (.cons (.kill 9) .nil))))))))))))
def i_law : FnIR := ⟨12, [false], (.cons (.asg (.nm 1) (.call 0 "_law_tape" false (.val (.var 0) .nil))) (.cons (.fors (.nm 2) (.rng1 (.cst (.int 8))) b_law_2) (.cons (.ret (.cst (.bool true))) .nil)))⟩
noncomputable def d_law : Fn := runF [d_w_tape, d_w_hall, d_w_rule, d_w_told, d_w_all_lines] i_law
def t_law : FnT := ⟨"law", ["_law_script"], 6, none⟩
def fs_law : List FnT := [t_w_tape, t_w_hall, t_w_rule, t_w_told, t_w_all_lines]
theorem c_law : chkFn tb fs_law 5 N_law ["_law_script"] (top 65) i_law = true := by kernel_rfl
section
variable {w : World} {K : PySem.W.Frag} {mg : Str → Option Value} {base : Heap}
abbrev FnQ (K : PySem.W.Frag) (x q : Str) (st : Stmt) (f : Addr) (fd : FuncData) : Prop := FunD K x q (defArgs st) (defBody st) (defScope st) [] [] f fd
abbrev FnP (K : PySem.W.Frag) (x : Str) (st : Stmt) (f : Addr) (fd : FuncData) : Prop := FunD K x x (defArgs st) (defBody st) (defScope st) [] [] f fd
theorem e_w_tape {f : Addr} {fd : FuncData} (F : FnP K "_law_tape" (top 58) f fd) (hm : mg "_law_tape" = some (.ref f)) (hb : TbOk PW w K mg base tb)  : FnE PW w K mg base tb.xc t_w_tape d_w_tape :=
  fnE_fit F hm c_w_tape FnsOk.nil hb fun _ _ _ _ _ _ us hl => match us, hl with | [_], _ => rfl
theorem e_w_draw {f : Addr} {fd : FuncData} (F : FnP K "_law_draw" (top 59) f fd) (hm : mg "_law_draw" = some (.ref f)) (hb : TbOk PW w K mg base tb)  : FnE PW w K mg base tb.xc t_w_draw d_w_draw :=
  fnE_fit F hm c_w_draw FnsOk.nil hb fun _ _ _ _ _ _ us hl => match us, hl with | [_, _], _ => rfl
theorem e_w_all_lines {f : Addr} {fd : FuncData} (F : FnP K "_law_all_lines" (top 62) f fd) (hm : mg "_law_all_lines" = some (.ref f)) (hb : TbOk PW w K mg base tb)  : FnE PW w K mg base tb.xc t_w_all_lines d_w_all_lines :=
  fnE_fit F hm c_w_all_lines FnsOk.nil hb fun _ _ _ _ _ _ us hl => match us, hl with | [_], _ => rfl
theorem e_w_frac {f : Addr} {fd : FuncData} (F : FnP K "_law_frac" (top 60) f fd) (hm : mg "_law_frac" = some (.ref f)) (hb : TbOk PW w K mg base tb)  : FnE PW w K mg base tb.xc t_w_frac d_w_frac :=
  fnE_fit F hm c_w_frac FnsOk.nil hb fun _ _ _ _ _ _ us hl => match us, hl with | [_, _], _ => rfl
theorem e_w_hall {f : Addr} {fd : FuncData} (F : FnP K "_law_hall" (top 61) f fd) (hm : mg "_law_hall" = some (.ref f)) (hb : TbOk PW w K mg base tb) (h_w_draw : FnE PW w K mg base tb.xc t_w_draw d_w_draw) (h_w_all_lines : FnE PW w K mg base tb.xc t_w_all_lines d_w_all_lines) (h_w_frac : FnE PW w K mg base tb.xc t_w_frac d_w_frac) : FnE PW w K mg base tb.xc t_w_hall d_w_hall :=
  fnE_fit F hm c_w_hall (FnsOk.cons h_w_draw (FnsOk.cons h_w_all_lines (FnsOk.cons h_w_frac FnsOk.nil))) hb fun _ _ _ _ _ _ us hl => match us, hl with | [_, _], _ => rfl
theorem e_w_rule {f : Addr} {fd : FuncData} (F : FnP K "_law_rule" (top 63) f fd) (hm : mg "_law_rule" = some (.ref f)) (hb : TbOk PW w K mg base tb) (h_w_draw : FnE PW w K mg base tb.xc t_w_draw d_w_draw) (h_w_all_lines : FnE PW w K mg base tb.xc t_w_all_lines d_w_all_lines) : FnE PW w K mg base tb.xc t_w_rule d_w_rule :=
  fnE_fit F hm c_w_rule (FnsOk.cons h_w_draw (FnsOk.cons h_w_all_lines FnsOk.nil)) hb fun _ _ _ _ _ _ us hl => match us, hl with | [_, _], _ => rfl
theorem e_p_ask_rules {f : Addr} {fd : FuncData} (F : FnP K "ask_rules" (top 46) f fd) (hm : mg "ask_rules" = some (.ref f)) (hb : TbOk PW w K mg base tb)  : FnE PW w K mg base tb.xc t_p_ask_rules d_p_ask_rules :=
  fnE_fit F hm c_p_ask_rules FnsOk.nil hb fun _ _ _ _ _ _ us hl => match us, hl with | [_, _], _ => rfl
theorem e_p_never_worse {f : Addr} {fd : FuncData} (F : FnP K "never_worse" (top 56) f fd) (hm : mg "never_worse" = some (.ref f)) (hb : TbOk PW w K mg base tb) (h_p_ask_rules : FnE PW w K mg base tb.xc t_p_ask_rules d_p_ask_rules) : FnE PW w K mg base tb.xc t_p_never_worse d_p_never_worse :=
  fnE_fit F hm c_p_never_worse (FnsOk.cons h_p_ask_rules FnsOk.nil) hb fun _ _ _ _ _ _ us hl => match us, hl with | [_, _, _], _ => rfl
theorem e_p_lets_never {f : Addr} {fd : FuncData} (F : FnP K "lets_never" (top 53) f fd) (hm : mg "lets_never" = some (.ref f)) (hb : TbOk PW w K mg base tb) (h_p_ask_rules : FnE PW w K mg base tb.xc t_p_ask_rules d_p_ask_rules) : FnE PW w K mg base tb.xc t_p_lets_never d_p_lets_never :=
  fnE_fit F hm c_p_lets_never (FnsOk.cons h_p_ask_rules FnsOk.nil) hb fun _ _ _ _ _ _ us hl => match us, hl with | [_, _, _, _], _ => rfl
theorem e_w_told {f : Addr} {fd : FuncData} (F : FnP K "_law_told" (top 64) f fd) (hm : mg "_law_told" = some (.ref f)) (hb : TbOk PW w K mg base tb) (h_p_never_worse : FnE PW w K mg base tb.xc t_p_never_worse d_p_never_worse) (h_p_lets_never : FnE PW w K mg base tb.xc t_p_lets_never d_p_lets_never) : FnE PW w K mg base tb.xc t_w_told d_w_told :=
  fnE_fit F hm c_w_told (FnsOk.cons h_p_never_worse (FnsOk.cons h_p_lets_never FnsOk.nil)) hb fun _ _ _ _ _ _ us hl => match us, hl with | [_, _, _, _], _ => rfl
theorem g_law {f : Addr} {fd : FuncData} (F : FnP K "law" (top 65) f fd) (hb : TbOk PW w K mg base tb) (h_w_tape : FnE PW w K mg base tb.xc t_w_tape d_w_tape) (h_w_hall : FnE PW w K mg base tb.xc t_w_hall d_w_hall) (h_w_rule : FnE PW w K mg base tb.xc t_w_rule d_w_rule) (h_w_told : FnE PW w K mg base tb.xc t_w_told d_w_told) (h_w_all_lines : FnE PW w K mg base tb.xc t_w_all_lines d_w_all_lines) : FnG PW w K mg base (L2.CX PW w) 6 f fd ["_law_script"] (spF (kf PW w K mg tb.xc) mg 1 d_law) :=
  fnG_fit F c_law (FnsOk.cons h_w_tape (FnsOk.cons h_w_hall (FnsOk.cons h_w_rule (FnsOk.cons h_w_told (FnsOk.cons h_w_all_lines FnsOk.nil))))) hb
end
/-! the head -/
def dd_w_tape : He.DefD := ⟨("_law_tape", none), "_law_tape", "_law_tape", defArgs (top 58), defBody (top 58), defScope (top 58), [], []⟩
def dd_w_draw : He.DefD := ⟨("_law_draw", none), "_law_draw", "_law_draw", defArgs (top 59), defBody (top 59), defScope (top 59), [], []⟩
def dd_w_all_lines : He.DefD := ⟨("_law_all_lines", none), "_law_all_lines", "_law_all_lines", defArgs (top 62), defBody (top 62), defScope (top 62), [], []⟩
def dd_w_frac : He.DefD := ⟨("_law_frac", none), "_law_frac", "_law_frac", defArgs (top 60), defBody (top 60), defScope (top 60), [], []⟩
def dd_w_hall : He.DefD := ⟨("_law_hall", none), "_law_hall", "_law_hall", defArgs (top 61), defBody (top 61), defScope (top 61), [], []⟩
def dd_w_rule : He.DefD := ⟨("_law_rule", none), "_law_rule", "_law_rule", defArgs (top 63), defBody (top 63), defScope (top 63), [], []⟩
def dd_p_ask_rules : He.DefD := ⟨("ask_rules", none), "ask_rules", "ask_rules", defArgs (top 46), defBody (top 46), defScope (top 46), [], []⟩
def dd_p_never_worse : He.DefD := ⟨("never_worse", none), "never_worse", "never_worse", defArgs (top 56), defBody (top 56), defScope (top 56), [], []⟩
def dd_p_lets_never : He.DefD := ⟨("lets_never", none), "lets_never", "lets_never", defArgs (top 53), defBody (top 53), defScope (top 53), [], []⟩
def dd_w_told : He.DefD := ⟨("_law_told", none), "_law_told", "_law_told", defArgs (top 64), defBody (top 64), defScope (top 64), [], []⟩
def dd_law : He.DefD := ⟨("law", none), "law", "law", defArgs (top 65), defBody (top 65), defScope (top 65), [], []⟩
def dm_NoNever : He.DefD := ⟨("NoNever", some "__init__"), "__init__", "NoNever.__init__", defArgs (mth 7 0), defBody (mth 7 0), defScope (mth 7 0), [], []⟩
def fn : List He.DefD := [dd_w_tape, dd_w_draw, dd_w_all_lines, dd_w_frac, dd_w_hall, dd_w_rule, dd_p_ask_rules, dd_p_never_worse, dd_p_lets_never, dd_w_told, dd_law, dm_NoNever]
def gl : List Str := ["_law_tape", "_law_draw", "_law_all_lines", "_law_frac", "_law_hall", "_law_rule", "ask_rules", "never_worse", "lets_never", "_law_told", "law"]
def ms : List (Str × Str) := []
abbrev RR : PySem.W.OpenRow := PySem.W.OpenLaw.row PySem.Challenge.rw_shorterline_k55_rules_by_turns_refused
abbrev hk : PySem.W.Hook := hookX 5 (bxAll gl ms tb) fn
def ob (s : PySem.W.SharedT) : He.AlD := obsXG 5 (bxAll gl ms tb) fn (HandSHeadRun.getT s)
theorem ob_eq (s : PySem.W.SharedT) : ob s = hk.obs s.abs := obsXG_eq (HandSHeadRun.getT_eq s)
def loose0 : List Str := [("LineError" : Str), ("NoHall" : Str), ("NoText" : Str), ("TooMany" : Str), ("NoShares" : Str), ("NoBest" : Str), ("NoNever" : Str), ("NoFraction" : Str), ("NoAlike" : Str), ("NoBack" : Str), ("NoRow" : Str), ("is_whole" : Str), ("common" : Str), ("fraction_of" : Str), ("divided" : Str), ("is_less" : Str), ("is_alike" : Str), ("is_line" : Str), ("place_of" : Str), ("shorter" : Str), ("shortest" : Str), ("quickest" : Str), ("sent_to" : Str), ("first_stand" : Str), ("are_lines" : Str), ("is_stand" : Str), ("all_orders" : Str), ("lines_with" : Str), ("shifts_of" : Str), ("asked" : Str), ("changed" : Str), ("moved_on" : Str), ("kept_lines" : Str), ("all_moves" : Str), ("ask_rules" : Str), ("both_moved" : Str), ("is_worse" : Str), ("are_kept" : Str), ("is_triple" : Str), ("least_known" : Str)]
def loose1 : List Str := ["is_closed", "lets_never", "Pairs", "never_worse", "_law_tape", "_law_draw", "_law_frac", "_law_hall", "_law_all_lines", "_law_rule", "_law_told", "AWAY", "TAKEN", "SERVED", "NONE", "TURNS", "PLACES"]
def loose : List Str := loose0 ++ loose1
theorem run (w : World) : HandSHeadRun.RunEq RR (PySem.W.view RR.prog [65]) hk ob 9000 loose w := by
  intro os
  kernel_rfl
theorem facts {w : World} {K : PySem.W.Frag} {h : Heap} {mg : Str → Option Value} {f : Addr} (X : K.In h) (G : h.Ns mainGlobals mg) (hfa : mg ("law" : Str) = some (.ref f)) (c : SaysX (bxAll gl ms tb) fn K) :
    ∃ fd : FuncData, (∀ (s : Shared) (v : Value), BindsTo s fd ⟨[v], []⟩ [("_law_script", v)]) ∧ ∀ base : Heap, K.In base → base.Ns mainGlobals mg → FnG PW w K mg base (L2.CX PW w) 6 f fd ["_law_script"] (spF (kf PW w K mg tb.xc) mg 1 d_law) := by
  obtain ⟨fd_w_tape, F_w_tape⟩ := c.def_ 0 (d := dd_w_tape) rfl
  obtain ⟨fd_w_draw, F_w_draw⟩ := c.def_ 1 (d := dd_w_draw) rfl
  obtain ⟨fd_w_all_lines, F_w_all_lines⟩ := c.def_ 2 (d := dd_w_all_lines) rfl
  obtain ⟨fd_w_frac, F_w_frac⟩ := c.def_ 3 (d := dd_w_frac) rfl
  obtain ⟨fd_w_hall, F_w_hall⟩ := c.def_ 4 (d := dd_w_hall) rfl
  obtain ⟨fd_w_rule, F_w_rule⟩ := c.def_ 5 (d := dd_w_rule) rfl
  obtain ⟨fd_p_ask_rules, F_p_ask_rules⟩ := c.def_ 6 (d := dd_p_ask_rules) rfl
  obtain ⟨fd_p_never_worse, F_p_never_worse⟩ := c.def_ 7 (d := dd_p_never_worse) rfl
  obtain ⟨fd_p_lets_never, F_p_lets_never⟩ := c.def_ 8 (d := dd_p_lets_never) rfl
  obtain ⟨fd_w_told, F_w_told⟩ := c.def_ 9 (d := dd_w_told) rfl
  obtain ⟨fd_law, F_law⟩ := c.def_ 10 (d := dd_law) rfl
  obtain ⟨fm_NoNever, M_NoNever⟩ := c.def_ 11 (d := dm_NoNever) rfl
  have cb := c.bxs
  have ct := bxAll_tb cb
  have G_w_tape : mg "_law_tape" = _ := bxAll_gl X G cb (by decide)
  have G_w_draw : mg "_law_draw" = _ := bxAll_gl X G cb (by decide)
  have G_w_all_lines : mg "_law_all_lines" = _ := bxAll_gl X G cb (by decide)
  have G_w_frac : mg "_law_frac" = _ := bxAll_gl X G cb (by decide)
  have G_w_hall : mg "_law_hall" = _ := bxAll_gl X G cb (by decide)
  have G_w_rule : mg "_law_rule" = _ := bxAll_gl X G cb (by decide)
  have G_p_ask_rules : mg "ask_rules" = _ := bxAll_gl X G cb (by decide)
  have G_p_never_worse : mg "never_worse" = _ := bxAll_gl X G cb (by decide)
  have G_p_lets_never : mg "lets_never" = _ := bxAll_gl X G cb (by decide)
  have G_w_told : mg "_law_told" = _ := bxAll_gl X G cb (by decide)
  have G_law : mg "law" = _ := bxAll_gl X G cb (by decide)
  have e := hfa.symm.trans G_law
  cases e
  have b := FunD.bindsA (ps := ["_law_script"]) F_law fun _ _ _ _ _ _ us hl => match us, hl with | [_], _ => rfl
  refine ⟨fd_law, fun s v => b s [v] rfl, fun base _ _ => ?_⟩
  have hb : TbOk PW w K mg base tb := by
    refine tb_of X G ct fun x fs hx hf => ?_
    simp only [tb, List.mem_cons, List.not_mem_nil, or_false, Prod.mk.injEq] at hx
    rcases hx with ⟨e1, e2⟩ <;> subst e1 e2
    · obtain ⟨q1, q2, q3, q4, q5, q6⟩ := rs1_at X G ct (x := "NoNever") (fs := ["word", "number"]) (by decide) rfl
      exact rs1_fit2 (st := mth 7 0) M_NoNever (by kernel_rfl) (by kernel_rfl) (by kernel_rfl) q1 q2 q3 (q4 _ (by decide)) (q4 _ (by decide)) q5 q6 fun _ _ _ _ _ _ us hl => match us, hl with | [_, _, _], _ => rfl
  have h_w_tape : FnE PW w K mg base tb.xc t_w_tape d_w_tape := e_w_tape F_w_tape G_w_tape hb 
  have h_w_draw : FnE PW w K mg base tb.xc t_w_draw d_w_draw := e_w_draw F_w_draw G_w_draw hb 
  have h_w_all_lines : FnE PW w K mg base tb.xc t_w_all_lines d_w_all_lines := e_w_all_lines F_w_all_lines G_w_all_lines hb 
  have h_w_frac : FnE PW w K mg base tb.xc t_w_frac d_w_frac := e_w_frac F_w_frac G_w_frac hb 
  have h_w_hall : FnE PW w K mg base tb.xc t_w_hall d_w_hall := e_w_hall F_w_hall G_w_hall hb h_w_draw h_w_all_lines h_w_frac
  have h_w_rule : FnE PW w K mg base tb.xc t_w_rule d_w_rule := e_w_rule F_w_rule G_w_rule hb h_w_draw h_w_all_lines
  have h_p_ask_rules : FnE PW w K mg base tb.xc t_p_ask_rules d_p_ask_rules := e_p_ask_rules F_p_ask_rules G_p_ask_rules hb 
  have h_p_never_worse : FnE PW w K mg base tb.xc t_p_never_worse d_p_never_worse := e_p_never_worse F_p_never_worse G_p_never_worse hb h_p_ask_rules
  have h_p_lets_never : FnE PW w K mg base tb.xc t_p_lets_never d_p_lets_never := e_p_lets_never F_p_lets_never G_p_lets_never hb h_p_ask_rules
  have h_w_told : FnE PW w K mg base tb.xc t_w_told d_w_told := e_w_told F_w_told G_w_told hb h_p_never_worse h_p_lets_never
  exact g_law F_law hb h_w_tape h_w_hall h_w_rule h_w_told h_w_all_lines
end DE
end

section
set_option Elab.async false
set_option linter.all false
set_option maxRecDepth 100000
set_option maxHeartbeats 4000000
/-! TF: the tape (a dict), draws. -/
namespace DE
open PySem
def iPd (cs : List Int) : List PyData := cs.map .int
structure Tape where
  cs : List Int
  t : Int
  l : Int
def tpD (T : Tape) : D := .dct [(.inr "script", .dat (.list (iPd T.cs))), (.inr "turn", .dat (.int T.t)), (.inr "left", .dat (.int T.l))]
@[simp] theorem tpD_own (T : Tape) : (tpD T).own = true := rfl
@[simp] theorem tpD_ntr (T : Tape) : (tpD T).ntr = true := rfl
@[simp] theorem tpD_nex (T : Tape) : (tpD T).nex = true := rfl
@[simp] theorem tpD_dead (T : Tape) : isDead (tpD T) = false := rfl
@[simp] theorem tpD_live (T : Tape) : isLive (some (tpD T)) = true := rfl
@[simp] theorem ks1 : ((Str.ofString "script") = (Str.ofString "turn")) = False := by simp; decide
@[simp] theorem ks2 : ((Str.ofString "script") = (Str.ofString "left")) = False := by simp; decide
@[simp] theorem ks3 : ((Str.ofString "turn") = (Str.ofString "left")) = False := by simp; decide
@[simp] theorem ks4 : ((Str.ofString "turn") = (Str.ofString "script")) = False := by simp; decide
@[simp] theorem ks5 : ((Str.ofString "left") = (Str.ofString "script")) = False := by simp; decide
@[simp] theorem ks6 : ((Str.ofString "left") = (Str.ofString "turn")) = False := by simp; decide
structure TOk (b : Nat) (T : Tape) : Prop where
  t0 : 0 ≤ T.t
  t1 : T.t ≤ b
  l0 : 0 ≤ T.l
theorem TOk.mono {b b' : Nat} {f : Tape} (h : TOk b f) (l : b ≤ b') : TOk b' f := ⟨h.t0, by have := h.t1; omega, h.l0⟩
theorem canLay_iPd : ∀ cs : List Int, PyData.canLayAll0 (iPd cs) = true
  | [] => rfl
  | c :: cs => by
    have := canLay_iPd cs
    unfold iPd at *
    simp [PyData.canLayAll0, PyData.canLay0, this]
theorem depth_iPd : ∀ cs : List Int, PyData.depthAll (iPd cs) = 0
  | [] => by simp [iPd, PyData.depthAll]
  | c :: cs => by
    have := depth_iPd cs
    unfold iPd at *
    simp [PyData.depthAll, PyData.depth, this]
theorem shaped_iPd (cs : List Int) : SeqAt.shaped (.list (iPd cs)) = true := by
  simp [SeqAt.shaped, PyData.canLay0, canLay_iPd, PyData.depth, depth_iPd]
@[simp] theorem length_iPd (cs : List Int) : (iPd cs).length = cs.length := by simp [iPd]
@[simp] theorem isEmpty_iPd (cs : List Int) : (iPd cs).isEmpty = cs.isEmpty := by cases cs <;> rfl
theorem draw_spec {b : Nat} {f : Tape} (ok : TOk b f) (m : Int) (hm : 0 < m) (hm2 : m ≤ 4294967296) (hb : b < 2 ^ 60) :
    ∃ r f', d_w_draw [tpD f, .dat (.int m)] = .ret (.dat (.int r)) [tpD f', .dead] ∧ 0 ≤ r ∧ r < m ∧ TOk (b + 1) f' := by
  obtain ⟨cs, t, l⟩ := f
  obtain ⟨h0t, h1t, hl⟩ := ok
  simp only at h0t h1t hl
  have m0 : m ≠ 0 := by omega
  have dm : divOk m = true := divOk_of m0 (by omega)
  have fm : ∀ (a b : Int), 0 < b → b < 2 ^ 40 → 0 ≤ a.fmod b ∧ (a.fmod b).natAbs < 2 ^ 40 := fun a b h1 h2 => by
    have := Int.fmod_nonneg_of_pos a h1
    have := Int.fmod_lt_of_pos a h1
    omega
  have ne := ne_nil (shaped_iPd cs)
  by_cases h0 : 0 < l
  · refine ⟨l.fmod m, ⟨cs, t, l.fdiv m⟩, ?_, Int.fmod_nonneg_of_pos _ hm, Int.fmod_lt_of_pos _ hm, h0t, by show t ≤ ((b + 1 : Nat) : Int); omega, Int.fdiv_nonneg hl (by omega)⟩
    simp [d_w_draw, runF_eq, i_w_draw, tpD, h0, m0, dm]
  · obtain ⟨z, hz⟩ : ∃ z, z = d_w_draw [tpD ⟨cs, t, l⟩, .dat (.int m)] := ⟨_, rfl⟩
    rw [← hz]
    have q31 : mulOk 31 t = true := mulOk_of (by decide) (by omega)
    have q79 : mulOk 7919 t = true := mulOk_of (by decide) (by omega)
    have q61 : mulOk 6151 t = true := mulOk_of (by decide) (by omega)
    have d1 : divOk 64 = true := by decide +kernel
    have step : ∀ c : Int, 0 ≤ t → ∃ r1 r2 : Int, r1 = ((c.fmod 2147483629 + 7919 * t + 104729) * 48271).fmod 2147483647 ∧ r2 = ((r1.fdiv 64 + 6151 * t + 17) * 69621).fmod 2147483587 ∧ mulOk (c.fmod 2147483629 + 7919 * t + 104729) 48271 = true ∧ mulOk (r1.fdiv 64 + 6151 * t + 17) 69621 = true := fun c _ => by
      have k1 := fm c 2147483629 (by decide) (by decide)
      have k2 := fm ((c.fmod 2147483629 + 7919 * t + 104729) * 48271) 2147483647 (by decide) (by decide)
      refine ⟨_, _, rfl, rfl, mulOk_of (by omega) (by decide), mulOk_of ?_ (by decide)⟩
      have e : (((c.fmod 2147483629 + 7919 * t + 104729) * 48271).fmod 2147483647).fdiv 64 = (((c.fmod 2147483629 + 7919 * t + 104729) * 48271).fmod 2147483647) / 64 := Int.fdiv_eq_ediv_of_nonneg _ (by decide)
      rw [e]
      omega
    have done : ∀ (z' : FR) (r2 : Int), z' = FR.ret (.dat (.int ((r2.fdiv 64).fmod m))) [tpD ⟨cs, t + 1, l⟩, .dead] → ∃ r f', z' = .ret (.dat (.int r)) [tpD f', .dead] ∧ 0 ≤ r ∧ r < m ∧ TOk (b + 1) f' := fun z' r2 e =>
      ⟨_, _, e, Int.fmod_nonneg_of_pos _ hm, Int.fmod_lt_of_pos _ hm, by show 0 ≤ t + 1; omega, by show t + 1 ≤ ((b + 1 : Nat) : Int); omega, hl⟩
    by_cases e : cs = []
    · subst e
      obtain ⟨r1, r2, hr1, hr2, q1, q2⟩ := step (31 * t) h0t
      refine done z r2 (hz.trans ?_)
      have nlt : ¬ t < 0 := by omega
      simp [d_w_draw, runF_eq, i_w_draw, tpD, h0, m0, dm, ne, iPd, q31, q79, q61, q1, ← hr1, q2, ← hr2, d1, nlt]
    · have ne2 : cs.isEmpty = false := by cases cs <;> first | exact absurd rfl e | rfl
      have lp : (0 : Int) < cs.length := by have := List.length_pos_iff.mpr e; omega
      have lz : (cs.length : Int) ≠ 0 := by omega
      obtain ⟨c, hc⟩ : ∃ c : Int, L2.atI (iPd cs) (t.fmod cs.length) = some (.int c) := by
        have h1 := Int.fmod_nonneg_of_pos t lp
        have h2 := Int.fmod_lt_of_pos t lp
        have h3 : (t.fmod cs.length).toNat < cs.length := by omega
        refine ⟨cs[(t.fmod cs.length).toNat], ?_⟩
        rw [atI_of h1 (by simpa using h2)]
        simp [iPd, List.getElem?_map, List.getElem?_eq_getElem h3]
      obtain ⟨r1, r2, hr1, hr2, q1, q2⟩ := step c h0t
      have rest : (¬ (1000000000000000000 : Int) ≤ c ∨ ¬ t < cs.length) → z = FR.ret (.dat (.int ((r2.fdiv 64).fmod m))) [tpD ⟨cs, t + 1, l⟩, .dead] := fun h => by
        refine hz.trans ?_
        by_cases h1 : (1000000000000000000 : Int) ≤ c
        · have h2 := h.resolve_left fun n => n h1
          simp [d_w_draw, runF_eq, i_w_draw, tpD, h0, m0, dm, ne, ne2, e, lz, hc, h1, h2, q31, q79, q61, q1, ← hr1, q2, ← hr2, d1]
        · simp [d_w_draw, runF_eq, i_w_draw, tpD, h0, m0, dm, ne, ne2, e, lz, hc, h1, q31, q79, q61, q1, ← hr1, q2, ← hr2, d1]
      by_cases h1 : (1000000000000000000 : Int) ≤ c
      · by_cases h2 : t < cs.length
        · refine ⟨c.fmod m, ⟨cs, t + 1, c.fdiv m⟩, hz.trans ?_, Int.fmod_nonneg_of_pos _ hm, Int.fmod_lt_of_pos _ hm, by show 0 ≤ t + 1; omega, by show t + 1 ≤ ((b + 1 : Nat) : Int); omega, Int.fdiv_nonneg (by omega) (by omega)⟩
          simp [d_w_draw, runF_eq, i_w_draw, tpD, h0, m0, dm, ne, ne2, e, lz, hc, h1, h2, q31]
        · exact done z r2 (rest (.inr h2))
      · exact done z r2 (rest (.inl h1))
theorem tape_spec (ns : List Int) (h : ns.length ≤ 63) : ∃ f, d_w_tape [.dat (.list (ns.map .int))] = .ret (tpD f) [.dead] ∧ TOk 0 f := by
  have c : cutL (ns.map PyData.int) none (some 63) = ns.map PyData.int := by
    unfold cutL
    have h1 : HT.sIx (ns.map PyData.int).length 0 none = 0 := rfl
    have h2 : HT.sIx (ns.map PyData.int).length (ns.map PyData.int).length (some 63) = ns.length := by
      have := HT.sIx_nat (ns.map PyData.int).length (ns.map PyData.int).length 63
      simp at this ⊢
      rw [this]; omega
    rw [h1, h2, List.drop_zero, Nat.sub_zero]
    exact List.take_of_length_le (by simp)
  refine ⟨⟨ns, 0, 0⟩, ?_, by show (0 : Int) ≤ 0; decide, by show (0 : Int) ≤ 0; decide, by show (0 : Int) ≤ 0; decide⟩
  simp [d_w_tape, runF_eq, i_w_tape, tpD, iPd, c]
end DE
end

section
set_option Elab.async false
set_option linter.all false
set_option maxRecDepth 100000
set_option maxHeartbeats 4000000
/-! TC: fractions of the tape's halls. -/
namespace DE
open PySem
theorem fmod_nat (p q : Nat) : (p : Int).fmod (q : Int) = ((p % q : Nat) : Int) := by
  rw [Int.fmod_eq_emod_of_nonneg _ (by omega)]; omega
theorem frac_loop (A B : D) : ∀ (q p : Nat), whileU (evE [] (.cmp .Gt (.var 3) (.cst (.int 0)))) (exSs [] b_w_frac_0) [A, B, .dat (.int p), .dat (.int q)] = .nx [A, B, .dat (.int (Nat.gcd p q)), .dat (.int 0)] := by
  intro q
  induction q using Nat.strongRecOn with
  | ind q ih =>
    intro p
    by_cases h : q = 0
    · subst h
      rw [whileU_false (ρ1 := [A, B, .dat (.int p), .dat (.int 0)])]
      · simp
      · simp
    · have hq : 0 < q := by omega
      rw [whileU_true (ρ1 := [A, B, .dat (.int p), .dat (.int q)]) (ρ2 := [A, B, .dat (.int q), .dat (.int ((p % q : Nat) : Int))])]
      · rw [ih (p % q) (Nat.mod_lt _ hq) q, Nat.gcd_comm p q, Nat.gcd_rec q p, Nat.gcd_comm q (p % q)]
      · simp [hq]
      · simp [b_w_frac_0, h, fmod_nat]
abbrev pr2 (a b : Int) : PyData := .tuple [.int a, .int b]
def frA (a b : Int) : Int := a.fdiv (Nat.gcd a.natAbs b.natAbs : Int)
def frB (a b : Int) : Int := b.fdiv (Nat.gcd a.natAbs b.natAbs : Int)
theorem frac_spec {a b : Int} (ha : 0 ≤ a) (hb : 0 < b) (hb2 : b < 2 ^ 190) : d_w_frac [.dat (.int a), .dat (.int b)] = .ret (.dat (pr2 (frA a b) (frB a b))) [.dead, .dead] := by
  have g0 : 0 < Nat.gcd a.natAbs b.natAbs := Nat.gcd_pos_of_pos_right _ (by omega)
  have g1 : Nat.gcd a.natAbs b.natAbs ≤ b.natAbs := Nat.gcd_le_right _ (by omega)
  have lp := frac_loop (.dat (.int a)) (.dat (.int b)) b.natAbs a.natAbs
  have ea : ((a.natAbs : Nat) : Int) = a := by omega
  have eb : ((b.natAbs : Nat) : Int) = b := by omega
  rw [ea, eb] at lp
  have dg : divOk (Nat.gcd a.natAbs b.natAbs : Int) = true := divOk_s (by omega) (by omega)
  simp [d_w_frac, runF_eq, i_w_frac, lp, dg, frA, frB]
theorem frac_pos {a b : Int} (ha : 0 < a) (hb : 0 < b) : 0 < frA a b ∧ 0 < frB a b ∧ frA a b ≤ a ∧ frB a b ≤ b := by
  have g0 : 0 < Nat.gcd a.natAbs b.natAbs := Nat.gcd_pos_of_pos_right _ (by omega)
  refine ⟨?_, ?_, ?_, ?_⟩
  all_goals
    simp only [frA, frB]
    rw [Int.fdiv_eq_ediv_of_nonneg _ (by omega)]
  · exact Int.ediv_pos_of_pos_of_dvd ha (by omega) (by
      have := Nat.gcd_dvd_left a.natAbs b.natAbs
      exact Int.natAbs_dvd_natAbs.mp (by simpa using this))
  · exact Int.ediv_pos_of_pos_of_dvd hb (by omega) (by
      have := Nat.gcd_dvd_right a.natAbs b.natAbs
      exact Int.natAbs_dvd_natAbs.mp (by simpa using this))
  · exact Int.ediv_le_self _ (by omega)
  · exact Int.ediv_le_self _ (by omega)
theorem frac_nn {a b : Int} (ha : 0 ≤ a) (hb : 0 < b) : 0 ≤ frA a b ∧ frA a b ≤ a := by
  simp only [frA]
  rw [Int.fdiv_eq_ediv_of_nonneg _ (by omega)]
  exact ⟨Int.ediv_nonneg ha (by omega), Int.ediv_le_self _ ha⟩
end DE
end

section
set_option Elab.async false
set_option linter.all false
set_option maxRecDepth 100000
set_option maxHeartbeats 4000000
/-! TL: all lines, by rooms. -/
namespace DE
open PySem
def lineD (xs : List Int) : PyData := .tuple (xs.map .int)
def growA (room : Int) (l : List Int) : List (List Int) := (List.range (room + 1).toNat).map fun (k : Nat) => l ++ [(k : Int)]
def stepR (found : List (List Int)) (room : Int) : List (List Int) := found.flatMap (growA room)
/-- all lines of rooms, rising -/
def allR (rs : List Int) : List (List Int) := rs.foldl stepR [[]]
theorem growA_len (room : Int) (l : List Int) : (growA room l).length = (room + 1).toNat := by simp [growA]
theorem flat_len (room : Int) : ∀ ls : List (List Int), (ls.flatMap (growA room)).length = ls.length * (room + 1).toNat
  | [] => by simp
  | l :: ls => by
    rw [List.flatMap_cons, List.length_append, growA_len, flat_len room ls, List.length_cons, Nat.add_mul]
    omega
structure RmOk (rs : List Int) : Prop where
  l : rs.length ≤ 10
  ok : ∀ r ∈ rs, 1 ≤ r ∧ r ≤ 6
theorem allR_len : ∀ (rs : List Int) (f : List (List Int)), (∀ r ∈ rs, 1 ≤ r ∧ r ≤ 6) → (rs.foldl stepR f).length ≤ f.length * 7 ^ rs.length ∧ f.length * 2 ^ rs.length ≤ (rs.foldl stepR f).length
  | [], f, _ => by simp
  | s :: ss, f, h => by
    rw [List.foldl_cons]
    obtain ⟨h1, h2⟩ := allR_len ss (stepR f s) fun t ht => h t (List.mem_cons_of_mem _ ht)
    have o := h s List.mem_cons_self
    have e : (stepR f s).length = f.length * (s + 1).toNat := flat_len s f
    have e1 : (stepR f s).length ≤ f.length * 7 := by rw [e]; exact Nat.mul_le_mul_left _ (by omega)
    have e2 : f.length * 2 ≤ (stepR f s).length := by rw [e]; exact Nat.mul_le_mul_left _ (by omega)
    rw [List.length_cons, Nat.pow_succ, Nat.pow_succ]
    constructor
    · calc _ ≤ (stepR f s).length * 7 ^ ss.length := h1
        _ ≤ f.length * 7 * 7 ^ ss.length := Nat.mul_le_mul_right _ e1
        _ = f.length * (7 ^ ss.length * 7) := by rw [Nat.mul_assoc, Nat.mul_comm 7]
    · calc f.length * (2 ^ ss.length * 2) = f.length * 2 * 2 ^ ss.length := by rw [Nat.mul_assoc, Nat.mul_comm 2]
        _ ≤ (stepR f s).length * 2 ^ ss.length := Nat.mul_le_mul_right _ e2
        _ ≤ _ := h2
theorem growR {h fo : D} {room : Int} {l : List Int} {lo : D} (r0 : 0 ≤ room) (r1 : room ≤ 6) (hl : l.length ≤ 100) : evE [] (.comp e_w_all_lines_0 (.nm 5) (.rng1 (.bin .Add (.var 2) (.cst (.int 1)))) .none [5]) [h, fo, .dat (.int room), lo, .dat (lineD l), .dead] =
    .ok (.lst (dd ((growA room l).map lineD))) [h, fo, .dat (.int room), lo, .dat (lineD l), .dead] := by
  have lz : l.length + 1 ≤ 16777216 := by omega
  have rk : rngOk (room + 1) = true := rngOk_s ⟨by omega, by omega⟩
  have := comp_map (G := []) (elt := e_w_all_lines_0) (t := .nm 5) (it := .rng1 (.bin .Add (.var 2) (.cst (.int 1)))) (own := [5]) (ρ := [h, fo, .dat (.int room), lo, .dat (lineD l), .dead]) (ρ1 := [h, fo, .dat (.int room), lo, .dat (lineD l), .dead]) (ρ3 := [h, fo, .dat (.int room), lo, .dat (lineD l), .dead]) (w := none)
    ((List.range (room + 1).toNat).map fun (k : Nat) => PyData.int (k : Int)) (fun d => match d with | .int k => lineD (l ++ [k]) | _ => .none) (by simp [rngL_dd, rk]) (fun x hx => by
      obtain ⟨k, hk, rfl⟩ := List.mem_map.mp hx
      exact ⟨_, by simp [wipeE]; rfl, by simp [wipeE], .dat (lineD (l ++ [(k : Int)])), by simp [e_w_all_lines_0, lineD, lz], by simp⟩)
    (by simp; omega) rfl
  rw [this]
  simp only [growA, List.map_map]
  rfl
theorem inR {h fo : D} {room : Int} {found : List (List Int)} (r0 : 0 ≤ room) (r1 : room ≤ 6) (hl : ∀ l ∈ found, l.length ≤ 100) (hn : found.length ≤ 2000000) :
    forL (.nm 4) (exSs [] b_w_all_lines_0) (dd (found.map lineD)) [h, fo, .dat (.int room), .lst [], .dead, .dead] = .nx [h, fo, .dat (.int room), .lst (dd ((found.flatMap (growA room)).map lineD)), .dead, .dead] := by
  have fe : ∀ (p : List (List Int)) (a : List (List Int)), p.foldl (fun ac l => ac ++ growA room l) a = a ++ p.flatMap (growA room) := by
    intro p
    induction p with
    | nil => simp
    | cons y p ih => intro a; rw [List.foldl_cons, ih, List.flatMap_cons, List.append_assoc]
  have := forL_pre (t := .nm 4) (b := exSs [] b_w_all_lines_0) (fun (ac : List (List Int)) => [h, fo, .dat (.int room), .lst (dd (ac.map lineD)), .dead, .dead]) (fun l => .dat (lineD l)) (fun ac l => ac ++ growA room l) found []
    (fun p x r e => by
      have hx : x.length ≤ 100 := hl x (by rw [e]; simp)
      have pl : p.length ≤ 2000000 := by rw [e, List.length_append] at hn; omega
      have le : (p.foldl (fun ac l => ac ++ growA room l) []).length ≤ 14000000 := by
        rw [fe, List.nil_append, flat_len]
        calc _ ≤ 2000000 * 7 := Nat.mul_le_mul pl (by omega)
          _ ≤ _ := by decide
      generalize p.foldl (fun ac l => ac ++ growA room l) [] = ac at *
      have g := growR (h := h) (fo := fo) (lo := .lst (dd (ac.map lineD))) r0 r1 hx
      have gl := growA_len room x
      have sz : ac.length + (room + 1).toNat ≤ 16777216 := by omega
      exact ⟨_, by simp; rfl, by simp [b_w_all_lines_0, g, gl, sz, -s_comp]⟩)
  rw [fe, List.nil_append] at this
  simp only [dd, List.map_map] at *
  exact this
theorem len_memR : ∀ (ss : List Int) (f : List (List Int)) (n : Nat), (∀ l ∈ f, l.length = n) → ∀ l ∈ ss.foldl stepR f, l.length = n + ss.length
  | [], f, n, h, l, hl => h l hl
  | s :: ss, f, n, h, l, hl => by
    rw [List.foldl_cons] at hl
    have := len_memR ss (stepR f s) (n + 1) (fun l hl => by
      obtain ⟨a, ha, hb⟩ := List.mem_flatMap.mp hl
      obtain ⟨k, _, rfl⟩ := List.mem_map.mp hb
      rw [List.length_append, h a ha]; rfl) l hl
    rw [this, List.length_cons]
    omega
theorem allR_spec {rs : List Int} (ok : ∀ r ∈ rs, 1 ≤ r ∧ r ≤ 6) (l7 : rs.length ≤ 7) : d_w_all_lines [.dat (.list (rs.map .int))] = .ret (.dat (.list ((allR rs).map lineD))) [.dead] := by
  have lp := forL_pre (t := .nm 2) (b := exSs [] b_w_all_lines_1) (fun (fo : List (List Int)) => [.dat (.list (rs.map .int)), .dat (.list (fo.map lineD)), .dead, .dead, .dead, .dead]) (fun r => .dat (.int r)) stepR rs [[]]
    (fun p x r e => by
      obtain ⟨x1, x2⟩ := ok x (by rw [e]; simp)
      have op : ∀ s ∈ p, 1 ≤ s ∧ s ≤ 6 := fun s hs => ok s (by rw [e]; simp [hs])
      have pl : p.length ≤ 6 := by rw [e, List.length_append, List.length_cons] at l7; omega
      have le := (allR_len p [[]] op).1
      have ll := len_memR p [[]] 0 (by simp)
      have p7 : 7 ^ p.length ≤ 7 ^ 6 := Nat.pow_le_pow_right (by decide) pl
      have s7 : stepR (p.foldl stepR [[]]) x = (p.foldl stepR [[]]).flatMap (growA x) := rfl
      rw [s7]
      generalize p.foldl stepR [[]] = fo at *
      have ia := inR (h := .dat (.list (rs.map .int))) (fo := .dat (.list (fo.map lineD))) (room := x) (found := fo) (by omega) (by omega) (fun l hl => by rw [ll l hl]; omega) (by simp at le; omega)
      exact ⟨_, by simp; rfl, by simp [b_w_all_lines_1, dd_eq, ← dd_eq, ia]⟩)
  have start : lineD [] = .tuple [] := rfl
  have e : (rs.map fun s => D.dat (.int s)) = dd (rs.map .int) := by rw [dd, List.map_map]; rfl
  rw [e] at lp
  have l1 : (allR rs) = rs.foldl stepR [[]] := rfl
  rw [← l1] at lp
  simp [start] at lp
  simp [d_w_all_lines, runF_eq, i_w_all_lines, dd_eq, ← dd_eq, lp]
end DE
end

section
set_option Elab.async false
set_option linter.all false
set_option maxRecDepth 100000
set_option maxHeartbeats 4000000
/-! TH: the tape's halls. -/
namespace DE
open PySem
noncomputable abbrev GT : List Fn := [d_w_draw, d_w_all_lines, d_w_frac]
structure Sv where
  p : Int
  q : Int
  room : Int
structure SvOk (s : Sv) : Prop where
  p0 : 0 < s.p
  q0 : 0 < s.q
  p1 : s.p < 100
  q1 : s.q < 100
  r0 : 1 ≤ s.room
  r1 : s.room ≤ 4
def svD (s : Sv) : PyData := .tuple [pr2 s.p s.q, .int s.room]
def hallD (c d : Int) (ss : List Sv) (mv : Bool) : PyData := .tuple [pr2 c d, .tuple (ss.map svD), .bool mv]
structure HOk (most : Nat) (c d : Int) (ss : List Sv) : Prop where
  c0 : 0 < c
  d0 : 0 < d
  c1 : c < 100
  d1 : d < 100
  l0 : 1 ≤ ss.length
  l1 : ss.length ≤ 4
  ok : ∀ s ∈ ss, SvOk s
  few : (allR (ss.map (·.room))).length ≤ most
abbrev pq (s : Int × Int) : PyData := pr2 s.1 s.2
structure Ro (s : Int × Int) : Prop where
  a0 : 1 ≤ s.1
  a1 : s.1 ≤ 3
  b0 : 1 ≤ s.2
  b1 : s.2 ≤ 4
theorem manyT (r : Int) (h0 : 0 ≤ r) (h3 : r < 8) : ∃ h : Int, L2.atI [D.dat (.int 2), .dat (.int 2), .dat (.int 3), .dat (.int 1), .dat (.int 2), .dat (.int 3), .dat (.int 2), .dat (.int 4)] r = some (.dat (.int h)) ∧ 1 ≤ h ∧ h ≤ 4 := by
  have : r = 0 ∨ r = 1 ∨ r = 2 ∨ r = 3 ∨ r = 4 ∨ r = 5 ∨ r = 6 ∨ r = 7 := by omega
  rcases this with rfl | rfl | rfl | rfl | rfl | rfl | rfl | rfl <;> exact ⟨_, rfl, by decide, by decide⟩
theorem restT (r : Int) (h0 : 0 ≤ r) (h3 : r < 5) : ∃ h : Int, L2.atI [D.dat (.int 0), .dat (.int 0), .dat (.int 1), .dat (.int 7), .dat (.int 40)] r = some (.dat (.int h)) ∧ 0 ≤ h ∧ h ≤ 40 := by
  have : r = 0 ∨ r = 1 ∨ r = 2 ∨ r = 3 ∨ r = 4 := by omega
  rcases this with rfl | rfl | rfl | rfl | rfl <;> exact ⟨_, rfl, by decide, by decide⟩
def envT (F M : D) (k : Int) (a3 a4 a5 a6 : D) : Env := [F, M, .dat (.int k), a3, a4, a5, a6, .dead, .dead, .dead]
def svs (ss : List (Int × Int)) : D := .dat (.list (ss.map pq))

theorem servT {b : Nat} {f : Tape} {M a4 a5 a6 : D} {k : Int} (ok : TOk b f) (hb : b + 100 < 2 ^ 60) (hk : 1 ≤ k) (hk4 : k ≤ 4) :
    ∃ (f' : Tape) (ss : List (Int × Int)), evE GT (.comp e_w_hall_0 (.nm 7) (.rng1 (.var 2)) .none [7]) (envT (tpD f) M k .dead a4 a5 a6) = .ok (.lst (dd (ss.map pq))) (envT (tpD f') M k .dead a4 a5 a6) ∧ TOk (b + 8) f' ∧ (ss.length : Int) = k ∧ ∀ s ∈ ss, Ro s := by
  have rk : rngOk k = true := rngOk_s ⟨by omega, by omega⟩
  obtain ⟨ss, f', e, ok', l, v⟩ := comp_st (G := GT) (elt := e_w_hall_0) (t := .nm 7) (it := .rng1 (.var 2)) (own := [7]) (ρ := envT (tpD f) M k .dead a4 a5 a6) (w := none) (items := rngL 0 k.toNat) (s0 := f) (fun f => envT (tpD f) M k .dead a4 a5 a6) (fun j f => TOk (b + 2 * j) f) (fun _ s => Ro s) pq
    (by simp [envT, rk]) ok (fun s => by simp [envT, wipeE]) (fun i x f hx ok => by
      obtain ⟨li, rfl⟩ := rngL_get hx
      obtain ⟨r1, f1, e1, a0, a1, ok1⟩ := draw_spec ok 3 (by decide) (by decide) (by omega)
      obtain ⟨r2, f2, e2, b0, b1, ok2⟩ := draw_spec ok1 4 (by decide) (by decide) (by omega)
      refine ⟨_, _, .dat (pq (1 + r1, 1 + r2)), (1 + r1, 1 + r2), f2, by simp [envT]; rfl, by simp [e_w_hall_0, e1, e2, envT]; rfl, by simp, ⟨by show 1 ≤ 1 + r1; omega, by show 1 + r1 ≤ 3; omega, by show 1 ≤ 1 + r2; omega, by show 1 + r2 ≤ 4; omega⟩, by simp [wipeE, envT], by rw [show b + 2 * (i + 1) = b + 2 * i + 1 + 1 by omega]; exact ok2⟩) (by simp [rngL]; omega)
  have ll : (rngL 0 k.toNat).length = k.toNat := by simp [rngL]
  rw [ll] at ok' l
  refine ⟨f', ss, e _ rfl, ok'.mono (by omega), by omega, fun s hs => ?_⟩
  obtain ⟨i, hi, rfl⟩ := List.getElem_of_mem hs
  exact v i _ (List.getElem?_eq_getElem hi)
/-- the rooms -/
theorem roomsE {elt : E} {F M a4 a5 a6 : D} {k : Int} {ss : List (Int × Int)} (he : elt = .var 9) (ls : ss.length < 1000) : evE GT (.comp elt (.tp [8, 9]) (.val (.var 3)) .none [8, 9]) (envT F M k (svs ss) a4 a5 a6) = .ok (.lst (dd ((ss.map (·.2)).map .int))) (envT F M k (svs ss) a4 a5 a6) := by
  subst he
  have := comp_map (G := GT) (elt := .var 9) (t := .tp [8, 9]) (it := .val (.var 3)) (own := [8, 9]) (ρ := envT F M k (svs ss) a4 a5 a6) (ρ1 := envT F M k (svs ss) a4 a5 a6) (ρ3 := envT F M k (svs ss) a4 a5 a6) (w := none) (ss.map pq)
    (fun d => match d with | .tuple [_, .int a] => .int a | _ => .none) (by simp [envT, svs, dd_eq, ← dd_eq]) (fun x hx => by
      obtain ⟨s, hs, rfl⟩ := List.mem_map.mp hx
      exact ⟨_, by simp [envT, wipeE, pq]; rfl, by simp [wipeE, envT], .dat (.int s.2), by simp [envT, wipeE], by simp⟩)
    (by simp; omega) rfl
  rw [this, List.map_map, List.map_map]; rfl
theorem topsE {elt : E} {F M a4 a5 a6 : D} {k : Int} {ss : List (Int × Int)} (he : elt = .var 8) (ls : ss.length < 1000) : evE GT (.comp elt (.tp [8, 9]) (.val (.var 3)) .none [8, 9]) (envT F M k (svs ss) a4 a5 a6) = .ok (.lst (dd ((ss.map (·.1)).map .int))) (envT F M k (svs ss) a4 a5 a6) := by
  subst he
  have := comp_map (G := GT) (elt := .var 8) (t := .tp [8, 9]) (it := .val (.var 3)) (own := [8, 9]) (ρ := envT F M k (svs ss) a4 a5 a6) (ρ1 := envT F M k (svs ss) a4 a5 a6) (ρ3 := envT F M k (svs ss) a4 a5 a6) (w := none) (ss.map pq)
    (fun d => match d with | .tuple [.int a, _] => .int a | _ => .none) (by simp [envT, svs, dd_eq, ← dd_eq]) (fun x hx => by
      obtain ⟨s, hs, rfl⟩ := List.mem_map.mp hx
      exact ⟨_, by simp [envT, wipeE, pq]; rfl, by simp [wipeE, envT], .dat (.int s.1), by simp [envT, wipeE], by simp⟩)
    (by simp; omega) rfl
  rw [this, List.map_map, List.map_map]; rfl
/-- a room fewer in each -/
def lessS (ss : List (Int × Int)) : List (Int × Int) := ss.map fun s => (s.1, if 1 < s.2 then s.2 - 1 else 1)
theorem lessE {F M a4 a5 a6 : D} {k : Int} {ss : List (Int × Int)} (ls : ss.length < 1000) : evE GT (.comp e_w_hall_3 (.tp [8, 9]) (.val (.var 3)) .none [8, 9]) (envT F M k (svs ss) a4 a5 a6) = .ok (.lst (dd ((lessS ss).map pq))) (envT F M k (svs ss) a4 a5 a6) := by
  have := comp_map (G := GT) (elt := e_w_hall_3) (t := .tp [8, 9]) (it := .val (.var 3)) (own := [8, 9]) (ρ := envT F M k (svs ss) a4 a5 a6) (ρ1 := envT F M k (svs ss) a4 a5 a6) (ρ3 := envT F M k (svs ss) a4 a5 a6) (w := none) (ss.map pq)
    (fun d => match d with | .tuple [.int a, .int r] => pq (a, if 1 < r then r - 1 else 1) | _ => .none) (by simp [envT, svs, dd_eq, ← dd_eq]) (fun x hx => by
      obtain ⟨s, hs, rfl⟩ := List.mem_map.mp hx
      refine ⟨_, by simp [envT, wipeE, pq]; rfl, by simp [wipeE, envT], .dat (pq (s.1, if 1 < s.2 then s.2 - 1 else 1)), ?_, by simp⟩
      have e : (s.2 - 1 > 1) = (1 < s.2 - 1) := rfl
      by_cases h : 1 < s.2 - 1
      · have h2 : 1 < s.2 := by omega
        simp [e_w_hall_3, envT, wipeE, biD, maxD, h, h2]
      · by_cases h2 : 1 < s.2
        · have h3 : s.2 - 1 = 1 := by omega
          simp [e_w_hall_3, envT, wipeE, biD, maxD, h, h2, h3]
        · simp [e_w_hall_3, envT, wipeE, biD, maxD, h, h2])
    (by simp; omega) rfl
  rw [this, List.map_map, lessS, List.map_map]; rfl
end DE
end

section
set_option Elab.async false
set_option linter.all false
set_option maxRecDepth 100000
set_option maxHeartbeats 4000000
/-! TH2: the tape's halls, done. -/
namespace DE
open PySem
theorem intsL_mp : ∀ l : List Int, intsL (l.map PyData.int) = some l
  | [] => rfl
  | a :: l => by rw [List.map_cons, intsL, intsL_mp l]; rfl
theorem sumD_ints (l : List Int) : sumD [.list (l.map PyData.int)] = some (.int l.sum) := by rw [sumD, intsL_mp]; rfl
theorem maxL_of : ∀ (l : List Int), l ≠ [] → ∃ m, maxL l = some m ∧ m ∈ l ∧ ∀ x ∈ l, x ≤ m
  | [], h => absurd rfl h
  | [a], _ => ⟨a, rfl, by simp, by simp⟩
  | a :: b :: r, _ => by
    obtain ⟨m, e, h1, h2⟩ := maxL_of (b :: r) (by simp)
    refine ⟨if a < m then m else a, by rw [maxL, e]; rfl; simp, ?_, fun x hx => ?_⟩
    · split
      · exact List.mem_cons_of_mem _ h1
      · exact List.mem_cons_self
    · rcases List.mem_cons.mp hx with rfl | hx
      · split <;> omega
      · have := h2 x hx
        split <;> omega
theorem maxD_ints {l : List Int} {m : Int} (h : maxL l = some m) : maxD [.list (l.map PyData.int)] = some (.int m) := by rw [maxD, intsL_mp]; simp [h]
theorem Ro.rooms {ss : List (Int × Int)} (h : ∀ s ∈ ss, Ro s) : ∀ r ∈ ss.map (·.2), 1 ≤ r ∧ r ≤ 6 := fun r hr => by
  obtain ⟨s, hs, rfl⟩ := List.mem_map.mp hr
  obtain ⟨_, _, b0, b1⟩ := h s hs
  omega
theorem lessS_ok {ss : List (Int × Int)} (h : ∀ s ∈ ss, Ro s) : ∀ s ∈ lessS ss, Ro s := fun s hs => by
  obtain ⟨t, ht, rfl⟩ := List.mem_map.mp hs
  obtain ⟨a0, a1, b0, b1⟩ := h t ht
  refine ⟨a0, a1, ?_, ?_⟩ <;> (show _ ≤ _; (try dsimp only); split <;> omega)
def sumR (ss : List (Int × Int)) : Nat := (ss.map fun s => s.2.toNat).sum
theorem sumR_less : ∀ {ss : List (Int × Int)}, (∀ s ∈ ss, Ro s) → sumR (lessS ss) ≤ sumR ss ∧ ((∃ s ∈ ss, 1 < s.2) → sumR (lessS ss) < sumR ss)
  | [], _ => ⟨Nat.le_refl _, fun ⟨s, hs, _⟩ => absurd hs (by simp)⟩
  | s :: ss, h => by
    obtain ⟨h1, h2⟩ := sumR_less fun t ht => h t (List.mem_cons_of_mem _ ht)
    obtain ⟨_, _, b0, b1⟩ := h s List.mem_cons_self
    have e : sumR (lessS (s :: ss)) = (if 1 < s.2 then s.2 - 1 else 1).toNat + sumR (lessS ss) := by simp [sumR, lessS]
    have e2 : sumR (s :: ss) = s.2.toNat + sumR ss := by simp [sumR]
    rw [e, e2]
    refine ⟨by split <;> omega, fun ⟨t, ht, l⟩ => ?_⟩
    rcases List.mem_cons.mp ht with rfl | ht
    · rw [if_pos l]; omega
    · have := h2 ⟨t, ht, l⟩
      split <;> omega
theorem allR1 : (allR [1]).length = 2 := by decide
theorem whlT {F : D} {k most : Int} (hm : 2 ≤ most) (ss0 : List (Int × Int)) (h0 : ∀ s ∈ ss0, Ro s) (l1 : 1 ≤ ss0.length) (l4 : ss0.length ≤ 4) :
    ∃ ss, whileU (evE GT (.cmp .Gt (.bi .len (.cons (.call 1 "_law_all_lines" false (.val (.frz (.comp e_w_hall_1 (.tp [8, 9]) (.val (.var 3)) .none [8, 9])) .nil)) .nil)) (.var 1))) (exSs GT b_w_hall_0) (envT F (.dat (.int most)) k (svs ss0) .dead .dead .dead) = .nx (envT F (.dat (.int most)) k (svs ss) .dead .dead .dead) ∧
      ((∀ s ∈ ss, Ro s) ∧ 1 ≤ ss.length ∧ ss.length ≤ 4) ∧ ((allR (ss.map (·.2))).length : Int) ≤ most := by
  refine whl_st (fun ss => envT F (.dat (.int most)) k (svs ss) .dead .dead .dead) (fun ss => (∀ s ∈ ss, Ro s) ∧ 1 ≤ ss.length ∧ ss.length ≤ 4) (fun ss => ((allR (ss.map (·.2))).length : Int) ≤ most) (fun ss => sumR ss + ss.length) (fun ss ⟨h, l1, l4⟩ => ?_) ss0 ⟨h0, l1, l4⟩
  have rm := Ro.rooms h
  have al := allR_spec rm (by simp; omega)
  have re := roomsE (elt := e_w_hall_1) (F := F) (M := .dat (.int most)) (a4 := .dead) (a5 := .dead) (a6 := .dead) (k := k) (ss := ss) rfl (by omega)
  have re2 := roomsE (elt := e_w_hall_2) (F := F) (M := .dat (.int most)) (a4 := .dead) (a5 := .dead) (a6 := .dead) (k := k) (ss := ss) rfl (by omega)
  have cond : ∀ bb, decide (most < ((allR (ss.map (·.2))).length : Int)) = bb → evE GT (.cmp .Gt (.bi .len (.cons (.call 1 "_law_all_lines" false (.val (.frz (.comp e_w_hall_1 (.tp [8, 9]) (.val (.var 3)) .none [8, 9])) .nil)) .nil)) (.var 1)) (envT F (.dat (.int most)) k (svs ss) .dead .dead .dead) = .ok (.dat (.bool bb)) (envT F (.dat (.int most)) k (svs ss) .dead .dead .dead) := fun bb hb => by
    have z : evE GT (.cmp .Gt (.bi .len (.cons (.call 1 "_law_all_lines" false (.val (.frz (.comp e_w_hall_1 (.tp [8, 9]) (.val (.var 3)) .none [8, 9])) .nil)) .nil)) (.var 1)) (envT F (.dat (.int most)) k (svs ss) .dead .dead .dead) = .ok (.dat (.bool (decide (most < ((allR (ss.map (·.2))).length : Int))))) (envT F (.dat (.int most)) k (svs ss) .dead .dead .dead) := by
      simp only [s_cmp, s_bi, s_cons, s_call, s_aval, s_frz, re, bind_ok]
      simp [al, envT, -s_comp, -List.map_map]
    rw [z, hb]
  by_cases hc : ((allR (ss.map (·.2))).length : Int) ≤ most
  · exact .inl ⟨cond false (by simp; omega), hc⟩
  · refine .inr ?_
    have ct := cond true (by simp; omega)
    obtain ⟨mx, em, hmem, hle⟩ := maxL_of (ss.map (·.2)) (by cases ss with | nil => simp at l1 | cons _ _ => simp)
    have emx := maxD_ints em
    obtain ⟨s, hs, es⟩ := List.mem_map.mp hmem
    by_cases h1 : mx = 1
    · subst h1
      have l2 : 2 ≤ ss.length := by
        by_cases e : ss.length = 1
        · obtain ⟨t, rfl⟩ := List.length_eq_one_iff.mp e
          simp only [List.mem_singleton] at hs
          subst hs
          simp only [List.map_cons, List.map_nil, es, allR1] at hc
          omega
        · omega
      obtain ⟨t, u, r, rfl⟩ : ∃ t u r, ss = t :: u :: r := by
        match ss, l2 with
        | t :: u :: r, _ => exact ⟨t, u, r, rfl⟩
      · have h' : ∀ s ∈ u :: r, Ro s := fun s hs => h s (List.mem_cons_of_mem _ hs)
        have le := lessE (F := F) (M := .dat (.int most)) (a4 := .dead) (a5 := .dead) (a6 := .dead) (k := k) (ss := u :: r) (by simp at l4 ⊢; omega)
        have cu : cutL ((t :: u :: r).map pq) (some 1) none = (u :: r).map pq := by
          unfold cutL
          have h1 : HT.sIx ((t :: u :: r).map pq).length 0 (some 1) = 1 := by
            have := HT.sIx_nat ((t :: u :: r).map pq).length 0 1
            simp at this ⊢
            rw [this]
          rw [h1]
          have h2 : HT.sIx ((t :: u :: r).map pq).length ((t :: u :: r).map pq).length none = ((t :: u :: r).map pq).length := rfl
          rw [h2]
          simp [List.take_of_length_le]
        refine ⟨lessS (u :: r), ct, ?_, ⟨lessS_ok h', by simp [lessS], by simp [lessS] at l4 ⊢; omega⟩, ?_⟩
        · obtain ⟨z, hz⟩ : ∃ z, z = exSs GT b_w_hall_0 (envT F (.dat (.int most)) k (svs (t :: u :: r)) .dead .dead .dead) := ⟨_, rfl⟩
          rw [← hz]
          simp only [envT, svs] at re2 le cu
          simp [b_w_hall_0, envT, svs, re2, emx, cu, le, -s_comp, -List.map_map, -List.map_cons] at hz
          simp [hz, envT, svs]
        · have := (sumR_less h').1
          have e2 : sumR (t :: u :: r) = t.2.toNat + sumR (u :: r) := by simp [sumR]
          rw [e2]
          simp only [lessS, List.length_map, List.length_cons] at *
          omega
    · have gt : ∃ s ∈ ss, 1 < s.2 := ⟨s, hs, by have := (h s hs).b0; omega⟩
      have le := lessE (F := F) (M := .dat (.int most)) (a4 := .dead) (a5 := .dead) (a6 := .dead) (k := k) (ss := ss) (by omega)
      refine ⟨lessS ss, ct, ?_, ⟨lessS_ok h, by simpa [lessS] using l1, by simpa [lessS] using l4⟩, ?_⟩
      · obtain ⟨z, hz⟩ : ∃ z, z = exSs GT b_w_hall_0 (envT F (.dat (.int most)) k (svs ss) .dead .dead .dead) := ⟨_, rfl⟩
        rw [← hz]
        simp only [envT, svs] at re2 le
        simp [b_w_hall_0, envT, svs, re2, emx, h1, le, -s_comp, -List.map_map] at hz
        simp [hz, envT, svs]
      · have := (sumR_less h).2 gt
        have e : (lessS ss).length = ss.length := by simp [lessS]
        rw [e]; omega

theorem sum_bd : ∀ ss : List (Int × Int), (∀ s ∈ ss, Ro s) → (ss.length : Int) ≤ (ss.map (·.1)).sum ∧ (ss.map (·.1)).sum ≤ 3 * ss.length
  | [], _ => by simp
  | s :: ss, h => by
    obtain ⟨o1, o2, _, _⟩ := h s List.mem_cons_self
    have := sum_bd ss fun t ht => h t (List.mem_cons_of_mem _ ht)
    simp only [List.map_cons, List.sum_cons, List.length_cons]
    omega
theorem speedsT {F M : D} {k co wh : Int} {ss : List (Int × Int)} (ls : ss.length < 1000) (hw : 0 < wh ∧ wh < 2 ^ 50) (ok : ∀ s ∈ ss, Ro s) : evE GT (.comp e_w_hall_5 (.tp [8, 9]) (.val (.var 3)) .none [8, 9]) (envT F M k (svs ss) (.dat (.int co)) (.dat (.int wh)) .dead) =
    .ok (.lst (dd ((ss.map fun s => Sv.mk (frA s.1 wh) (frB s.1 wh) s.2).map svD))) (envT F M k (svs ss) (.dat (.int co)) (.dat (.int wh)) .dead) := by
  have := comp_map (G := GT) (elt := e_w_hall_5) (t := .tp [8, 9]) (it := .val (.var 3)) (own := [8, 9]) (ρ := envT F M k (svs ss) (.dat (.int co)) (.dat (.int wh)) .dead) (ρ1 := envT F M k (svs ss) (.dat (.int co)) (.dat (.int wh)) .dead) (ρ3 := envT F M k (svs ss) (.dat (.int co)) (.dat (.int wh)) .dead) (w := none) (ss.map pq)
    (fun d => match d with | .tuple [.int a, .int r] => svD ⟨frA a wh, frB a wh, r⟩ | _ => .none) (by simp [envT, svs, dd_eq, ← dd_eq]) (fun x hx => by
      obtain ⟨s, hs, rfl⟩ := List.mem_map.mp hx
      obtain ⟨o1, o2, o3, o4⟩ := ok s hs
      have ct := frac_spec (a := s.1) (b := wh) (by omega) hw.1 (by omega)
      exact ⟨_, by simp [envT, wipeE, pq]; rfl, by simp [wipeE, envT], .dat (svD ⟨frA s.1 wh, frB s.1 wh, s.2⟩), by simp [e_w_hall_5, envT, wipeE, ct, svD], by simp⟩)
    (by simp; omega) rfl
  rw [this, List.map_map, List.map_map]; rfl
theorem hall_spec {b : Nat} {f : Tape} (ok : TOk b f) (hb : b + 200 < 2 ^ 60) (most : Nat) (hm : 2 ≤ most) (hm2 : most < 2 ^ 60) :
    ∃ f' c d ss mv, d_w_hall [tpD f, .dat (.int most)] = .ret (.dat (hallD c d ss mv)) [tpD f', .dead] ∧ TOk (b + 20) f' ∧ HOk most c d ss := by
  obtain ⟨z, hz⟩ : ∃ z, z = d_w_hall [tpD f, .dat (.int most)] := ⟨_, rfl⟩
  rw [← hz]
  obtain ⟨r1, f1, e1, a1, b1, ok1⟩ := draw_spec ok 8 (by decide) (by decide) (by omega)
  obtain ⟨k, ek, k1, k4⟩ := manyT r1 a1 b1
  obtain ⟨f2, ss, e2, ok2, ls, oks⟩ := servT (M := .dat (.int most)) (a4 := .dead) (a5 := .dead) (a6 := .dead) ok1 (by omega) k1 k4
  obtain ⟨r3, f3, e3, a3, b3, ok3⟩ := draw_spec ok2 2 (by decide) (by decide) (by omega)
  obtain ⟨s0, sr, es⟩ : ∃ s0 sr, ss = s0 :: sr := by
    cases ss with
    | nil => simp at ls; omega
    | cons a r => exact ⟨a, r, rfl⟩
  -- alike or not
  obtain ⟨ss2, hs2, l2, ok2'⟩ : ∃ ss2 : List (Int × Int), ss2 = (if r3 = 0 then List.replicate k.toNat s0 else ss) ∧ (ss2.length : Int) = k ∧ ∀ s ∈ ss2, Ro s := by
    by_cases h : r3 = 0
    · refine ⟨List.replicate k.toNat s0, by rw [if_pos h], by simp; omega, fun s hs => ?_⟩
      rw [(List.mem_replicate.mp hs).2]
      exact oks s0 (by rw [es]; simp)
    · exact ⟨ss, by rw [if_neg h], ls, oks⟩
  obtain ⟨ss3, e4, ⟨ok3', l3, l34⟩, few⟩ := whlT (F := tpD f3) (k := k) (most := (most : Int)) (by omega) ss2 ok2' (by omega) (by omega)
  obtain ⟨r5, f5, e5, a5, b5, ok5⟩ := draw_spec ok3 5 (by decide) (by decide) (by omega)
  obtain ⟨r6, f6, e6, a6, b6, ok6⟩ := draw_spec ok5 5 (by decide) (by decide) (by omega)
  obtain ⟨rs, er, rs0, rs1⟩ := restT r6 a6 b6
  obtain ⟨q1, q2⟩ := sum_bd ss3 ok3'
  have te := topsE (elt := e_w_hall_4) (F := tpD f5) (M := .dat (.int most)) (a4 := .dat (.int (1 + r5))) (a5 := .dead) (a6 := .dead) (k := k) (ss := ss3) rfl (by omega)
  obtain ⟨wh, hwh⟩ : ∃ wh, wh = 1 + r5 + (ss3.map (·.1)).sum + rs := ⟨_, rfl⟩
  have sp := speedsT (F := tpD f6) (M := .dat (.int most)) (k := k) (co := 1 + r5) (wh := wh) (ss := ss3) (by omega) ⟨by omega, by omega⟩ ok3'
  have ct := frac_spec (a := 1 + r5) (b := wh) (by omega) (by omega) (by omega)
  obtain ⟨p1, p2, p3, p4⟩ := frac_pos (a := 1 + r5) (b := wh) (by omega) (by omega)
  obtain ⟨r7, f7, e7, a7, b7, ok7⟩ := draw_spec ok6 4 (by decide) (by decide) (by omega)
  have sm := sumD_ints (ss3.map (·.1))
  have at0' : L2.atI (List.map pq ss) 0 = some (pq s0) := by rw [es]; simp
  have rep : (List.replicate k.toNat [pq s0]).flatten = (List.replicate k.toNat s0).map pq := by
    generalize k.toNat = n
    induction n with
    | zero => rfl
    | succ n ih => rw [List.replicate_succ, List.flatten_cons, ih]; simp [List.replicate_succ]
  refine ⟨f7, frA (1 + r5) wh, frB (1 + r5) wh, ss3.map fun s => Sv.mk (frA s.1 wh) (frB s.1 wh) s.2, decide (r7 = 0), ?_, ok7.mono (by omega), ⟨p1, p2, by omega, by omega, by simp; omega, by simp; omega, fun s hs => ?_, ?_⟩⟩
  · simp only [envT, svs] at e2 e4 te sp
    have kz : k.toNat ≤ 16777216 := by omega
    have krk : rngOk k = true := rngOk_s ⟨by omega, by omega⟩
    by_cases h : r3 = 0
    · rw [if_pos h] at hs2
      subst hs2
      simp [d_w_hall, runF_eq, i_w_hall, e1, ek, e2, e3, h, at0', kz, krk, rep, e4, e5, te, sm, e6, er, ← hwh, sp, ct, e7, -s_comp, -List.map_map, -List.map_replicate] at hz
      simpa [hallD, -List.map_map] using hz
    · rw [if_neg h] at hs2
      subst hs2
      simp [d_w_hall, runF_eq, i_w_hall, e1, ek, e2, e3, h, e4, e5, te, sm, e6, er, ← hwh, sp, ct, e7, -s_comp, -List.map_map] at hz
      simpa [hallD, -List.map_map] using hz
  · obtain ⟨t, ht, rfl⟩ := List.mem_map.mp hs
    obtain ⟨o1, o2, o3, o4⟩ := ok3' t ht
    obtain ⟨g1, g2, g3, g4⟩ := frac_pos (a := t.1) (b := wh) (by omega) (by omega)
    exact ⟨g1, g2, by show _ < _; (try dsimp only); omega, by show _ < _; (try dsimp only); omega, o3, o4⟩
  · rw [List.map_map]
    show (allR (ss3.map (·.2))).length ≤ most
    omega
end DE
end

section
set_option Elab.async false
set_option linter.all false
set_option maxRecDepth 100000
set_option maxHeartbeats 4000000
/-! K55a: rules drawn; what is refused. -/
namespace DE
open PySem
theorem rooms_comp {G : List Fn} {elt : E} (he : elt = .var 6) {F M a2 a3 a4 : D} {c d : Int} {ss : List Sv} {mv : Bool} (hl : ss.length ≤ 1000) :
    evE G (.comp elt (.tp [5, 6]) (.val (.ix (.var 1) (.cst (.int 1)))) .none [5, 6]) [F, .dat (hallD c d ss mv), a2, a3, a4, .dead, .dead] = .ok (.lst (dd (iPd (ss.map (·.room))))) [F, .dat (hallD c d ss mv), a2, a3, a4, .dead, .dead] := by
  subst he
  have i1 : ixD (hallD c d ss mv) 1 = some (.tuple (ss.map svD)) := rfl
  generalize hallD c d ss mv = H at *
  have := comp_map (G := G) (elt := .var 6) (t := .tp [5, 6]) (it := .val (.ix (.var 1) (.cst (.int 1)))) (own := [5, 6]) (ρ := [F, .dat H, a2, a3, a4, .dead, .dead]) (ρ1 := [F, .dat H, a2, a3, a4, .dead, .dead]) (ρ3 := [F, .dat H, a2, a3, a4, .dead, .dead]) (w := none) (ss.map svD)
    (fun d => match d with | .tuple [_, r] => r | _ => .none) (by simp [i1, dd_eq, ← dd_eq, -List.map_map]) (fun d hd => by
      obtain ⟨s, hs, rfl⟩ := List.mem_map.mp hd
      exact ⟨[F, .dat H, a2, a3, a4, .dat (pr2 s.p s.q), .dat (.int s.room)], by simp [wipeE, svD], by simp [wipeE], .dat (.int s.room), by simp, by simp [svD]⟩) (by simp; omega) rfl
  rw [this, List.map_map]
  simp [iPd, Function.comp_def, svD]
theorem words_ok : ∀ w ∈ (["random", "two", "least", "quick", "told"] : List Str), cmpD .Eq (.str w) (.str "turns") = some false := by decide +kernel
theorem rule_spec {b : Nat} {f : Tape} {c d : Int} {ss : List Sv} {mv : Bool} (ok : TOk b f) (hb : b + 3000 < 2 ^ 60) (h : HOk 400 c d ss) :
    ∃ f' R w0, d_w_rule [tpD f, .dat (hallD c d ss mv)] = .ret (.dat R) [tpD f', .dead] ∧ TOk (b + 1000) f' ∧ ixD R 0 = some (.str w0) ∧ cmpD .Eq (.str w0) (.str "turns") = some false := by
  obtain ⟨z, hz⟩ : ∃ z, z = d_w_rule [tpD f, .dat (hallD c d ss mv)] := ⟨_, rfl⟩
  rw [← hz]
  obtain ⟨r1, f1, e1, a0, a1, ok1⟩ := draw_spec ok 6 (by decide) (by decide) (by omega)
  have i1 : ixD (hallD c d ss mv) 1 = some (.tuple (ss.map svD)) := rfl
  by_cases lt : r1 < 4
  · obtain ⟨w, hw, ew⟩ : ∃ w ∈ (["random", "two", "least", "quick"] : List Str), L2.atI [D.dat (.str "random"), .dat (.str "two"), .dat (.str "least"), .dat (.str "quick")] r1 = some (.dat (.str w)) := by
      have : r1 = 0 ∨ r1 = 1 ∨ r1 = 2 ∨ r1 = 3 := by omega
      rcases this with rfl | rfl | rfl | rfl
      · exact ⟨"random", by simp, rfl⟩
      · exact ⟨"two", by simp, rfl⟩
      · exact ⟨"least", by simp, rfl⟩
      · exact ⟨"quick", by simp, rfl⟩
    refine ⟨f1, .tuple [.str w], w, ?_, ok1.mono (by omega), rfl, words_ok w (by
      simp only [List.mem_cons, List.not_mem_nil, or_false] at hw ⊢
      rcases hw with h | h | h | h <;> simp [h])⟩
    generalize hallD c d ss mv = H at *
    simp [d_w_rule, runF_eq, i_w_rule, e1, lt, ew] at hz
    exact hz
  · have rc := fun (a2 a3 a4 : D) => rooms_comp (G := [d_w_draw, d_w_all_lines]) (elt := e_w_rule_0) rfl (F := tpD f1) (M := .dead) (a2 := a2) (a3 := a3) (a4 := a4) (c := c) (d := d) (mv := mv) (ss := ss) (by have := h.l1; omega)
    have al := allR_spec (rs := ss.map (·.room)) (fun r hr => by
      obtain ⟨s, hs, rfl⟩ := List.mem_map.mp hr
      have := h.ok s hs
      exact ⟨this.r0, by have := this.r1; omega⟩) (by simp; have := h.l1; omega)
    have few := h.few
    have n0 := h.l0
    have n4 := h.l1
    obtain ⟨ps, f2, e2, ok2, lp, vp⟩ := comp_st0 (G := [d_w_draw, d_w_all_lines]) (elt := e_w_rule_1) (t := .nm 4) (it := .rng1 (.var 3)) (own := [4]) (ρ := [tpD f1, .dat (hallD c d ss mv), .dat (.int r1), .dat (.int ((allR (ss.map (·.room))).length : Int)), .dead, .dead, .dead]) (items := (List.range (allR (ss.map (·.room))).length).map fun (k : Nat) => PyData.int (k : Int)) (s0 := f1)
      (fun (f : Tape) => [tpD f, .dat (hallD c d ss mv), .dat (.int r1), .dat (.int ((allR (ss.map (·.room))).length : Int)), .dead, .dead, .dead]) (fun i f => TOk (b + 1 + i) f) (fun _ (_ : Int) => True) PyData.int
      (by simp [rngL_dd, rngOk_s (j := ((allR (ss.map (·.room))).length : Int)) ⟨by omega, by omega⟩, -List.map_map]) (ok1.mono (by omega)) (fun s => by simp [wipeE]) (fun i x f hx ok => by
        have li := (List.getElem?_eq_some_iff.mp hx).1
        simp only [List.length_map, List.length_range] at li
        obtain ⟨p, f3, e3, a0, a1, ok3⟩ := draw_spec ok (ss.length : Int) (by omega) (by omega) (by omega)
        have zn : ss.length ≤ 16777216 := by omega
        have lm : (ss.map svD).length = ss.length := by simp
        exact ⟨_, _, .dat (.int p), p, f3, by simp; rfl, by simp [e_w_rule_1, i1, lm, zn, e3]; rfl, by simp, trivial, by simp [wipeE], ok3⟩) (by simp; omega)
    simp only [List.length_map, List.length_range] at ok2 lp
    refine ⟨f2, .tuple [.str "told", .tuple (iPd ps)], "told", ?_, ok2.mono (by omega), rfl, words_ok "told" (by simp)⟩
    have lz : (iPd ps).length ≤ 16777216 := by simp; omega
    have lA : ((allR (ss.map (·.room))).map lineD).length = (allR (ss.map (·.room))).length := by simp
    have lA2 : (allR (ss.map (·.room))).length ≤ 16777216 := by omega
    have ep : ps.map PyData.int = iPd ps := rfl
    have er : (ss.map (·.room)).map PyData.int = iPd (ss.map (·.room)) := rfl
    rw [ep] at e2
    rw [er] at al
    generalize (allR (ss.map (·.room))).map lineD = AL at *
    generalize (allR (ss.map (·.room))).length = nA at *
    generalize iPd (ss.map (·.room)) = RM at *
    generalize iPd ps = PS at *
    generalize hallD c d ss mv = H at *
    simp [d_w_rule, runF_eq, i_w_rule, e1, lt, rc, al, lA, lA2, e2, tupleD, lz, -s_comp] at hz
    exact hz
theorem never_other : ¬ (Str.ofString "NoNever" = Str.ofString "NoAlike") ∧ ¬ (Str.ofString "NoNever" = Str.ofString "NoBack") ∧ ¬ (Str.ofString "NoNever" = Str.ofString "NoBest") ∧ ¬ (Str.ofString "NoNever" = Str.ofString "NoFraction") ∧ ¬ (Str.ofString "NoNever" = Str.ofString "NoHall") ∧ ¬ (Str.ofString "NoNever" = Str.ofString "NoRow") ∧ ¬ (Str.ofString "NoNever" = Str.ofString "NoShares") ∧ ¬ (Str.ofString "NoNever" = Str.ofString "NoText") ∧ ¬ (Str.ofString "NoNever" = Str.ofString "TooMany") ∧ ¬ (Str.ofString "NoNever" = Str.ofString "LineError") := by decide +kernel
theorem lk1 : List.lookup (Str.ofString "word") [(Str.ofString "number", PyData.int (-1)), (Str.ofString "word", PyData.str (Str.ofString "rule"))] = some (.str "rule") := by decide +kernel
theorem lk2 : List.lookup (Str.ofString "number") [(Str.ofString "number", PyData.int (-1)), (Str.ofString "word", PyData.str (Str.ofString "rule"))] = some (.int (-1)) := by decide +kernel
def refusal : D := .exc "NoNever" [("number", .int (-1)), ("word", .str "rule")]
theorem ef : excF [("word" : Str), "number"] [PyData.str "rule", .int (-1)] = some [(("number" : Str), PyData.int (-1)), ("word", .str "rule")] := rfl
theorem ask_raises {R1 R2 : PyData} {w1 w2 : Str} {b1 b2 : Bool} (h1 : ixD R1 0 = some (.str w1)) (e1 : cmpD .Eq (.str w1) (.str "turns") = some b1) (h2 : ixD R2 0 = some (.str w2)) (e2 : cmpD .Eq (.str w2) (.str "turns") = some b2) (hb : b1 = true ∨ b2 = true) :
    d_p_ask_rules [.dat R1, .dat R2] = .ex refusal [.dead, .dead] := by
  cases b1 with
  | true => simp [d_p_ask_rules, runF_eq, i_p_ask_rules, h1, e1, ef, refusal]
  | false =>
    have : b2 = true := by simpa using hb
    subst this
    simp [d_p_ask_rules, runF_eq, i_p_ask_rules, h1, e1, h2, e2, ef, refusal]
theorem told_spec {H R1 R2 : PyData} {w1 w2 : Str} {b1 b2 : Bool} {ts : List PyData} (h1 : ixD R1 0 = some (.str w1)) (e1 : cmpD .Eq (.str w1) (.str "turns") = some b1) (h2 : ixD R2 0 = some (.str w2)) (e2 : cmpD .Eq (.str w2) (.str "turns") = some b2) (hb : b1 = true ∨ b2 = true) (hs : SeqAt.shaped (.list ts) = true) (hl : ts.length ≤ 1) :
    d_w_told [.dat H, .dat R1, .dat R2, .dat (.list ts)] = .ret (.dat (.tuple [.str "rule", .int (-1)])) [.dead, .dead, .dead, .dead] := by
  have ar := ask_raises h1 e1 h2 e2 hb
  have nw : d_p_never_worse [.dat H, .dat R1, .dat R2] = .ex refusal [.dead, .dead, .dead] := by
    unfold refusal at *
    simp [d_p_never_worse, runF_eq, i_p_never_worse, ar]
  have ln : ∀ x, d_p_lets_never [.dat H, .dat R1, .dat R2, .dat x] = .ex refusal [.dead, .dead, .dead, .dead] := fun x => by
    unfold refusal at *
    simp [d_p_lets_never, runF_eq, i_p_lets_never, ar]
  have en := eq_nil hs
  obtain ⟨q1, q2, q3, q4, q5, q6, q7, q8, q9, q10⟩ := never_other
  unfold refusal at *
  cases ts with
  | nil =>
    rw [List.isEmpty_nil] at en
    simp [d_w_told, runF_eq, i_w_told, en, nw, SR.suite, D.nexL, D.nex, lk1, lk2, q1, q2, q3, q4, q5, q6, q7, q8, q9, q10]
  | cons x r =>
    have : r = [] := by simpa using hl
    subst this
    rw [List.isEmpty_cons] at en
    simp [d_w_told, runF_eq, i_w_told, en, ln, SR.suite, D.nexL, D.nex, lk1, lk2, q1, q2, q3, q4, q5, q6, q7, q8, q9, q10]
end DE
end

section
set_option Elab.async false
set_option linter.all false
set_option maxRecDepth 100000
set_option maxHeartbeats 4000000
/-! K55b: the law. -/
namespace DE
open PySem
noncomputable abbrev GL : List Fn := [d_w_tape, d_w_hall, d_w_rule, d_w_told, d_w_all_lines]
def vo (n : Nat) : PyData := .tuple (List.replicate n (.int 0))
def th5 (n : Nat) : List PyData := [.tuple [.tuple [vo n, vo n, .int 0]], .tuple [], .none, .list [.tuple [vo n, vo n, .int 0]], .str "turns"]
theorem th5_ok {n : Nat} (n1 : 1 ≤ n) (n4 : n ≤ 4) : ∀ x ∈ th5 n, SeqAt.shaped (.list [x]) = true := by
  have : ∀ n ∈ [1, 2, 3, 4], ∀ x ∈ th5 n, SeqAt.shaped (.list [x]) = true := by decide +kernel
  exact this n (by simp; omega)
theorem rooms_comp2 {S F k R V a6 a7 a8 a9 : D} {c d : Int} {ss : List Sv} {mv : Bool} (hl : ss.length ≤ 1000) :
    evE GL (.comp e_law_0 (.tp [10, 11]) (.val (.ix (.var 3) (.cst (.int 1)))) .none [10, 11]) [S, F, k, .dat (hallD c d ss mv), R, V, a6, a7, a8, a9, .dead, .dead] = .ok (.lst (dd (iPd (ss.map (·.room))))) [S, F, k, .dat (hallD c d ss mv), R, V, a6, a7, a8, a9, .dead, .dead] := by
  have i1 : ixD (hallD c d ss mv) 1 = some (.tuple (ss.map svD)) := rfl
  generalize hallD c d ss mv = H at *
  have := comp_map (G := GL) (elt := e_law_0) (t := .tp [10, 11]) (it := .val (.ix (.var 3) (.cst (.int 1)))) (own := [10, 11]) (ρ := [S, F, k, .dat H, R, V, a6, a7, a8, a9, .dead, .dead]) (ρ1 := [S, F, k, .dat H, R, V, a6, a7, a8, a9, .dead, .dead]) (ρ3 := [S, F, k, .dat H, R, V, a6, a7, a8, a9, .dead, .dead]) (w := none) (ss.map svD)
    (fun d => match d with | .tuple [_, r] => r | _ => .none) (by simp [i1, dd_eq, ← dd_eq, -List.map_map]) (fun d hd => by
      obtain ⟨s, hs, rfl⟩ := List.mem_map.mp hd
      exact ⟨[S, F, k, .dat H, R, V, a6, a7, a8, a9, .dat (pr2 s.p s.q), .dat (.int s.room)], by simp [wipeE, svD], by simp [wipeE], .dat (.int s.room), by simp [e_law_0], by simp [svD]⟩) (by simp; omega) rfl
  rw [this, List.map_map]
  simp [iPd, Function.comp_def, svD]
theorem ne_due : cmpD .NotEq (.tuple [.str "rule", .int (-1)]) (.tuple [.str "rule", .int (-1)]) = some false := by decide +kernel
section
variable {S F k R : D} {c d : Int} {ss : List Sv} {mv : Bool} {R1 R2 : PyData} {w1 w2 : Str} {b1 b2 : Bool} (h : HOk 400 c d ss) (h1 : ixD R1 0 = some (.str w1)) (e1 : cmpD .Eq (.str w1) (.str "turns") = some b1) (h2 : ixD R2 0 = some (.str w2)) (e2 : cmpD .Eq (.str w2) (.str "turns") = some b2) (hb : b1 = true ∨ b2 = true)
include h h1 e1 h2 e2 hb
theorem things_loop : forL (.nm 8) (exSs GL b_law_0) (dd (th5 ss.length)) [S, F, k, .dat (hallD c d ss mv), R, .dat (vo ss.length), .dat R1, .dat R2, .dead, .dead, .dead, .dead] = .nx [S, F, k, .dat (hallD c d ss mv), R, .dat (vo ss.length), .dat R1, .dat R2, .dead, .dead, .dead, .dead] := by
  have go : ∀ (ts : List PyData), (∀ x ∈ ts, SeqAt.shaped (.list [x]) = true) → forL (.nm 8) (exSs GL b_law_0) (dd ts) [S, F, k, .dat (hallD c d ss mv), R, .dat (vo ss.length), .dat R1, .dat R2, .dead, .dead, .dead, .dead] = .nx [S, F, k, .dat (hallD c d ss mv), R, .dat (vo ss.length), .dat R1, .dat R2, .dead, .dead, .dead, .dead] := fun ts => by
    induction ts with
    | nil => intro _; rfl
    | cons x ts ih =>
      intro hs
      have td := told_spec (H := hallD c d ss mv) (ts := [x]) h1 e1 h2 e2 hb (hs x List.mem_cons_self) (by simp)
      have ih := ih fun y hy => hs y (List.mem_cons_of_mem _ hy)
      rw [dd_c, forL]
      have st : storeT (.nm 8) (.dat x) [S, F, k, .dat (hallD c d ss mv), R, .dat (vo ss.length), .dat R1, .dat R2, .dead, .dead, .dead, .dead] = some [S, F, k, .dat (hallD c d ss mv), R, .dat (vo ss.length), .dat R1, .dat R2, .dat x, .dead, .dead, .dead] := by simp
      rw [st]
      simp only
      have bd : exSs GL b_law_0 [S, F, k, .dat (hallD c d ss mv), R, .dat (vo ss.length), .dat R1, .dat R2, .dat x, .dead, .dead, .dead] = .nx [S, F, k, .dat (hallD c d ss mv), R, .dat (vo ss.length), .dat R1, .dat R2, .dead, .dead, .dead, .dead] := by
        generalize hallD c d ss mv = H at *
        generalize vo ss.length = V at *
        simp [b_law_0, td, ne_due]
      rw [bd]
      simp only [SR.bind]
      exact ih
  exact go _ (th5_ok h.l0 h.l1)
theorem pair_spec : exSs GL b_law_1 [S, F, k, .dat (hallD c d ss mv), R, .dat (vo ss.length), .dat R1, .dat R2, .dead, .dead, .dead, .dead] = .nx [S, F, k, .dat (hallD c d ss mv), R, .dat (vo ss.length), .dead, .dead, .dead, .dead, .dead, .dead] := by
  have tl := things_loop (S := S) (F := F) (k := k) (R := R) (mv := mv) h h1 e1 h2 e2 hb
  have t0 := told_spec (H := hallD c d ss mv) (ts := []) h1 e1 h2 e2 hb (by decide +kernel) (by simp)
  have rc := fun (a6 a7 a8 a9 : D) => rooms_comp2 (S := S) (F := F) (k := k) (R := R) (V := .dat (vo ss.length)) (a6 := a6) (a7 := a7) (a8 := a8) (a9 := a9) (c := c) (d := d) (mv := mv) (ss := ss) (by have := h.l1; omega)
  have al := allR_spec (rs := ss.map (·.room)) (fun r hr => by
    obtain ⟨s, hs, rfl⟩ := List.mem_map.mp hr
    have := h.ok s hs
    exact ⟨this.r0, by have := this.r1; omega⟩) (by simp; have := h.l1; omega)
  have few := h.few
  have er : (ss.map (·.room)).map PyData.int = iPd (ss.map (·.room)) := rfl
  rw [er] at al
  have lA : ((allR (ss.map (·.room))).map lineD).length = (allR (ss.map (·.room))).length := by simp
  have lA2 : (allR (ss.map (·.room))).length ≤ 16777216 := by omega
  unfold th5 at tl
  generalize (allR (ss.map (·.room))).map lineD = AL at *
  generalize (allR (ss.map (·.room))).length = nA at *
  generalize iPd (ss.map (·.room)) = RM at *
  generalize hallD c d ss mv = H at *
  generalize vo ss.length = V at *
  simp only [dd, List.map_cons, List.map_nil] at tl
  by_cases q : (nA : Int) < 25 <;> simp [b_law_1, kFor, tl, rc, al, lA, lA2, q, t0, ne_due, -s_comp]
end
def tuT : PyData := .tuple [.str "turns"]
theorem eq_turns : cmpD .Eq (.str "turns") (.str "turns") = some true := by decide +kernel
theorem bodyE {b : Nat} {f : Tape} {S : D} {j : Int} (ok : TOk b f) (hb : b + 20000 < 2 ^ 60) :
    ∃ f', exSs GL b_law_2 [S, tpD f, .dat (.int j), .dead, .dead, .dead, .dead, .dead, .dead, .dead, .dead, .dead] = .nx [S, tpD f', .dead, .dead, .dead, .dead, .dead, .dead, .dead, .dead, .dead, .dead] ∧ TOk (b + 10000) f' := by
  obtain ⟨f1, c, d, ss, mv, e1, ok1, h⟩ := hall_spec ok (by omega) 400 (by decide) (by decide)
  have e1' : d_w_hall [tpD f, .dat (.int 400)] = .ret (.dat (hallD c d ss mv)) [tpD f1, .dead] := e1
  obtain ⟨f2, R, w0, e2, ok2, r0, rb⟩ := rule_spec (mv := mv) ok1 (by omega) h
  refine ⟨f2, ?_, ok2.mono (by omega)⟩
  have t0 : ixD tuT 0 = some (.str "turns") := rfl
  have p1 := pair_spec (S := S) (F := tpD f2) (k := .dat (.int j)) (R := .dat R) (mv := mv) h t0 eq_turns r0 rb (.inl rfl)
  have p2 := pair_spec (S := S) (F := tpD f2) (k := .dat (.int j)) (R := .dat R) (mv := mv) h r0 rb t0 eq_turns (.inr rfl)
  have p3 := pair_spec (S := S) (F := tpD f2) (k := .dat (.int j)) (R := .dat R) (mv := mv) h t0 eq_turns t0 eq_turns (.inl rfl)
  have i1 : ixD (hallD c d ss mv) 1 = some (.tuple (ss.map svD)) := rfl
  have n0 := h.l0
  have n4 := h.l1
  have lm : (ss.map svD).length = ss.length := by simp
  have zn : ss.length ≤ 16777216 := by omega
  have m1 : (ss.length : Int) ≤ 1000 := by omega
  have fl : (List.replicate ss.length [PyData.int 0]).flatten = List.replicate ss.length (.int 0) := by
    generalize ss.length = n
    induction n with
    | zero => rfl
    | succ n ih => rw [List.replicate_succ, List.flatten_cons, ih, List.replicate_succ]; rfl
  have lp : forL (.tp [6, 7]) (exSs GL b_law_1) [.dat (.tuple [tuT, R]), .dat (.tuple [R, tuT]), .dat (.tuple [tuT, tuT])] [S, tpD f2, .dat (.int j), .dat (hallD c d ss mv), .dat R, .dat (vo ss.length), .dead, .dead, .dead, .dead, .dead, .dead] = .nx [S, tpD f2, .dat (.int j), .dat (hallD c d ss mv), .dat R, .dat (vo ss.length), .dead, .dead, .dead, .dead, .dead, .dead] := by
    clear e1 e1' e2 r0 rb i1 fl
    generalize hallD c d ss mv = H at *
    generalize vo ss.length = V at *
    generalize tuT = Tn at *
    simp [forL, p1, p2, p3, SR.bind]
  clear p1 p2 p3 e1
  unfold vo tuT at *
  generalize svD = sv at *
  generalize hallD c d ss mv = H at *
  generalize List.replicate ss.length (PyData.int 0) = V at *
  simp [b_law_2, e1', e2, i1, lm, zn, fl, m1, kFor, lp]
theorem law_true : ∀ ns : List Int, ns.length ≤ 63 → ∃ outs, d_law [.dat (.list (ns.map .int))] = .ret (.dat (.bool true)) outs := by
  intro ns hn
  obtain ⟨f0, e0, ok0⟩ := tape_spec ns hn
  obtain ⟨f1, e1, ok1⟩ := forL_st (t := .nm 2) (b := exSs GL b_law_2) (fun (f : Tape) => [.dat (.list (ns.map .int)), tpD f, .dead, .dead, .dead, .dead, .dead, .dead, .dead, .dead, .dead, .dead]) (fun j f => TOk (10000 * j) f) (rngL 0 8) f0 ok0 (fun i x f hx ok => by
    obtain ⟨li, rfl⟩ := rngL_get hx
    obtain ⟨f', e, ok'⟩ := bodyE (S := .dat (.list (ns.map .int))) (j := 0 + (i : Int)) ok (by omega)
    exact ⟨_, f', by simp, e, ok'.mono (by omega)⟩)
  have rk : rngOk 8 = true := by decide +kernel
  exact ⟨[.dead], by simp [d_law, runF_eq, i_law, e0, rk, kFor, e1]⟩
end DE
end

section
set_option Elab.async false
set_option linter.all false
set_option maxRecDepth 100000
set_option maxHeartbeats 0
open PySem PySem.W PySem.Calls PyProof.Rows
theorem PySem.Challenge.cw_shorterline_k55_rules_by_turns_refused_holds : PySem.Challenge.rw_shorterline_k55_rules_by_turns_refused.Holds := by
  w_on; o_law
  refine HandSHeadRun.head_any (r := DE.RR) (q := view DE.RR.prog [65]) (H := DE.hk) (ob := DE.ob) (M := 9000) (loose := DE.loose) (d := HandSHeadRun.topDef DE.RR.prog 65) (kwd := []) DE.ob_eq (by kernel_rfl) (fun s => by kernel_rfl) DE.run (by kernel_rfl) (by kernel_rfl) (by kernel_rfl) (by rfl)
    (by first | assumption | decide +kernel) (by decide +kernel) ⟨rfl, rfl, rfl, rfl, rfl, by decide +kernel⟩ ?hw ?hc
  case hw => w_witness2
  case hc =>
    refine DE.walkG (ex := DE.tb.xc) (l := PySem.Challenge.rw_shorterline_k55_rules_by_turns_refused) (n := 63) (k := 6) (x := "_law_script") (F := DE.d_law) rfl (by decide) (by kernel_rfl) ⟨rfl, by decide, by decide⟩ ?F DE.law_true
    intro w mg fa h Y G hmg0
    obtain ⟨K, KX, c⟩ := Y
    have hmg : mg ("law" : PySem.Str) = some (.ref fa) := by
      have e : (HandSHeadRun.topDef DE.RR.prog 65).name = ("law" : PySem.Str) := by kernel_rfl
      rw [← e]
      exact hmg0
    obtain ⟨fd, hb, hF⟩ := DE.facts (w := w) KX G hmg c
    exact ⟨K, fd, KX, hb, hF⟩
end
