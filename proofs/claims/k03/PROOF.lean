import PyProof.Rows.All
import Wide.All
import OpenK.AllK
import Wide.FinOn
import HandS.ForMost
import HandS.ForExc
import HandS.Wide
import HandS.TupAny
import HandS.TupMul
import HandS.Deep
import HandS.Style
import HandS.TupLe
import KE.DatumIndex
import HandS.IsInst
import HandS.ExcOwn
import HandS.Comp
import HandS.Iter
import HandS.RevRange
import HandS.Conv
import HandS.Defaults
import HandS.Ends
import HandS.HeadEnd
import HandS.HeadHook2
import HandS.Head2
import PySem.Challenge.RW_shorterline_k03_lines_of_halls
section
set_option Elab.async false
set_option linter.all false
/-! DE0: values of the embedding, its terms, its runs. -/
namespace DE
open PySem

/-- a value: data that never change, a look at what another one owns, owned things, an exception, nothing (moved out) -/
inductive D where
  | dat (d : PyData)
  | bor (d : PyData)
  | tr (d : PyData)
  | lst (xs : List D)
  | dct (kvs : List (PyData × D))
  | ins (C : Str) (fs : List (Str × D))
  | exc (C : Str) (fs : List (Str × PyData))
  | dead
deriving Inhabited

namespace D
mutual
/-- what may be read of it now -/
def view : D → Option PyData
  | .dat d => some d
  | .bor d => some d
  | .tr d => some d
  | .lst xs => (viewL xs).map .list
  | .dct kvs => (viewK kvs).map .dict
  | .ins _ _ => none
  | .exc _ _ => none
  | .dead => none
def viewL : List D → Option (List PyData)
  | [] => some []
  | x :: r => match view x, viewL r with
    | some a, some b => some (a :: b)
    | _, _ => none
def viewK : List (PyData × D) → Option (List (PyData × PyData))
  | [] => some []
  | (k, x) :: r => match view x, viewK r with
    | some a, some b => some ((k, a) :: b)
    | _, _ => none
end
mutual
/-- .. and kept for ever, nothing of it owned from now on -/
def fz : D → Option PyData
  | .dat d => some d
  | .bor _ => none
  | .tr _ => none
  | .lst xs => (fzL xs).map .list
  | .dct kvs => (fzK kvs).map .dict
  | .ins _ _ => none
  | .exc _ _ => none
  | .dead => none
def fzL : List D → Option (List PyData)
  | [] => some []
  | x :: r => match fz x, fzL r with
    | some a, some b => some (a :: b)
    | _, _ => none
def fzK : List (PyData × D) → Option (List (PyData × PyData))
  | [] => some []
  | (k, x) :: r => match fz x, fzK r with
    | some a, some b => some ((k, a) :: b)
    | _, _ => none
end
mutual
/-- no passing look within -/
def ntr : D → Bool
  | .tr _ => false
  | .lst xs => ntrL xs
  | .dct kvs => ntrK kvs
  | .ins _ fs => ntrF fs
  | _ => true
def ntrL : List D → Bool
  | [] => true
  | x :: r => ntr x && ntrL r
def ntrK : List (PyData × D) → Bool
  | [] => true
  | (_, x) :: r => ntr x && ntrK r
def ntrF : List (Str × D) → Bool
  | [] => true
  | (_, x) :: r => ntr x && ntrF r
end
mutual
/-- what may be stored, told: nothing borrowed, nothing moved out within -/
def own : D → Bool
  | .dat _ => true
  | .lst xs => ownL xs
  | .dct kvs => ownK kvs
  | .ins _ fs => ownF fs
  | .exc _ _ => true
  | _ => false
def ownL : List D → Bool
  | [] => true
  | x :: r => own x && ownL r
def ownK : List (PyData × D) → Bool
  | [] => true
  | (_, x) :: r => own x && ownK r
def ownF : List (Str × D) → Bool
  | [] => true
  | (_, x) :: r => own x && ownF r
end
/-- items that are data -/
def dats : List D → Option (List PyData)
  | [] => some []
  | .dat d :: r => (dats r).map (d :: ·)
  | _ :: _ => none
end D

abbrev Env := List D

/-- how a run of a part ends -/
inductive R (α : Type) where
  | ok (a : α) (ρ : Env)
  | ex (x : D) (ρ : Env)
  | no
deriving Inhabited

/-- how a def's run ends: what is told, and the parameters' values behind it -/
inductive FR where
  | ret (d : D) (outs : Env)
  | ex (x : D) (outs : Env)
  | no
deriving Inhabited
abbrev Fn := List D → FR

inductive Bi where
  | len | sum | max | min | abs | int | str | all | any | list | tuple | sorted | sortedRev | repr
deriving DecidableEq, Inhabited
inductive Mt where
  | index | count | split | join | partition
deriving DecidableEq, Inhabited
inductive Pm where
  | append | extend | pop | popAt | insert
deriving DecidableEq, Inhabited

inductive T where
  | nm (i : Nat)
  | tp (is : List Nat)
deriving Inhabited

mutual
inductive E where
  | var (i : Nat)
  | mv (i : Nat)
  | cst (d : PyData)
  | glo (x : Str) (d : PyData)
  | rd (p : P)
  | bp (p : P)
  | neg (a : E)
  | not (a : E)
  | bin (o : Operator) (a b : E)
  | cmp (o : CmpOp) (a b : E)
  | chn (o o' : CmpOp) (a b c : E)
  | and (a b : E)
  | or (a b : E)
  | ife (c a b : E)
  | tup (es : Es)
  | lst (es : Es)
  | ix (a i : E)
  | sl (a : E) (lo hi : O)
  | rev (a : E)
  | bi (b : Bi) (es : Es)
  | isi (a : E) (ts : List String) (one : Bool)
  | mt (m : Mt) (a : E) (es : Es)
  | pm (m : Pm) (p : P) (es : Es)
  | call (n : Nat) (f : Str) (pu : Bool) (as : As)
  | comp (elt : E) (t : T) (it : I) (c : O) (own : List Nat)
  | frz (a : E)
  | lrg (a : E)
  | trg (a : E)
inductive Es where
  | nil
  | cons (e : E) (r : Es)
inductive O where
  | none
  | some (e : E)
inductive As where
  | nil
  | val (e : E) (r : As)
  | ref (p : P) (r : As)
  | look (p : P) (r : As)
inductive P where
  | root (i : Nat)
  | idx (p : P) (e : E)
inductive I where
  | val (e : E)
  | ref (p : P)
  | rng1 (a : E)
  | rng2 (a b : E)
  | rrng1 (a : E)
  | zip (a b : E)
  | enum (a : E)
  | revd (a : E)
end

inductive Tg where
  | nm (i : Nat)
  | sub (p : P) (e : E)

mutual
inductive S where
  | asg (t : T) (e : E)
  | set (p : P) (i : E) (e : E)
  | set2 (p1 : P) (i1 : E) (p2 : P) (i2 : E) (e : E)
  | par (is : List Nat) (es : Es)
  | ex (e : E)
  | ret (e : E)
  | retN
  | ifs (c : E) (a b : Ss)
  | fors (t : T) (it : I) (body : Ss)
  | whl (c : E) (body : Ss)
  | freeze (i : Nat)
inductive Ss where
  | nil
  | cons (s : S) (r : Ss)
end
end DE
end

section
set_option Elab.async false
set_option linter.all false
/-! DE1: the runs. -/
namespace DE
open PySem

def fits (n : Nat) : Bool := decide (n ≤ 16777216)
def cutL {α : Type} (xs : List α) (lo hi : Option Int) : List α :=
  (xs.drop (HT.sIx xs.length 0 lo)).take (HT.sIx xs.length xs.length hi - HT.sIx xs.length 0 lo)
abbrev dl (xs : List PyData) : D := .lst (xs.map .dat)
def mulOk (i j : Int) : Bool := decide (i.natAbs.log2 + j.natAbs.log2 < 1000000)
def divOk (j : Int) : Bool := decide (j ≠ 0) && decide (j.natAbs.log2 < 9000)

/-- two-place operators on data -/
def binD : Operator → PyData → PyData → Option D
  | .Add, .int i, .int j => some (.dat (.int (i + j)))
  | .Add, .str x, .str y => if fits (x.length + y.length) then some (.dat (.str (x ++ y))) else none
  | .Add, .tuple xs, .tuple ys => if fits (xs.length + ys.length) then some (.dat (.tuple (xs ++ ys))) else none
  | .Add, .list xs, .list ys => if fits (xs.length + ys.length) then some (dl (xs ++ ys)) else none
  | .Sub, .int i, .int j => some (.dat (.int (i - j)))
  | .Mult, .int i, .int j => if mulOk i j then some (.dat (.int (i * j))) else none
  | .Mult, .list xs, .int k => if decide (-(2 ^ 63) ≤ k) && decide (k < 2 ^ 63) && fits (xs.length * k.toNat) then some (dl (List.replicate k.toNat xs).flatten) else none
  | .FloorDiv, .int i, .int j => if divOk j then some (.dat (.int (i.fdiv j))) else none
  | .Mod, .int i, .int j => if decide (j ≠ 0) then some (.dat (.int (i.fmod j))) else none
  | .Pow, .int i, .int j => if decide (0 ≤ j) && decide (j ≤ 1000000) && decide (i.natAbs < 2 ^ 64) then some (.dat (.int (i ^ j.toNat))) else none
  | _, _, _ => none

def inD (x : PyData) (ys : List PyData) : Option Bool :=
  if SeqAt.shaped x && SeqAt.shaped (.list ys) then some (ys.any fun z => PyData.eqv z x) else none
/-- comparisons of data -/
def cmpD : CmpOp → PyData → PyData → Option Bool
  | .Eq, x, y => if SeqAt.shaped x && SeqAt.shaped y then some (PyData.eqv x y) else none
  | .NotEq, x, y => if SeqAt.shaped x && SeqAt.shaped y then some (!PyData.eqv x y) else none
  | .Lt, .int i, .int j => some (decide (i < j))
  | .LtE, .int i, .int j => some (decide (i ≤ j))
  | .Gt, .int i, .int j => some (decide (j < i))
  | .GtE, .int i, .int j => some (decide (j ≤ i))
  | .In, x, .list ys => inD x ys
  | .NotIn, x, .list ys => (inD x ys).map (!·)
  | .Is, .bool a, .bool b => some (decide (a = b))
  | .IsNot, .bool a, .bool b => some (!decide (a = b))
  | _, _, _ => none
def isNone : D → Bool
  | .dat .none => true
  | .bor .none => true
  | .tr .none => true
  | _ => false
/-- .. of values -/
def cmpV (o : CmpOp) (x y : D) : Option Bool :=
  match o, y with
  | .Is, .dat .none => (match x with | .dead => none | _ => some (isNone x))
  | .IsNot, .dat .none => (match x with | .dead => none | _ => some (!isNone x))
  | _, _ => match x.view, y.view with
    | some a, some b => cmpD o a b
    | _, _ => none

def ixD : PyData → Int → Option PyData
  | .list xs, i => L2.atI xs i
  | .tuple xs, i => L2.atI xs i
  | .str z, i => if fits z.length then (L2.atI z.cps.toList i).map (fun c => .str ⟨#[c]⟩) else none
  | _, _ => none
def ixV (x : D) (i : PyData) : Option D :=
  match i with
  | .int i => (match x with
    | .dat d => (ixD d i).map .dat
    | .bor d => (ixD d i).map .bor
    | .tr d => (ixD d i).map .tr
    | .lst xs => L2.atI xs i
    | _ => none)
  | _ => none
def slV (x : D) (lo hi : Option Int) : Option D :=
  match x.fz with
  | some (.list xs) => some (dl (cutL xs lo hi))
  | some (.tuple xs) => some (.dat (.tuple (cutL xs lo hi)))
  | _ => none
def intsL : List PyData → Option (List Int)
  | [] => some []
  | .int i :: r => (intsL r).map (i :: ·)
  | _ :: _ => none
def boolsL : List PyData → Option (List Bool)
  | [] => some []
  | .bool i :: r => (boolsL r).map (i :: ·)
  | _ :: _ => none
def maxL : List Int → Option Int
  | [] => none
  | [a] => some a
  | a :: r => (maxL r).map fun b => if a < b then b else a
def minL : List Int → Option Int
  | [] => none
  | [a] => some a
  | a :: r => (minL r).map fun b => if b < a then b else a
def views : List D → Option (List PyData) := D.viewL

/-- built-in functions that read data -/
def lenD : List PyData → Option PyData
  | [.list xs] => some (.int xs.length)
  | [.tuple xs] => some (.int xs.length)
  | [.str z] => if fits z.length then some (.int z.length) else none
  | _ => none
def sumD : List PyData → Option PyData
  | [.list xs] => (intsL xs).map fun ns => .int ns.sum
  | _ => none
def maxD : List PyData → Option PyData
  | [.list xs] => (intsL xs).bind fun ns => (maxL ns).map .int
  | [.int i, .int j] => some (.int (if j > i then j else i))
  | _ => none
def minD : List PyData → Option PyData
  | [.list xs] => (intsL xs).bind fun ns => (minL ns).map .int
  | [.int i, .int j] => some (.int (if j < i then j else i))
  | _ => none
def absD : List PyData → Option PyData
  | [.int i] => some (.int (if i < 0 then -i else i))
  | _ => none
def intD : List PyData → Option PyData
  | [.int i] => some (.int i)
  | [.bool k] => some (.int (if k then 1 else 0))
  | _ => none
def strD : List PyData → Option PyData
  | [.int i] => if decide (i.natAbs.log2 < 1920) then some (.str (toString i)) else none
  | _ => none
def allD : List PyData → Option PyData
  | [.list xs] => (boolsL xs).map fun bs => .bool (bs.all id)
  | _ => none
def anyD : List PyData → Option PyData
  | [.list xs] => (boolsL xs).map fun bs => .bool (bs.any id)
  | _ => none
def reprD : List PyData → Option PyData
  | [d] => if PyData.showable d && !d.hasDict && decide (d.depth ≤ 64) && fits d.shown.length then some (.str d.shown) else none
  | _ => none
def biD (b : Bi) (ps : List PyData) : Option PyData :=
  match b with
  | .len => lenD ps
  | .sum => sumD ps
  | .max => maxD ps
  | .min => minD ps
  | .abs => absD ps
  | .int => intD ps
  | .str => strD ps
  | .all => allD ps
  | .any => anyD ps
  | .repr => reprD ps
  | _ => none
/-- .. that make new things of them -/
def listD : List PyData → Option D
  | [.list xs] => some (dl xs)
  | [.tuple xs] => some (dl xs)
  | _ => none
def tupleD : List PyData → Option D
  | [.list xs] => some (.dat (.tuple xs))
  | [.tuple xs] => some (.dat (.tuple xs))
  | _ => none
def biF (b : Bi) (ps : List PyData) : Option D :=
  match b with
  | .list => listD ps
  | .tuple => tupleD ps
  | _ => none
def Bi.makes : Bi → Bool
  | .list | .tuple | .sorted | .sortedRev => true
  | _ => false
def biV (b : Bi) (xs : List D) : Option D :=
  if b.makes then (D.fzL xs).bind (biF b) else (D.viewL xs).bind fun ps => (biD b ps).map .dat

def isiD (d : PyData) (t : String) : Bool :=
  match d, t with
  | .bool _, "bool" => true
  | .bool _, "int" => true
  | .int _, "int" => true
  | .str _, "str" => true
  | .list _, "list" => true
  | .tuple _, "tuple" => true
  | _, _ => false
def isiV (x : D) (ts : List String) : Option Bool := x.view.map fun d => ts.any (isiD d)

/-- methods of data -/
def mtD : Mt → PyData → List PyData → Option D
  | .index, .list xs, [y] =>
    if SeqAt.shaped (.list xs) && SeqAt.shaped y then (xs.findIdx? fun z => PyData.eqv z y).map fun j => .dat (.int (j : Int)) else none
  | _, _, _ => none
/-- methods that change a list that is owned: the list behind, what is told -/
def pmD : Pm → List D → List D → Option (List D × D)
  | .append, xs, [y] => if decide (xs.length < 16777216) then (if y.own then some (xs ++ [y], .dat .none) else none) else none
  | .extend, xs, [.lst ys] => if fits (xs.length + ys.length) && D.ownL ys then some (xs ++ ys, .dat .none) else none
  | .pop, xs, [] => (xs[xs.length - 1]?).map fun y => (xs.dropLast, y)
  | .popAt, xs, [.dat (.int i)] =>
    if decide (-(2 ^ 63) ≤ i) && decide (i < 2 ^ 63) then (L2.ixN xs.length i).bind fun k => (xs[k]?).map fun y => (xs.eraseIdx k, y) else none
  | _, _, _ => none

/-- places within what is owned -/
abbrev Sel := Int
def getS : D → List Sel → Option D
  | d, [] => some d
  | .lst xs, i :: r => match L2.atI xs i with
    | some x => getS x r
    | none => none
  | _, _ :: _ => none
def putS : D → List Sel → D → Option D
  | _, [], y => some y
  | .lst xs, i :: r, y => match L2.ixN xs.length i, L2.atI xs i with
    | some j, some x => (putS x r y).map fun z => .lst (xs.set j z)
    | _, _ => none
  | _, _ :: _, _ => none
def slot (ρ : Env) (i : Nat) : D := ρ.getD i .dead
def isLive : Option D → Bool
  | some .dead => false
  | some _ => true
  | none => false
def isLst : Option D → Bool
  | some (.lst _) => true
  | _ => false

mutual
/-- nothing of the env is changed -/
def E.pure : E → Bool
  | .var _ | .cst _ | .glo _ _ => true
  | .mv _ => false
  | .rd p | .bp p => p.pure
  | .neg a | .not a | .rev a | .frz a | .lrg a | .trg a => a.pure
  | .bin _ a b | .cmp _ a b | .and a b | .or a b | .ix a b => a.pure && b.pure
  | .chn _ _ a b c | .ife a b c => a.pure && b.pure && c.pure
  | .tup es | .lst es | .bi _ es => es.pure
  | .isi a _ _ => a.pure
  | .sl a lo hi => a.pure && lo.pure && hi.pure
  | .mt _ a es => a.pure && es.pure
  | .pm _ _ _ => false
  | .call _ _ pu as => pu && as.pure
  | .comp _ _ _ _ _ => false
def Es.pure : Es → Bool
  | .nil => true
  | .cons e r => e.pure && r.pure
def O.pure : O → Bool
  | .none => true
  | .some e => e.pure
def As.pure : As → Bool
  | .nil => true
  | .val e r => e.pure && r.pure
  | .ref _ _ => false
  | .look p r => p.pure && r.pure
def P.pure : P → Bool
  | .root _ => true
  | .idx p e => p.pure && e.pure
end

/-- how a statement ends -/
inductive SR where
  | nx (ρ : Env)
  | rt (d : D) (ρ : Env)
  | ex (x : D) (ρ : Env)
  | no
deriving Inhabited

def R.bind {α β : Type} (r : R α) (f : α → Env → R β) : R β :=
  match r with
  | .ok a ρ => f a ρ
  | .ex x ρ => .ex x ρ
  | .no => .no
/-- no exception leaves a comprehension's block -/
def R.nox {α : Type} : R α → R α
  | .ok a ρ => .ok a ρ
  | _ => .no
def R.sbind {α : Type} (r : R α) (f : α → Env → SR) : SR :=
  match r with
  | .ok a ρ => f a ρ
  | .ex x ρ => .ex x ρ
  | .no => .no
def SR.bind (r : SR) (f : Env → SR) : SR :=
  match r with
  | .nx ρ => f ρ
  | r => r
/-- two parts, one behind the other: the first one's value is kept by the second -/
def R.two {α β γ : Type} (r : R α) (st : α → Bool) (s : Env → R β) (k : α → β → Env → R γ) : R γ :=
  r.bind fun x ρ1 => if st x then (s ρ1).bind fun y ρ2 => k x y ρ2 else .no
def R.of {α : Type} (o : Option α) (ρ : Env) : R α :=
  match o with
  | some a => .ok a ρ
  | none => .no

/-- a while loop by turns; none: not at its end -/
def whileN (c : Env → R D) (b : Env → SR) : Nat → Env → Option SR
  | 0, _ => none
  | n + 1, ρ => match c ρ with
    | .ok (.dat (.bool true)) ρ1 => (match b ρ1 with
      | .nx ρ2 => whileN c b n ρ2
      | r => some r)
    | .ok (.dat (.bool false)) ρ1 => some (.nx ρ1)
    | .ex x ρ1 => some (.ex x ρ1)
    | _ => some .no
open Classical in
noncomputable def whileU (c : Env → R D) (b : Env → SR) (ρ : Env) : SR :=
  if h : ∃ n r, whileN c b n ρ = some r then Classical.choose (Classical.choose_spec h) else .no

/-- a borrowed item: a plain one is not borrowed -/
def borD : PyData → D
  | .none => .dat .none
  | .bool b => .dat (.bool b)
  | .int i => .dat (.int i)
  | .str x => .dat (.str x)
  | d => .bor d
/-- stores to names -/
def storeT : T → D → Env → Option Env
  | .nm i, d, ρ => if i < ρ.length then (if d.ntr then some (ρ.set i d) else none) else none
  | .tp is, d, ρ => match d with
    | .dat (.tuple xs) => storeL is (xs.map .dat) ρ
    | .bor (.tuple xs) => storeL is (xs.map borD) ρ
    | _ => none
where storeL : List Nat → List D → Env → Option Env
  | [], [], ρ => some ρ
  | i :: is, d :: ds, ρ => if i < ρ.length then storeL is ds (ρ.set i d) else none
  | _, _, _ => none

/-- a for loop over items -/
def forL (t : T) (b : Env → SR) : List D → Env → SR
  | [], ρ => .nx ρ
  | x :: r, ρ => match storeT t x ρ with
    | some ρ1 => (b ρ1).bind (forL t b r)
    | none => .no
def wipeE (ρ : Env) : List Nat → Env
  | [] => ρ
  | v :: vs => (wipeE ρ vs).set v .dead
def backE (ρ0 ρ : Env) : List Nat → Env
  | [] => ρ
  | v :: vs => (backE ρ0 ρ vs).set v (slot ρ0 v)
/-- a comprehension over items: the new list's -/
def compL (own : List Nat) (t : T) (c : Env → R D) (e : Env → R D) : List D → Env → R (List PyData)
  | [], ρ => .ok [] ρ
  | x :: r, ρ => match storeT t x (wipeE ρ own) with
    | none => .no
    | some ρ1 => (c ρ1).nox.bind fun k ρ2 => match k with
      | .dat (.bool true) => (e ρ2).nox.bind fun y ρ3 => match y.fz with
        | some d => (compL own t c e r ρ3).bind fun ds ρ4 => .ok (d :: ds) ρ4
        | none => .no
      | .dat (.bool false) => compL own t c e r ρ2
      | _ => .no

/-- data as items -/
def itemsD : PyData → Option (List PyData)
  | .list xs => some xs
  | .tuple xs => some xs
  | _ => none
def itemsV : D → Option (List D)
  | .dat d => (itemsD d).map (·.map .dat)
  | .bor d => (itemsD d).map (·.map borD)
  | .lst xs => (D.dats xs).map fun _ => xs
  | _ => none
def rngL (lo : Int) (n : Nat) : List D := (List.range n).map fun (k : Nat) => .dat (.int (lo + (k : Int)))
def rngOk (i : Int) : Bool := decide (-(2 ^ 62) ≤ i) && decide (i < 2 ^ 62)

def rrngL (n : Nat) : List D := (List.range n).map fun (k : Nat) => .dat (.int ((n : Int) - 1 - (k : Int)))
def unlock : Option (Nat × D) → Env → Option Env
  | none, ρ => some ρ
  | some (i, d), ρ => match slot ρ i with
    | .dead => some (ρ.set i d)
    | _ => none
/-- what stands in the env beside a call's arguments: the slot's value, the place -/
structure Back where
  i : Nat
  d : D
  sel : List Sel

def putBack : List (Option Back) → Env → Env → Option Env
  | [], [], ρ => some ρ
  | none :: r, _ :: os, ρ => putBack r os ρ
  | some b :: r, o :: os, ρ => if o.own then (match putS b.d b.sel o with
    | some d => if b.i < ρ.length then putBack r os (ρ.set b.i d) else none
    | none => none) else none
  | _, _, _ => none
/-- an argument that was looked at: a value, or a place -/
inductive Ar where
  | val (d : D)
  | ref (i : Nat) (sel : List Sel)
  | look (i : Nat) (sel : List Sel)
/-- the arguments are taken out of the env -/
def takeAs : List Ar → Env → Option (List D × List (Option Back) × Env)
  | [], ρ => some ([], [], ρ)
  | .val d :: r, ρ => match takeAs r ρ with
    | some (ds, bs, ρ') => some (d :: ds, none :: bs, ρ')
    | none => none
  | .look i sel :: r, ρ => match takeAs r ρ with
    | some (ds, bs, ρ') => (match getS (slot ρ' i) sel with
      | some x => (match x.view with
        | some d => some (borD d :: ds, none :: bs, ρ')
        | none => none)
      | none => none)
    | none => none
  | .ref i sel :: r, ρ => match getS (slot ρ i) sel with
    | some .dead => none
    | some x => (match takeAs r (ρ.set i .dead) with
      | some (ds, bs, ρ') => some (x :: ds, some ⟨i, slot ρ i, sel⟩ :: bs, ρ')
      | none => none)
    | none => none
def D.flat : D → Bool
  | .dat _ => true
  | .bor _ => true
  | _ => false
def callF (F : Fn) (pu : Bool) (as : List Ar) (ρ : Env) : R D :=
  match takeAs as ρ with
  | none => .no
  | some (ds, bs, ρ1) => if pu && !ds.all D.flat then .no else match F ds with
    | .ret d outs => (match putBack bs outs ρ1 with
      | some ρ2 => .ok d ρ2
      | none => .no)
    | .ex x outs => (match putBack bs outs ρ1 with
      | some ρ2 => .ex x ρ2
      | none => .no)
    | .no => .no
def fnAt (G : List Fn) (n : Nat) : Fn := G.getD n fun _ => .no

mutual
noncomputable def evE (G : List Fn) : E → Env → R D
  | .var i, ρ => (match slot ρ i with
    | .dat d => .ok (.dat d) ρ
    | .bor d => .ok (.bor d) ρ
    | _ => .no)
  | .mv i, ρ => (match slot ρ i with
    | .dead => .no
    | d => .ok d (ρ.set i .dead))
  | .cst d, ρ => .ok (.dat d) ρ
  | .glo _ d, ρ => .ok (.dat d) ρ
  | .rd p, ρ => (evP G p ρ).bind fun q ρ1 => (match getS (slot ρ1 q.1) q.2 with
    | some (.dat d) => .ok (.dat d) ρ1
    | _ => .no)
  | .bp p, ρ => (evP G p ρ).bind fun q ρ1 => (match getS (slot ρ1 q.1) q.2 with
    | some x => R.of (x.view.map .tr) ρ1
    | none => .no)
  | .neg a, ρ => (evE G a ρ).bind fun x ρ1 => (match x with
    | .dat (.int i) => .ok (.dat (.int (-i))) ρ1
    | _ => .no)
  | .not a, ρ => (evE G a ρ).bind fun x ρ1 => (match x with
    | .dat (.bool k) => .ok (.dat (.bool (!k))) ρ1
    | _ => .no)
  | .bin o a b, ρ => R.two (evE G a ρ) (fun x => x.ntr || b.pure) (fun ρ1 => evE G b ρ1) fun x y ρ2 => (match x.fz, y.fz with
    | some x, some y => R.of (binD o x y) ρ2
    | _, _ => .no)
  | .cmp o a b, ρ => R.two (evE G a ρ) (fun x => x.ntr || b.pure) (fun ρ1 => evE G b ρ1) fun x y ρ2 => R.of ((cmpV o x y).map fun k => .dat (.bool k)) ρ2
  | .chn o o' a b c, ρ => (evE G a ρ).bind fun x ρ1 => (evE G b ρ1).bind fun y ρ2 => (match x, y with
    | .dat x, .dat y => (match cmpD o x y with
      | some true => (evE G c ρ2).bind fun z ρ3 => (match z with
        | .dat z => R.of ((cmpD o' y z).map fun k => .dat (.bool k)) ρ3
        | _ => .no)
      | some false => .ok (.dat (.bool false)) ρ2
      | none => .no)
    | _, _ => .no)
  | .and a b, ρ => (evE G a ρ).bind fun x ρ1 => (match x with
    | .dat (.bool true) => evE G b ρ1
    | .dat (.bool false) => .ok (.dat (.bool false)) ρ1
    | _ => .no)
  | .or a b, ρ => (evE G a ρ).bind fun x ρ1 => (match x with
    | .dat (.bool true) => .ok (.dat (.bool true)) ρ1
    | .dat (.bool false) => evE G b ρ1
    | _ => .no)
  | .ife c a b, ρ => (evE G c ρ).bind fun x ρ1 => (match x with
    | .dat (.bool true) => evE G a ρ1
    | .dat (.bool false) => evE G b ρ1
    | _ => .no)
  | .tup es, ρ => (evEs G es ρ).bind fun xs ρ1 => (match D.fzL xs with
    | some ds => if fits ds.length then .ok (.dat (.tuple ds)) ρ1 else .no
    | none => .no)
  | .lst es, ρ => (evEs G es ρ).bind fun xs ρ1 => if fits xs.length then .ok (.lst xs) ρ1 else .no
  | .ix a i, ρ => R.two (evE G a ρ) (fun x => x.ntr || i.pure) (fun ρ1 => evE G i ρ1) fun x y ρ2 => (match y with
    | .dat y => R.of (ixV x y) ρ2
    | _ => .no)
  | .sl a lo hi, ρ => (evE G a ρ).bind fun x ρ1 => (evO G lo ρ1).bind fun l ρ2 => (evO G hi ρ2).bind fun h ρ3 => R.of (slV x l h) ρ3
  | .rev a, ρ => (evE G a ρ).bind fun x ρ1 => (match x with
    | .dat (.tuple xs) => .ok (.dat (.tuple xs.reverse)) ρ1
    | _ => .no)
  | .bi b es, ρ => (evEs G es ρ).bind fun xs ρ1 => R.of (biV b xs) ρ1
  | .isi a ts _, ρ => (evE G a ρ).bind fun x ρ1 => R.of ((isiV x ts).map fun k => .dat (.bool k)) ρ1
  | .mt m a es, ρ => R.two (evE G a ρ) (fun x => x.ntr || es.pure) (fun ρ1 => evEs G es ρ1) fun x ys ρ2 => (match x.view, D.viewL ys with
    | some x, some ys => R.of (mtD m x ys) ρ2
    | _, _ => .no)
  | .pm m p es, ρ => (evP G p ρ).bind fun q ρ1 => if isLst (getS (slot ρ1 q.1) q.2) && (q.2.isEmpty || es.pure) then (evEs G es ρ1).bind fun ys ρ2 => (match getS (slot ρ2 q.1) q.2 with
    | some (.lst xs) => (match pmD m xs ys with
      | some (xs', y) => (match putS (slot ρ2 q.1) q.2 (.lst xs') with
        | some d => .ok y (ρ2.set q.1 d)
        | none => .no)
      | none => .no)
    | _ => .no) else .no
  | .call n _ pu as, ρ => (evAs G as ρ).bind fun xs ρ1 => callF (fnAt G n) (pu && as.pure) xs ρ1
  | .comp elt t it c own, ρ => (evI G it ρ).bind fun w ρ1 => (compL own t (fun r => evC G c r) (fun r => evE G elt r) w.1 ρ1).bind fun ds ρ2 =>
      if fits ds.length then (match unlock w.2 (backE ρ1 ρ2 own) with
        | some ρ3 => .ok (dl ds) ρ3
        | none => .no) else .no
  | .lrg a, ρ => (evE G a ρ).bind fun x ρ1 => (match x with
    | .dat (.int j) => if rngOk j && fits j.toNat then .ok (.lst (rngL 0 j.toNat)) ρ1 else .no
    | _ => .no)
  | .trg a, ρ => (evE G a ρ).bind fun x ρ1 => (match x with
    | .dat (.int j) => if rngOk j && fits j.toNat then .ok (.dat (.tuple ((List.range j.toNat).map fun (k : Nat) => .int (k : Int)))) ρ1 else .no
    | _ => .no)
  | .frz a, ρ => (evE G a ρ).bind fun x ρ1 => R.of (x.fz.map .dat) ρ1
noncomputable def evEs (G : List Fn) : Es → Env → R (List D)
  | .nil, ρ => .ok [] ρ
  | .cons e r, ρ => R.two (evE G e ρ) (fun x => x.ntr || r.pure) (fun ρ1 => evEs G r ρ1) fun x xs ρ2 => .ok (x :: xs) ρ2
noncomputable def evO (G : List Fn) : O → Env → R (Option Int)
  | .none, ρ => .ok none ρ
  | .some e, ρ => (evE G e ρ).bind fun x ρ1 => (match x with
    | .dat (.int i) => .ok (some i) ρ1
    | _ => .no)
noncomputable def evC (G : List Fn) : O → Env → R D
  | .none, ρ => .ok (.dat (.bool true)) ρ
  | .some e, ρ => evE G e ρ
noncomputable def evAs (G : List Fn) : As → Env → R (List Ar)
  | .nil, ρ => .ok [] ρ
  | .val e r, ρ => (evE G e ρ).bind fun x ρ1 => if x.ntr then (evAs G r ρ1).bind fun xs ρ2 => .ok (.val x :: xs) ρ2 else .no
  | .ref p r, ρ => (evP G p ρ).bind fun q ρ1 => if q.2.isEmpty || r.pure then (evAs G r ρ1).bind fun xs ρ2 => .ok (.ref q.1 q.2 :: xs) ρ2 else .no
  | .look p r, ρ => (evP G p ρ).bind fun q ρ1 => if q.2.isEmpty || r.pure then (evAs G r ρ1).bind fun xs ρ2 => .ok (.look q.1 q.2 :: xs) ρ2 else .no
noncomputable def evP (G : List Fn) : P → Env → R (Nat × List Sel)
  | .root i, ρ => (match slot ρ i with
    | .dead => .no
    | _ => .ok (i, []) ρ)
  | .idx p e, ρ => (evP G p ρ).bind fun q ρ1 => if e.pure then (evE G e ρ1).bind fun x ρ2 => (match x with
    | .dat (.int k) => if isLive (getS (slot ρ2 q.1) (q.2 ++ [k])) then .ok (q.1, q.2 ++ [k]) ρ2 else .no
    | _ => .no) else .no
/-- what is walked: its items, and the slot that is shut meanwhile -/
noncomputable def evI (G : List Fn) : I → Env → R (List D × Option (Nat × D))
  | .val e, ρ => (evE G e ρ).bind fun x ρ1 => (match itemsV x with
    | some xs => .ok (xs, none) ρ1
    | none => .no)
  | .ref p, ρ => (evP G p ρ).bind fun q ρ1 => (match getS (slot ρ1 q.1) q.2 with
    | some (.lst xs) => (match D.dats xs with
      | some _ => .ok (xs, some (q.1, slot ρ1 q.1)) (ρ1.set q.1 .dead)
      | none => .no)
    | _ => .no)
  | .rng1 a, ρ => (evE G a ρ).bind fun x ρ1 => (match x with
    | .dat (.int j) => if rngOk j then .ok (rngL 0 j.toNat, none) ρ1 else .no
    | _ => .no)
  | .rng2 a b, ρ => (evE G a ρ).bind fun x ρ1 => (evE G b ρ1).bind fun y ρ2 => (match x, y with
    | .dat (.int i), .dat (.int j) => if rngOk i && rngOk j then .ok (rngL i (j - i).toNat, none) ρ2 else .no
    | _, _ => .no)
  | .rrng1 a, ρ => (evE G a ρ).bind fun x ρ1 => (match x with
    | .dat (.int j) => if rngOk j then .ok (rrngL j.toNat, none) ρ1 else .no
    | _ => .no)
  | .zip _ _, _ => .no
  | .enum _, _ => .no
  | .revd _, _ => .no
end

def SR.unlock (w : Option (Nat × D)) : SR → SR
  | .nx ρ => (match DE.unlock w ρ with | some ρ' => .nx ρ' | none => .no)
  | .rt d ρ => (match DE.unlock w ρ with | some ρ' => .rt d ρ' | none => .no)
  | .ex x ρ => (match DE.unlock w ρ with | some ρ' => .ex x ρ' | none => .no)
  | .no => .no

def T.slots : T → List Nat
  | .nm i => [i]
  | .tp is => is
mutual
/-- the slots that a statement may store to -/
def S.asgs : S → List Nat
  | .asg t _ => t.slots
  | .par is _ => is
  | .freeze i => []
  | .ifs _ a b => a.asgs ++ b.asgs
  | .fors t _ b => t.slots ++ b.asgs
  | .whl _ b => b.asgs
  | _ => []
def Ss.asgs : Ss → List Nat
  | .nil => []
  | .cons s r => s.asgs ++ r.asgs
end
mutual
noncomputable def exS (G : List Fn) : S → Env → SR
  | .asg t e, ρ => (evE G e ρ).sbind fun x ρ1 => if x.own then (match storeT t x ρ1 with
    | some ρ2 => .nx ρ2
    | none => .no) else .no
  | .set p i e, ρ => (evE G e ρ).sbind fun x ρ1 => (evP G p ρ1).sbind fun q ρ2 => if i.pure && x.own then (evE G i ρ2).sbind fun y ρ3 =>
      (match getS (slot ρ3 q.1) q.2, y with
      | some (.lst xs), .dat (.int k) => (match L2.ixN xs.length k with
        | some j => (match putS (slot ρ3 q.1) q.2 (.lst (xs.set j x)) with
          | some d => .nx (ρ3.set q.1 d)
          | none => .no)
        | none => .no)
      | _, _ => .no) else .no
  | .set2 _ _ _ _ _, _ => .no
  | .par is es, ρ => (evEs G es ρ).sbind fun xs ρ1 => if D.ownL xs then (match storeT.storeL is xs ρ1 with
    | some ρ2 => .nx ρ2
    | none => .no) else .no
  | .ex e, ρ => (evE G e ρ).sbind fun _ ρ1 => .nx ρ1
  | .ret e, ρ => (evE G e ρ).sbind fun x ρ1 => if x.own then .rt x ρ1 else .no
  | .retN, ρ => .rt (.dat .none) ρ
  | .ifs c a b, ρ => (evE G c ρ).sbind fun x ρ1 => (match x with
    | .dat (.bool true) => exSs G a ρ1
    | .dat (.bool false) => exSs G b ρ1
    | _ => .no)
  | .fors t it body, ρ => (evI G it ρ).sbind fun w ρ1 => if w.2.all (fun y => !(t.slots ++ body.asgs).contains y.1) then (forL t (exSs G body) w.1 ρ1).unlock w.2 else .no
  | .whl c body, ρ => whileU (evE G c) (exSs G body) ρ
  | .freeze i, ρ => (match (slot ρ i).fz with
    | some d => if i < ρ.length then .nx (ρ.set i (.dat d)) else .no
    | none => .no)
noncomputable def exSs (G : List Fn) : Ss → Env → SR
  | .nil, ρ => .nx ρ
  | .cons s r, ρ => (exS G s ρ).bind (exSs G r)
end

/-- a def: how many slots, which parameters are changed for the caller, its body -/
structure FnIR where
  n : Nat
  io : List Bool
  body : Ss
def outsOf : List Bool → Env → Env
  | [], _ => []
  | _ :: r, [] => .dead :: outsOf r []
  | b :: r, d :: ρ => (if b then d else .dead) :: outsOf r ρ
/-- what a def's run comes to -/
noncomputable def runF (G : List Fn) (f : FnIR) (ds : List D) : FR :=
  if ds.length = f.io.length ∧ f.io.length ≤ f.n then
    match exSs G f.body (ds ++ List.replicate (f.n - ds.length) .dead) with
    | .rt d ρ => .ret d (outsOf f.io ρ)
    | .nx ρ => .ret (.dat .none) (outsOf f.io ρ)
    | .ex x ρ => .ex x (outsOf f.io ρ)
    | .no => .no
  else .no
end DE
end

section
set_option Elab.async false
set_option linter.all false
/-! DE2: how a value stands in the abstract heap. -/
namespace DE
open PySem L2

/-- what an owned address may bear -/
def Ow : HO → Prop
  | .lst _ => True
  | .ins _ _ _ => True
  | .ext _ => True
  | .dK _ => True
  | _ => False

/-- a list that is never written: kept for ever, or locked, or one of the written part -/
def FzL (K : PySem.W.Frag) (H : Hp) (S : Addr → Prop) (a : Addr) (xs : List V) : Prop := (H a = some (.lst xs) ∧ S a) ∨ (∃ o, H a = some (.frz o (.lst xs))) ∨
  ∃ (its : Array Value) (n : Nat), K.lookup a = some { cls := .type "list", data := .seq its n } ∧ its.size ≤ sizeLine ∧ Vals xs its.toList
theorem FzL.seq {K : PySem.W.Frag} {H : Hp} {S : Addr → Prop} {a : Addr} {xs : List V} (h : FzL K H S a xs) : SqL K H a xs := by
  rcases h with h | h | ⟨its, n, h1, h2, h3⟩
  · exact .inl (.inl h.1)
  · exact .inl (.inr h)
  · exact .inr ⟨_, its, n, h1, rfl, rfl, rfl, h2, h3⟩

mutual
/-- data that stand at a value; S: the addresses of lists that stay as they are -/
inductive Rp (K : PySem.W.Frag) (H : Hp) (S : Addr → Prop) : V → PyData → Prop
  | non : Rp K H S .non .none
  | bl (b : Bool) : Rp K H S (.bl b) (.bool b)
  | int (i : Int) : Rp K H S (.int i) (.int i)
  | str (x : Str) : Rp K H S (.str x) (.str x)
  | lst {a : Addr} {xs : List V} {ds : List PyData} : FzL K H S a xs → RpL K H S xs ds → Rp K H S (.ref a) (.list ds)
  | tup {a : Addr} {xs : List V} {ds : List PyData} : SqT K H a xs → RpL K H S xs ds → Rp K H S (.ref a) (.tuple ds)
inductive RpL (K : PySem.W.Frag) (H : Hp) (S : Addr → Prop) : List V → List PyData → Prop
  | nil : RpL K H S [] []
  | cons {v : V} {vs : List V} {d : PyData} {ds : List PyData} : Rp K H S v d → RpL K H S vs ds → RpL K H S (v :: vs) (d :: ds)
end

mutual
/-- a value of the embedding that stands at a value; f counts the addresses that it owns -/
inductive Rv (K : PySem.W.Frag) (H : Hp) (Fz Bz : Addr → Prop) : V → D → (Addr → Nat) → Prop
  | dat {v : V} {d : PyData} {f : Addr → Nat} : Rp K H Fz v d → (∀ b, f b = 0) → Rv K H Fz Bz v (.dat d) f
  | bor {v : V} {d : PyData} {f : Addr → Nat} : Rp K H (fun a => Fz a ∨ Bz a) v d → (∀ b, f b = 0) → Rv K H Fz Bz v (.bor d) f
  | tr {v : V} {d : PyData} {f : Addr → Nat} : Rp K H (fun _ => True) v d → (∀ b, f b = 0) → Rv K H Fz Bz v (.tr d) f
  | lst {a : Addr} {vs : List V} {xs : List D} {f g : Addr → Nat} : H a = some (.lst vs) → RvL K H Fz Bz vs xs g → (∀ b, f b = g b + if b = a then 1 else 0) → Rv K H Fz Bz (.ref a) (.lst xs) f
  | dead {v : V} {f : Addr → Nat} : (∀ b, f b = 0) → Rv K H Fz Bz v .dead f
inductive RvL (K : PySem.W.Frag) (H : Hp) (Fz Bz : Addr → Prop) : List V → List D → (Addr → Nat) → Prop
  | nil {f : Addr → Nat} : (∀ b, f b = 0) → RvL K H Fz Bz [] [] f
  | cons {v : V} {vs : List V} {d : D} {ds : List D} {f g h : Addr → Nat} : Rv K H Fz Bz v d f → RvL K H Fz Bz vs ds g → (∀ b, h b = f b + g b) → RvL K H Fz Bz (v :: vs) (d :: ds) h
end

/-- a slot -/
def Rs (K : PySem.W.Frag) (H : Hp) (Fz Bz : Addr → Prop) (o : Option V) (d : D) (f : Addr → Nat) : Prop :=
  (d = .dead ∧ ∀ b, f b = 0) ∨ ∃ v, o = some v ∧ d.ntr = true ∧ Rv K H Fz Bz v d f
/-- the slots -/
inductive Re (K : PySem.W.Frag) (H : Hp) (Fz Bz : Addr → Prop) : St → Env → (Addr → Nat) → Prop
  | nil {f : Addr → Nat} : (∀ b, f b = 0) → Re K H Fz Bz [] [] f
  | cons {o : Option V} {s : St} {d : D} {r : Env} {f g h : Addr → Nat} : Rs K H Fz Bz o d f → Re K H Fz Bz s r g → (∀ b, h b = f b + g b) → Re K H Fz Bz (o :: s) (d :: r) h

/-- what is owned is owned once, is there, is not kept for ever -/
structure Wf (H : Hp) (Fz Bz : Addr → Prop) (f : Addr → Nat) : Prop where
  lin : ∀ b, f b ≤ 1
  own : ∀ b, 1 ≤ f b → ∃ o, H b = some o ∧ Ow o
  fz : ∀ b, Fz b → f b = 0 ∧ ∃ o, H b = some o
  bz : ∀ b, Bz b → f b = 0 ∧ ∃ o, H b = some o

/-- from a heap to a later one: what is not owned here stays -/
structure Stp (pu : Bool) (H : Hp) (Fz : Addr → Prop) (f : Addr → Nat) (H' : Hp) (Fz' : Addr → Prop) (f' : Addr → Nat) : Prop where
  keep : ∀ b o, H b = some o → (f b = 0 ∨ pu = true) → H' b = some o
  there : ∀ b o, H b = some o → ∃ o', H' b = some o'
  own : ∀ b, 1 ≤ f' b → 1 ≤ f b ∨ H b = none
  fz : ∀ b, Fz' b → Fz b ∨ 1 ≤ f b ∨ H b = none
  mono : ∀ b, Fz b → Fz' b

section
variable {K : PySem.W.Frag} {H H' H1 H2 : Hp} {S S' Fz Fz' Bz Bz' : Addr → Prop}

theorem FzL.keep {a : Addr} {xs : List V} (h : FzL K H S a xs) (k : ∀ b o, H b = some o → (S b ∨ ¬ Ow o) → H' b = some o) (m : ∀ b, S b → S' b) : FzL K H' S' a xs := by
  rcases h with ⟨h, s⟩ | ⟨o, h⟩ | h
  · exact .inl ⟨k _ _ h (.inl s), m _ s⟩
  · exact .inr (.inl ⟨o, k _ _ h (.inr (fun z => z))⟩)
  · exact .inr (.inr h)
theorem SqT.keep {a : Addr} {xs : List V} (h : SqT K H a xs) (k : ∀ b o, H b = some o → ¬ Ow o → H' b = some o) : SqT K H' a xs := by
  rcases h with (h | ⟨o, h⟩) | h
  · exact .inl (.inl (k _ _ h (fun z => z)))
  · exact .inl (.inr ⟨o, k _ _ h (fun z => z)⟩)
  · exact .inr h
mutual
theorem Rp.keep (k : ∀ b o, H b = some o → (S b ∨ ¬ Ow o) → H' b = some o) (m : ∀ b, S b → S' b) : ∀ {v : V} {d : PyData}, Rp K H S v d → Rp K H' S' v d
  | _, _, .non => .non
  | _, _, .bl b => .bl b
  | _, _, .int i => .int i
  | _, _, .str x => .str x
  | _, _, .lst h r => .lst (h.keep k m) (RpL.keep k m r)
  | _, _, .tup h r => .tup (SqT.keep h fun b o e n => k b o e (.inr n)) (RpL.keep k m r)
theorem RpL.keep (k : ∀ b o, H b = some o → (S b ∨ ¬ Ow o) → H' b = some o) (m : ∀ b, S b → S' b) : ∀ {vs : List V} {ds : List PyData}, RpL K H S vs ds → RpL K H' S' vs ds
  | _, _, .nil => .nil
  | _, _, .cons r t => .cons (Rp.keep k m r) (RpL.keep k m t)
end
mutual
theorem Rp.dp : ∀ {v : V} {d : PyData}, Rp K H S v d → Dp K H v d
  | _, _, .non => .non
  | _, _, .bl b => .bl b
  | _, _, .int i => .int i
  | _, _, .str x => .str x
  | _, _, .lst h r => .lst h.seq (RpL.dp r)
  | _, _, .tup h r => .tup h (RpL.dp r)
theorem RpL.dp : ∀ {vs : List V} {ds : List PyData}, RpL K H S vs ds → DpAll K H vs ds
  | _, _, .nil => .nil
  | _, _, .cons r t => .cons (Rp.dp r) (RpL.dp t)
end
theorem Rp.mono (m : ∀ b, S b → S' b) {v : V} {d : PyData} (h : Rp K H S v d) : Rp K H S' v d := h.keep (fun _ _ e _ => e) m
theorem RpL.mono (m : ∀ b, S b → S' b) {v : List V} {d : List PyData} (h : RpL K H S v d) : RpL K H S' v d := h.keep (fun _ _ e _ => e) m
theorem RpL.length : ∀ {vs : List V} {ds : List PyData}, RpL K H S vs ds → vs.length = ds.length
  | _, _, .nil => rfl
  | _, _, .cons _ t => by simp [RpL.length t]
theorem RpL.append : ∀ {vs ws : List V} {ds es : List PyData}, RpL K H S vs ds → RpL K H S ws es → RpL K H S (vs ++ ws) (ds ++ es)
  | _, _, _, _, .nil, h => h
  | _, _, _, _, .cons r t, h => .cons r (RpL.append t h)
theorem RpL.drop : ∀ {vs : List V} {ds : List PyData} (n : Nat), RpL K H S vs ds → RpL K H S (vs.drop n) (ds.drop n)
  | _, _, 0, h => h
  | _, _, _ + 1, .nil => .nil
  | _, _, n + 1, .cons _ t => RpL.drop n t
theorem RpL.take : ∀ {vs : List V} {ds : List PyData} (n : Nat), RpL K H S vs ds → RpL K H S (vs.take n) (ds.take n)
  | _, _, 0, _ => .nil
  | _, _, _ + 1, .nil => .nil
  | _, _, n + 1, .cons r t => .cons r (RpL.take n t)
theorem RpL.reverse : ∀ {vs : List V} {ds : List PyData}, RpL K H S vs ds → RpL K H S vs.reverse ds.reverse
  | _, _, .nil => .nil
  | _, _, .cons r t => by
    rw [List.reverse_cons, List.reverse_cons]
    exact (RpL.reverse t).append (.cons r .nil)
theorem RpL.get : ∀ {vs : List V} {ds : List PyData} {i : Nat} {d : PyData}, RpL K H S vs ds → ds[i]? = some d → ∃ v, vs[i]? = some v ∧ Rp K H S v d
  | _, _, _, _, .nil, e => by simp at e
  | _, _, 0, _, .cons r _, e => by simp at e; subst e; exact ⟨_, rfl, r⟩
  | _, _, i + 1, d, .cons _ t, e => by
    obtain ⟨u, h1, h2⟩ := RpL.get (i := i) (d := d) t (by simpa using e)
    exact ⟨u, by simpa using h1, h2⟩
theorem RpL.getV : ∀ {vs : List V} {ds : List PyData} {i : Nat} {v : V}, RpL K H S vs ds → vs[i]? = some v → ∃ d, ds[i]? = some d ∧ Rp K H S v d
  | _, _, _, _, .nil, e => by simp at e
  | _, _, 0, _, .cons r _, e => by simp at e; subst e; exact ⟨_, rfl, r⟩
  | _, _, i + 1, d, .cons _ t, e => by
    obtain ⟨u, h1, h2⟩ := RpL.getV (i := i) (v := d) t (by simpa using e)
    exact ⟨u, by simpa using h1, h2⟩
theorem RpL.atI {vs : List V} {ds : List PyData} {i : Int} {d : PyData} (h : RpL K H S vs ds) (e : L2.atI ds i = some d) : ∃ v, L2.atI vs i = some v ∧ Rp K H S v d := by
  unfold L2.atI at e ⊢
  rw [← h.length] at e
  cases q : ixN vs.length i with
  | none => rw [q] at e; cases e
  | some j =>
    rw [q] at e
    exact h.get (i := j) e
theorem RpL.replicate {vs : List V} {ds : List PyData} (h : RpL K H S vs ds) : ∀ n : Nat, RpL K H S (List.replicate n vs).flatten (List.replicate n ds).flatten
  | 0 => .nil
  | n + 1 => by
    rw [List.replicate_succ, List.replicate_succ, List.flatten_cons, List.flatten_cons]
    exact h.append (RpL.replicate h n)
theorem RpL.cut {vs : List V} {ds : List PyData} (h : RpL K H S vs ds) (lo hi : Option Int) : RpL K H S (L2.cutV vs lo hi) (cutL ds lo hi) := by
  unfold L2.cutV cutL
  rw [h.length]
  exact (h.drop _).take _

mutual
theorem Rv.keep (k : ∀ b o, H b = some o → (Fz b ∨ Bz b ∨ ¬ Ow o) → H' b = some o) (m : ∀ b, Fz b → Fz' b) : ∀ {v : V} {d : D} {f : Addr → Nat}, Rv K H Fz Bz v d f → d.ntr = true → (∀ b o, H b = some o → 1 ≤ f b → H' b = some o) → Rv K H' Fz' Bz v d f
  | _, _, _, .dat h z, _, _ => .dat (h.keep (fun b o e q => k b o e (q.elim .inl fun n => .inr (.inr n))) m) z
  | _, _, _, .bor h z, _, _ => .bor (h.keep (fun b o e q => k b o e (q.elim (fun q => q.elim .inl fun n => .inr (.inl n)) fun n => .inr (.inr n))) (fun b q => q.elim (fun q => .inl (m b q)) .inr)) z
  | _, _, _, .tr h z, n, _ => by simp [D.ntr] at n
  | _, _, _, .lst h r q, n, kf => .lst (kf _ _ h (by rw [q, if_pos rfl]; omega)) (RvL.keep k m r (by simpa [D.ntr] using n) fun b o e z => kf b o e (by rw [q]; omega)) q
  | _, _, _, .dead z, _, _ => .dead z
theorem RvL.keep (k : ∀ b o, H b = some o → (Fz b ∨ Bz b ∨ ¬ Ow o) → H' b = some o) (m : ∀ b, Fz b → Fz' b) : ∀ {vs : List V} {ds : List D} {f : Addr → Nat}, RvL K H Fz Bz vs ds f → D.ntrL ds = true → (∀ b o, H b = some o → 1 ≤ f b → H' b = some o) → RvL K H' Fz' Bz vs ds f
  | _, _, _, .nil z, _, _ => .nil z
  | _, _, _, .cons r t q, n, kf => by
    rw [D.ntrL, Bool.and_eq_true] at n
    exact .cons (Rv.keep k m r n.1 fun b o e z => kf b o e (by rw [q]; omega)) (RvL.keep k m t n.2 fun b o e z => kf b o e (by rw [q]; omega)) q
end
mutual
/-- where all stays -/
theorem Rv.same (k : ∀ b o, H b = some o → H' b = some o) (m : ∀ b, Fz b → Fz' b) : ∀ {v : V} {d : D} {f : Addr → Nat}, Rv K H Fz Bz v d f → Rv K H' Fz' Bz v d f
  | _, _, _, .dat h z => .dat (h.keep (fun b o e _ => k b o e) m) z
  | _, _, _, .bor h z => .bor (h.keep (fun b o e _ => k b o e) (fun b q => q.elim (fun q => .inl (m b q)) .inr)) z
  | _, _, _, .tr h z => .tr (h.keep (fun b o e _ => k b o e) fun _ q => q) z
  | _, _, _, .lst h r q => .lst (k _ _ h) (RvL.same k m r) q
  | _, _, _, .dead z => .dead z
theorem RvL.same (k : ∀ b o, H b = some o → H' b = some o) (m : ∀ b, Fz b → Fz' b) : ∀ {vs : List V} {ds : List D} {f : Addr → Nat}, RvL K H Fz Bz vs ds f → RvL K H' Fz' Bz vs ds f
  | _, _, _, .nil z => .nil z
  | _, _, _, .cons r t q => .cons (Rv.same k m r) (RvL.same k m t) q
end
mutual
/-- own values don't lean on what is borrowed -/
theorem Rv.unbor : ∀ {v : V} {d : D} {f : Addr → Nat}, Rv K H Fz Bz v d f → d.own = true → Rv K H Fz Bz' v d f
  | _, _, _, .dat h z, _ => .dat h z
  | _, _, _, .bor h z, n => by simp [D.own] at n
  | _, _, _, .tr h z, n => by simp [D.own] at n
  | _, _, _, .lst h r q, n => .lst h (RvL.unbor r (by simpa [D.own] using n)) q
  | _, _, _, .dead z, _ => .dead z
theorem RvL.unbor : ∀ {vs : List V} {ds : List D} {f : Addr → Nat}, RvL K H Fz Bz vs ds f → D.ownL ds = true → RvL K H Fz Bz' vs ds f
  | _, _, _, .nil z, _ => .nil z
  | _, _, _, .cons r t q, n => by
    rw [D.ownL, Bool.and_eq_true] at n
    exact .cons (Rv.unbor r n.1) (RvL.unbor t n.2) q
end
mutual
theorem ntr_of_own : ∀ {d : D}, d.own = true → d.ntr = true
  | .dat _, _ => rfl
  | .lst xs, h => by simp only [D.own] at h; simp only [D.ntr]; exact ntrL_of_own h
  | .dct kvs, h => by simp only [D.own] at h; simp only [D.ntr]; exact ntrK_of_own h
  | .ins _ fs, h => by simp only [D.own] at h; simp only [D.ntr]; exact ntrF_of_own h
  | .exc _ _, _ => rfl
  | .bor _, _ => rfl
  | .tr _, h => by simp [D.own] at h
  | .dead, _ => rfl
theorem ntrL_of_own : ∀ {d : List D}, D.ownL d = true → D.ntrL d = true
  | [], _ => rfl
  | x :: r, h => by
    rw [D.ownL, Bool.and_eq_true] at h
    rw [D.ntrL, ntr_of_own h.1, ntrL_of_own h.2]; rfl
theorem ntrK_of_own : ∀ {d : List (PyData × D)}, D.ownK d = true → D.ntrK d = true
  | [], _ => rfl
  | (_, x) :: r, h => by
    rw [D.ownK, Bool.and_eq_true] at h
    rw [D.ntrK, ntr_of_own h.1, ntrK_of_own h.2]; rfl
theorem ntrF_of_own : ∀ {d : List (Str × D)}, D.ownF d = true → D.ntrF d = true
  | [], _ => rfl
  | (_, x) :: r, h => by
    rw [D.ownF, Bool.and_eq_true] at h
    rw [D.ntrF, ntr_of_own h.1, ntrF_of_own h.2]; rfl
end

theorem RvL.length : ∀ {vs : List V} {ds : List D} {f : Addr → Nat}, RvL K H Fz Bz vs ds f → vs.length = ds.length
  | _, _, _, .nil _ => rfl
  | _, _, _, .cons _ t _ => by simp [RvL.length t]
theorem RvL.append : ∀ {vs ws : List V} {ds es : List D} {f g h : Addr → Nat}, RvL K H Fz Bz vs ds f → RvL K H Fz Bz ws es g → (∀ b, h b = f b + g b) → RvL K H Fz Bz (vs ++ ws) (ds ++ es) h
  | _, ws, _, es, f, g, h, .nil z, r, q => by
    have e : h = g := funext fun b => by rw [q, z]; omega
    rw [e]; exact r
  | _, _, _, _, f, g, h, .cons r t z, s, q => .cons r (RvL.append t s fun _ => rfl) fun b => by rw [q, z]; omega
/-- items of data -/
theorem RvL.dats : ∀ {vs : List V} {ds : List PyData}, RpL K H Fz vs ds → RvL K H Fz Bz vs (ds.map .dat) (fun _ => 0)
  | _, _, .nil => .nil fun _ => rfl
  | _, _, .cons r t => .cons (.dat r fun _ => rfl) (RvL.dats t) fun _ => rfl
theorem ownL_dats : ∀ ds : List PyData, D.ownL (ds.map .dat) = true
  | [] => rfl
  | d :: ds => by rw [List.map_cons, D.ownL, ownL_dats ds]; rfl
/-- an item is taken out of its place -/
theorem RvL.split : ∀ {vs : List V} {ds : List D} {f : Addr → Nat} {i : Nat} {d : D}, RvL K H Fz Bz vs ds f → ds[i]? = some d →
    ∃ v fi g, vs[i]? = some v ∧ Rv K H Fz Bz v d fi ∧ (∀ b, f b = fi b + g b) ∧ RvL K H Fz Bz vs (ds.set i .dead) g ∧ RvL K H Fz Bz (vs.eraseIdx i) (ds.eraseIdx i) g
  | _, _, _, _, _, .nil _, e => by simp at e
  | _, _, _, 0, _, .cons (v := v) (vs := vs) (f := fi) (g := g) r t q, e => by
    simp at e; subst e
    exact ⟨v, fi, g, rfl, r, q, .cons (f := fun _ => 0) (.dead fun _ => rfl) t (fun b => by simp), t⟩
  | _, _, _, i + 1, d, .cons (v := v) (f := f0) (g := g0) r t q, e => by
    obtain ⟨u, fi, g, h1, h2, h3, h4, h5⟩ := RvL.split (i := i) (d := d) t (by simpa using e)
    exact ⟨u, fi, fun b => f0 b + g b, by simpa using h1, h2, fun b => by show _ = fi b + (f0 b + g b); rw [q, h3]; omega, .cons r h4 fun _ => rfl, .cons r h5 fun _ => rfl⟩
/-- .. and put into it -/
theorem RvL.put : ∀ {vs : List V} {ds : List D} {g fi f : Addr → Nat} {i : Nat} {v : V} {d : D}, RvL K H Fz Bz vs (ds.set i .dead) g → i < ds.length → Rv K H Fz Bz v d fi → (∀ b, f b = fi b + g b) → RvL K H Fz Bz (vs.set i v) (ds.set i d) f
  | vs, [], _, _, _, _, _, _, _, h, _, _ => by simp at h
  | _, x :: xs, _, _, _, 0, _, _, .cons r t q, _, h, z => by
    simp only [List.set_cons_zero] at *
    cases r with
    | dead z0 => exact .cons h t fun b => by rw [z, q, z0]; omega
  | _, x :: xs, _, _, _, i + 1, _, _, .cons r t q, l, h, z => by
    simp only [List.set_cons_succ]
    exact .cons r (RvL.put t (by simpa using l) h fun _ => rfl) fun b => by rw [z, q]; omega
theorem RvL.set_same : ∀ {vs : List V} {i : Nat} {v : V}, vs[i]? = some v → vs.set i v = vs
  | [], _, _, h => by simp at h
  | x :: xs, 0, v, h => by simp at h; subst h; rfl
  | x :: xs, i + 1, v, h => by
    rw [List.set_cons_succ, RvL.set_same (by simpa using h)]
mutual
theorem Rv.ows : ∀ {v : V} {d : D} {f : Addr → Nat}, Rv K H Fz Bz v d f → ∀ b, 1 ≤ f b → ∃ o, H b = some o ∧ Ow o
  | _, _, _, .dat _ z, b, h => by rw [z] at h; omega
  | _, _, _, .bor _ z, b, h => by rw [z] at h; omega
  | _, _, _, .tr _ z, b, h => by rw [z] at h; omega
  | _, _, _, .lst (a := a) e r q, b, h => by
    by_cases hb : b = a
    · subst hb; exact ⟨_, e, trivial⟩
    · rw [q, if_neg hb] at h
      exact RvL.ows r b (by omega)
  | _, _, _, .dead z, b, h => by rw [z] at h; omega
theorem RvL.ows : ∀ {vs : List V} {ds : List D} {f : Addr → Nat}, RvL K H Fz Bz vs ds f → ∀ b, 1 ≤ f b → ∃ o, H b = some o ∧ Ow o
  | _, _, _, .nil z, b, h => by rw [z] at h; omega
  | _, _, _, .cons (f := f) r t q, b, h => by
    rw [q] at h
    by_cases h1 : 1 ≤ f b
    · exact Rv.ows r b h1
    · exact RvL.ows t b (by omega)
end
mutual
/-- a look at what is owned -/
theorem Rv.look : ∀ {v : V} {d : D} {f : Addr → Nat} {p : PyData}, Rv K H Fz Bz v d f → d.view = some p → Rp K H (fun _ => True) v p
  | _, _, _, _, .dat h _, e => by simp only [D.view, Option.some.injEq] at e; subst e; exact h.mono fun _ _ => trivial
  | _, _, _, _, .bor h _, e => by simp only [D.view, Option.some.injEq] at e; subst e; exact h.mono fun _ _ => trivial
  | _, _, _, _, .tr h _, e => by simp only [D.view, Option.some.injEq] at e; subst e; exact h
  | _, _, _, _, .lst h r q, e => by
    simp only [D.view] at e
    obtain ⟨ps, e1, e2⟩ := Option.map_eq_some_iff.mp e
    subst e2
    exact .lst (.inl ⟨h, trivial⟩) (RvL.look r e1)
  | _, _, _, _, .dead _, e => by simp [D.view] at e
theorem RvL.look : ∀ {vs : List V} {ds : List D} {f : Addr → Nat} {ps : List PyData}, RvL K H Fz Bz vs ds f → D.viewL ds = some ps → RpL K H (fun _ => True) vs ps
  | _, _, _, _, .nil _, e => by simp only [D.viewL, Option.some.injEq] at e; subst e; exact .nil
  | _, _, _, _, .cons (d := d) (ds := ds) r t q, e => by
    rw [D.viewL] at e
    cases h1 : d.view with
    | none => rw [h1] at e; simp at e
    | some a =>
      cases h2 : D.viewL ds with
      | none => rw [h1, h2] at e; simp at e
      | some b =>
        rw [h1, h2] at e
        simp only [Option.some.injEq] at e
        subst e
        exact .cons (Rv.look r h1) (RvL.look t h2)
end
mutual
/-- what is owned is kept for ever from now on -/
theorem Rv.freeze : ∀ {v : V} {d : D} {f : Addr → Nat} {p : PyData}, Rv K H Fz Bz v d f → d.fz = some p → Rp K H (fun b => Fz b ∨ 1 ≤ f b) v p
  | _, _, _, _, .dat h _, e => by simp only [D.fz, Option.some.injEq] at e; subst e; exact h.mono fun _ q => .inl q
  | _, _, _, _, .bor h _, e => by simp [D.fz] at e
  | _, _, _, _, .tr h _, e => by simp [D.fz] at e
  | _, _, _, _, .lst h r q, e => by
    simp only [D.fz] at e
    obtain ⟨ps, e1, e2⟩ := Option.map_eq_some_iff.mp e
    subst e2
    exact .lst (.inl ⟨h, .inr (by rw [q, if_pos rfl]; omega)⟩) ((RvL.freeze r e1).mono fun b z => z.elim .inl fun z => .inr (by rw [q]; omega))
  | _, _, _, _, .dead _, e => by simp [D.fz] at e
theorem RvL.freeze : ∀ {vs : List V} {ds : List D} {f : Addr → Nat} {ps : List PyData}, RvL K H Fz Bz vs ds f → D.fzL ds = some ps → RpL K H (fun b => Fz b ∨ 1 ≤ f b) vs ps
  | _, _, _, _, .nil _, e => by simp only [D.fzL, Option.some.injEq] at e; subst e; exact .nil
  | _, _, _, _, .cons (d := d) (ds := ds) r t q, e => by
    rw [D.fzL] at e
    cases h1 : d.fz with
    | none => rw [h1] at e; simp at e
    | some a =>
      cases h2 : D.fzL ds with
      | none => rw [h1, h2] at e; simp at e
      | some b =>
        rw [h1, h2] at e
        simp only [Option.some.injEq] at e
        subst e
        exact .cons ((Rv.freeze r h1).mono fun b z => z.elim .inl fun z => .inr (by rw [q]; omega)) ((RvL.freeze t h2).mono fun b z => z.elim .inl fun z => .inr (by rw [q]; omega))
end
end
end DE
end

section
set_option Elab.async false
set_option linter.all false
/-! DE3: slots, places, steps. -/
namespace DE
open PySem L2
section
variable {K : PySem.W.Frag} {H H' H1 H2 : Hp} {S S' Fz Fz' Fz1 Fz2 Bz Bz' : Addr → Prop}

theorem Re.length : ∀ {s : St} {r : Env} {f : Addr → Nat}, Re K H Fz Bz s r f → s.length = r.length
  | _, _, _, .nil _ => rfl
  | _, _, _, .cons _ t _ => by simp [Re.length t]
theorem Rs.keep {o : Option V} {d : D} {f : Addr → Nat} (k : ∀ b o, H b = some o → (Fz b ∨ Bz b ∨ ¬ Ow o) → H' b = some o) (m : ∀ b, Fz b → Fz' b) (h : Rs K H Fz Bz o d f) (kf : ∀ b o, H b = some o → 1 ≤ f b → H' b = some o) : Rs K H' Fz' Bz o d f := by
  rcases h with h | ⟨v, e, n, r⟩
  · exact .inl h
  · exact .inr ⟨v, e, n, r.keep k m n kf⟩
theorem Re.keep (k : ∀ b o, H b = some o → (Fz b ∨ Bz b ∨ ¬ Ow o) → H' b = some o) (m : ∀ b, Fz b → Fz' b) : ∀ {s : St} {r : Env} {f : Addr → Nat}, Re K H Fz Bz s r f → (∀ b o, H b = some o → 1 ≤ f b → H' b = some o) → Re K H' Fz' Bz s r f
  | _, _, _, .nil z, _ => .nil z
  | _, _, _, .cons r t q, kf => .cons (Rs.keep k m r fun b o e z => kf b o e (by rw [q]; omega)) (Re.keep k m t fun b o e z => kf b o e (by rw [q]; omega)) q
theorem Re.ows : ∀ {s : St} {r : Env} {f : Addr → Nat}, Re K H Fz Bz s r f → ∀ b, 1 ≤ f b → ∃ o, H b = some o ∧ Ow o
  | _, _, _, .nil z, b, h => by rw [z] at h; omega
  | _, _, _, .cons (f := f) r t q, b, h => by
    rw [q] at h
    by_cases h1 : 1 ≤ f b
    · rcases r with ⟨_, z⟩ | ⟨v, e, n, r⟩
      · rw [z] at h1; omega
      · exact r.ows b h1
    · exact Re.ows t b (by omega)
theorem Rs.dead {o : Option V} : Rs K H Fz Bz o .dead (fun _ => 0) := .inl ⟨rfl, fun _ => rfl⟩
theorem slot_cons_succ (d : D) (r : Env) (i : Nat) : slot (d :: r) (i + 1) = slot r i := by simp [slot]
theorem slot_cons_zero (d : D) (r : Env) : slot (d :: r) 0 = d := by simp [slot]
/-- a slot's value is taken out -/
theorem Re.split : ∀ {s : St} {r : Env} {f : Addr → Nat} {i : Nat}, Re K H Fz Bz s r f → i < r.length →
    ∃ o fi g, s[i]? = some o ∧ Rs K H Fz Bz o (slot r i) fi ∧ (∀ b, f b = fi b + g b) ∧ Re K H Fz Bz s (r.set i .dead) g
  | _, _, _, _, .nil _, l => by simp at l
  | _, _, _, 0, .cons (o := o) (s := s) (d := d) (r := r) (f := fi) (g := g) h t q, _ =>
    ⟨o, fi, g, rfl, by rw [slot_cons_zero]; exact h, q, .cons (f := fun _ => 0) Rs.dead t (fun b => by simp)⟩
  | _, _, _, i + 1, .cons (o := o0) (d := d) (r := r) (f := f0) (g := g0) h t q, l => by
    obtain ⟨o, fi, g, h1, h2, h3, h4⟩ := Re.split (i := i) t (by simpa using l)
    exact ⟨o, fi, fun b => f0 b + g b, by simpa using h1, by rw [slot_cons_succ]; exact h2, fun b => by show _ = fi b + (f0 b + g b); rw [q, h3]; omega, .cons h h4 fun _ => rfl⟩
/-- .. and put in -/
theorem Re.put : ∀ {s : St} {r : Env} {g fi f : Addr → Nat} {i : Nat} {o : Option V} {d : D}, Re K H Fz Bz s (r.set i .dead) g → i < r.length → Rs K H Fz Bz o d fi → (∀ b, f b = fi b + g b) → Re K H Fz Bz (s.set i o) (r.set i d) f
  | _, [], _, _, _, _, _, _, _, l, _, _ => by simp at l
  | _, x :: xs, _, _, _, 0, o, d, .cons r t q, _, h, z => by
    simp only [List.set_cons_zero] at *
    rcases r with ⟨_, z0⟩ | ⟨v, _, _, r⟩
    · exact .cons h t fun b => by rw [z, q, z0]; omega
    · cases r with
      | dead z0 => exact .cons h t fun b => by rw [z, q, z0]; omega
  | _, x :: xs, _, _, _, i + 1, o, d, .cons r t q, l, h, z => by
    simp only [List.set_cons_succ]
    exact .cons r (Re.put t (by simpa using l) h fun _ => rfl) fun b => by rw [z, q]; omega
theorem set_get {α : Type} {l : List α} {i : Nat} {o : α} (h : l[i]? = some o) : l.set i o = l := by
  apply List.ext_getElem?
  intro j
  by_cases e : i = j
  · subst e
    have hl : i < l.length := (List.getElem?_eq_some_iff.mp h).1
    rw [List.getElem?_set_self hl, h]
  · rw [List.getElem?_set_ne e]
/-- .. where the variable still stands for the same object -/
theorem Re.put' {s : St} {r : Env} {g fi f : Addr → Nat} {i : Nat} {o : Option V} {d : D} (h : Re K H Fz Bz s (r.set i .dead) g) (l : i < r.length) (e : s[i]? = some o) (x : Rs K H Fz Bz o d fi) (z : ∀ b, f b = fi b + g b) : Re K H Fz Bz s (r.set i d) f := by
  have q := h.put l x z
  rw [set_get e] at q
  exact q

/-! ### places -/
/-- from a value by subscripts of lists to another -/
inductive PathV (H : Hp) : V → List Sel → V → Prop
  | nil {v : V} : PathV H v [] v
  | cons {a : Addr} {vs : List V} {i : Int} {w u : V} {sel : List Sel} : H a = some (.lst vs) → L2.atI vs i = some w → PathV H w sel u → PathV H (.ref a) (i :: sel) u
theorem PathV.fun : ∀ {v u w : V} {sel : List Sel}, PathV H v sel u → PathV H v sel w → u = w
  | _, _, _, _, .nil, .nil => rfl
  | _, _, _, _, .cons h1 h2 h3, .cons k1 k2 k3 => by
    rw [h1] at k1
    have e : _ = _ := HO.lst.inj (Option.some.inj k1)
    subst e
    rw [h2] at k2
    have e : _ = _ := Option.some.inj k2
    subst e
    exact PathV.fun h3 k3
theorem PathV.same (k : ∀ b o, H b = some o → H' b = some o) : ∀ {v u : V} {sel : List Sel}, PathV H v sel u → PathV H' v sel u
  | _, _, _, .nil => .nil
  | _, _, _, .cons h1 h2 h3 => .cons (k _ _ h1) h2 (PathV.same k h3)
theorem PathV.snoc : ∀ {v : V} {sel : List Sel} {a : Addr} {vs : List V} {i : Int} {w : V}, PathV H v sel (.ref a) → H a = some (.lst vs) → L2.atI vs i = some w → PathV H v (sel ++ [i]) w
  | _, _, _, _, _, _, .nil, h1, h2 => .cons h1 h2 .nil
  | _, _, _, _, _, _, .cons k1 k2 k3, h1, h2 => .cons k1 k2 (PathV.snoc k3 h1 h2)
theorem atI_ix {α : Type} {xs : List α} {i : Int} {v : α} (h : L2.atI xs i = some v) : ∃ j, ixN xs.length i = some j ∧ xs[j]? = some v := by
  unfold L2.atI at h
  cases e : ixN xs.length i with
  | none => rw [e] at h; cases h
  | some j => rw [e] at h; exact ⟨j, rfl, h⟩
theorem ntrL_get : ∀ {ds : List D} {i : Nat} {d : D}, D.ntrL ds = true → ds[i]? = some d → d.ntr = true
  | [], _, _, _, h => by simp at h
  | x :: r, 0, d, n, h => by
    rw [D.ntrL, Bool.and_eq_true] at n
    simp at h; subst h; exact n.1
  | x :: r, i + 1, d, n, h => by
    rw [D.ntrL, Bool.and_eq_true] at n
    exact ntrL_get (i := i) n.2 (by simpa using h)
theorem ntrL_set : ∀ {ds : List D} {i : Nat} {d : D}, D.ntrL ds = true → d.ntr = true → D.ntrL (ds.set i d) = true
  | [], _, _, n, _ => by simpa using n
  | x :: r, 0, d, n, h => by
    rw [D.ntrL, Bool.and_eq_true] at n
    rw [List.set_cons_zero, D.ntrL, h, n.2]; rfl
  | x :: r, i + 1, d, n, h => by
    rw [D.ntrL, Bool.and_eq_true] at n
    rw [List.set_cons_succ, D.ntrL, n.1, ntrL_set n.2 h]; rfl
theorem ownL_get : ∀ {ds : List D} {i : Nat} {d : D}, D.ownL ds = true → ds[i]? = some d → d.own = true
  | [], _, _, _, h => by simp at h
  | x :: r, 0, d, n, h => by
    rw [D.ownL, Bool.and_eq_true] at n
    simp at h; subst h; exact n.1
  | x :: r, i + 1, d, n, h => by
    rw [D.ownL, Bool.and_eq_true] at n
    exact ownL_get (i := i) n.2 (by simpa using h)
/-- what stands at a place, and all that is beside it -/
theorem Rv.path : ∀ (sel : List Sel) {v : V} {d x : D} {f : Addr → Nat}, Rv K H Fz Bz v d f → getS d sel = some x → d.ntr = true →
    ∃ (u : V) (fx g : Addr → Nat), PathV H v sel u ∧ Rv K H Fz Bz u x fx ∧ x.ntr = true ∧ (∀ b, f b = fx b + g b) ∧
      ∀ (H' : Hp) (Fz' : Addr → Prop), (∀ b o, H b = some o → (Fz b ∨ Bz b ∨ ¬ Ow o) → H' b = some o) → (∀ b, Fz b → Fz' b) → (∀ b o, H b = some o → 1 ≤ g b → H' b = some o) →
        ∀ (x' : D) (fx' : Addr → Nat), Rv K H' Fz' Bz u x' fx' → x'.ntr = true → ∃ d', putS d sel x' = some d' ∧ d'.ntr = true ∧ Rv K H' Fz' Bz v d' (fun b => fx' b + g b)
  | [], v, d, x, f, h, e, n => by
    have e' : d = x := by cases d <;> simpa [getS] using e
    subst e'
    refine ⟨v, f, fun _ => 0, .nil, h, n, fun b => by simp, fun H' Fz' k m kg x' fx' r n' => ⟨x', ?_, n', ?_⟩⟩
    · cases d <;> rfl
    · have z : (fun b => fx' b + 0) = fx' := funext fun b => by omega
      rw [z]; exact r
  | i :: sel, v, d, x, f, h, e, n => by
    cases d with
    | lst xs =>
      cases h with
      | lst ha hr hq =>
        rename_i a vs g0
        simp only [getS] at e
        cases ex : L2.atI xs i with
        | none => rw [ex] at e; cases e
        | some x1 =>
          rw [ex] at e
          simp only at e
          obtain ⟨j, ej, gj⟩ := atI_ix ex
          simp only [D.ntr] at n
          obtain ⟨w, f1, g1, hw, r1, q1, dead, _⟩ := hr.split gj
          obtain ⟨u, fx, g, hp, ru, nx, qf, ctx⟩ := Rv.path sel r1 e (ntrL_get n gj)
          have ewv : L2.atI vs i = some w := by
            unfold L2.atI
            rw [hr.length, ej]
            exact hw
          refine ⟨u, fx, fun b => g b + g1 b + if b = a then 1 else 0, .cons ha ewv hp, ru, nx, fun b => by show _ = fx b + (g b + g1 b + _); rw [hq, q1, qf]; omega, fun H' Fz' k m kg x' fx' r' n' => ?_⟩
          obtain ⟨z, ez, nz, rz⟩ := ctx H' Fz' k m (fun b o e h => kg b o e (by show 1 ≤ g b + g1 b + _; omega)) x' fx' r' n'
          have dead' : RvL K H' Fz' Bz vs (xs.set j .dead) g1 := dead.keep k m (ntrL_set n rfl) fun b o e h => kg b o e (by show 1 ≤ g b + g1 b + _; omega)
          have lj : j < xs.length := (List.getElem?_eq_some_iff.mp gj).1
          have full := RvL.put dead' lj rz (f := fun b => (fx' b + g b) + g1 b) fun b => rfl
          rw [RvL.set_same hw] at full
          refine ⟨.lst (xs.set j z), ?_, ?_, ?_⟩
          · simp only [putS, ej, ex, ez, Option.map_some]
          · simp only [D.ntr]; exact ntrL_set n nz
          · refine .lst (kg _ _ ha (by show 1 ≤ g a + g1 a + (if a = a then 1 else 0); rw [if_pos rfl]; omega)) full fun b => ?_
            show fx' b + (g b + g1 b + _) = fx' b + g b + g1 b + _
            omega
    | _ => simp [getS] at e

/-! ### steps -/
theorem Wf.cong {f g : Addr → Nat} (h : Wf H Fz Bz f) (e : ∀ b, g b = f b) : Wf H Fz Bz g := by
  have z : g = f := funext e
  rw [z]; exact h
theorem Wf.le {f g : Addr → Nat} (h : Wf H Fz Bz f) (e : ∀ b, g b ≤ f b) : Wf H Fz Bz g :=
  ⟨fun b => Nat.le_trans (e b) (h.lin b), fun b z => h.own b (Nat.le_trans z (e b)), fun b z => ⟨by have := e b; have := (h.fz b z).1; omega, (h.fz b z).2⟩, fun b z => ⟨by have := e b; have := (h.bz b z).1; omega, (h.bz b z).2⟩⟩
theorem Stp.refl {pu : Bool} {f : Addr → Nat} : Stp pu H Fz f H Fz f := ⟨fun _ _ e _ => e, fun _ o e => ⟨o, e⟩, fun _ h => .inl h, fun _ h => .inl h, fun _ h => h⟩
theorem Stp.trans {p q : Bool} {f f1 f2 : Addr → Nat} (a : Stp p H Fz f H1 Fz1 f1) (b : Stp q H1 Fz1 f1 H2 Fz2 f2) : Stp (p && q) H Fz f H2 Fz2 f2 where
  keep := fun c o e h => by
    refine b.keep c o (a.keep c o e ?_) ?_
    · exact h.imp id fun h => ((Bool.and_eq_true _ _).mp h).1
    · rcases h with h | h
      · refine .inl ?_
        by_cases z : 1 ≤ f1 c
        · rcases a.own c z with y | y
          · omega
          · rw [e] at y; cases y
        · omega
      · exact .inr ((Bool.and_eq_true _ _).mp h).2
  there := fun c o e => let ⟨o', e'⟩ := a.there c o e; b.there c o' e'
  own := fun c h => by
    rcases b.own c h with h | h
    · exact a.own c h
    · refine .inr ?_
      cases e : H c with
      | none => rfl
      | some o => obtain ⟨o', e'⟩ := a.there c o e; rw [h] at e'; cases e'
  fz := fun c h => by
    rcases b.fz c h with h | h | h
    · exact a.fz c h
    · exact .inr (a.own c h)
    · refine .inr (.inr ?_)
      cases e : H c with
      | none => rfl
      | some o => obtain ⟨o', e'⟩ := a.there c o e; rw [h] at e'; cases e'
  mono := fun c h => b.mono c (a.mono c h)
theorem Stp.weak {p q : Bool} {f f' : Addr → Nat} (a : Stp p H Fz f H' Fz' f') (h : q = true → p = true) : Stp q H Fz f H' Fz' f' :=
  ⟨fun b o e z => a.keep b o e (z.imp id h), a.there, a.own, a.fz, a.mono⟩
theorem Stp.cong {p : Bool} {f f' g g' : Addr → Nat} (a : Stp p H Fz f H' Fz' f') (h : ∀ b, g b = f b) (h' : ∀ b, g' b = f' b) : Stp p H Fz g H' Fz' g' := by
  have e : g = f := funext h
  have e' : g' = f' := funext h'
  rw [e, e']; exact a
/-- fewer are owned behind it -/
theorem Stp.less {p : Bool} {f f' g' : Addr → Nat} (a : Stp p H Fz f H' Fz' f') (h : ∀ b, g' b ≤ f' b) : Stp p H Fz f H' Fz' g' :=
  ⟨a.keep, a.there, fun b z => a.own b (Nat.le_trans z (h b)), a.fz, a.mono⟩
/-- beside what is owned by others -/
theorem Stp.frame {p : Bool} {f f' r : Addr → Nat} (a : Stp p H Fz f H' Fz' f') : Stp p H Fz (fun b => f b + r b) H' Fz' (fun b => f' b + r b) where
  keep := fun b o e h => a.keep b o e (h.imp (fun h => by omega) id)
  there := a.there
  own := fun b h => by
    by_cases z : 1 ≤ f' b
    · rcases a.own b z with y | y
      · exact .inl (by omega)
      · exact .inr y
    · exact .inl (by omega)
  fz := fun b h => by
    rcases a.fz b h with h | h | h
    · exact .inl h
    · exact .inr (.inl (by omega))
    · exact .inr (.inr h)
  mono := a.mono
theorem Wf.frame {p : Bool} {f f' r : Addr → Nat} (a : Stp p H Fz f H' Fz' f') (w : Wf H Fz Bz (fun b => f b + r b)) (w' : Wf H' Fz' Bz f') : Wf H' Fz' Bz (fun b => f' b + r b) := by
  have alone : ∀ b, 1 ≤ r b → f b = 0 ∧ f' b = 0 ∧ ∃ o, H b = some o ∧ H' b = some o ∧ Ow o := fun b h => by
    have h1 := w.lin b
    (try dsimp only at h1)
    obtain ⟨o, e, ow⟩ := w.own b (by show 1 ≤ f b + r b; omega)
    have z : f b = 0 := by omega
    refine ⟨z, ?_, o, e, a.keep b o e (.inl z), ow⟩
    by_cases y : 1 ≤ f' b
    · rcases a.own b y with x | x
      · omega
      · rw [e] at x; cases x
    · omega
  refine ⟨fun b => ?_, fun b h => ?_, fun b h => ?_, fun b h => ?_⟩
  · by_cases z : 1 ≤ r b
    · obtain ⟨_, y, _⟩ := alone b z
      have := w.lin b
      (try dsimp only at this ⊢)
      omega
    · have := w'.lin b
      show f' b + r b ≤ 1
      omega
  · by_cases z : 1 ≤ r b
    · obtain ⟨_, _, o, _, e, ow⟩ := alone b z
      exact ⟨o, e, ow⟩
    · exact w'.own b (by (try dsimp only at h); omega)
  · refine ⟨?_, (w'.fz b h).2⟩
    have h1 := (w'.fz b h).1
    by_cases z : 1 ≤ r b
    · obtain ⟨x, _, o, e, _⟩ := alone b z
      rcases a.fz b h with y | y | y
      · have := (w.fz b y).1
        (try dsimp only at this ⊢)
        omega
      · omega
      · rw [e] at y; cases y
    · show f' b + r b = 0; omega
  · refine ⟨?_, (w'.bz b h).2⟩
    have h1 := (w'.bz b h).1
    have h2 := (w.bz b h).1
    (try dsimp only at h2 ⊢)
    omega
/-- what is owned by others stays as it stands -/
theorem Rv.frame {p : Bool} {f f' r : Addr → Nat} {v : V} {d : D} (h : Rv K H Fz Bz v d r) (n : d.ntr = true ∨ p = true) (a : Stp p H Fz f H' Fz' f') (w : Wf H Fz Bz (fun b => f b + r b)) : Rv K H' Fz' Bz v d r := by
  rcases n with n | n
  · refine h.keep (fun b o e q => a.keep b o e (.inl ?_)) a.mono n fun b o e q => a.keep b o e (.inl ?_)
    · rcases q with q | q | q
      · have := (w.fz b q).1; (try dsimp only at this); omega
      · have := (w.bz b q).1; (try dsimp only at this); omega
      · by_cases z : 1 ≤ f b
        · obtain ⟨o', e', ow⟩ := w.own b (by show 1 ≤ f b + r b; omega)
          rw [e] at e'; cases e'
          exact absurd ow q
        · omega
    · have := w.lin b; (try dsimp only at this); omega
  · exact h.same (fun b o e => a.keep b o e (.inr n)) a.mono
theorem RvL.frame {p : Bool} {f f' r : Addr → Nat} {v : List V} {d : List D} (h : RvL K H Fz Bz v d r) (n : D.ntrL d = true ∨ p = true) (a : Stp p H Fz f H' Fz' f') (w : Wf H Fz Bz (fun b => f b + r b)) : RvL K H' Fz' Bz v d r := by
  rcases n with n | n
  · refine h.keep (fun b o e q => a.keep b o e (.inl ?_)) a.mono n fun b o e q => a.keep b o e (.inl ?_)
    · rcases q with q | q | q
      · have := (w.fz b q).1; (try dsimp only at this); omega
      · have := (w.bz b q).1; (try dsimp only at this); omega
      · by_cases z : 1 ≤ f b
        · obtain ⟨o', e', ow⟩ := w.own b (by show 1 ≤ f b + r b; omega)
          rw [e] at e'; cases e'
          exact absurd ow q
        · omega
    · have := w.lin b; (try dsimp only at this); omega
  · exact h.same (fun b o e => a.keep b o e (.inr n)) a.mono
theorem Re.frame {p : Bool} {f f' r : Addr → Nat} {s : St} {ρ : Env} (h : Re K H Fz Bz s ρ r) (a : Stp p H Fz f H' Fz' f') (w : Wf H Fz Bz (fun b => f b + r b)) : Re K H' Fz' Bz s ρ r := by
  refine h.keep (fun b o e q => a.keep b o e (.inl ?_)) a.mono fun b o e q => a.keep b o e (.inl ?_)
  · rcases q with q | q | q
    · have := (w.fz b q).1; (try dsimp only at this); omega
    · have := (w.bz b q).1; (try dsimp only at this); omega
    · by_cases z : 1 ≤ f b
      · obtain ⟨o', e', ow⟩ := w.own b (by show 1 ≤ f b + r b; omega)
        rw [e] at e'; cases e'
        exact absurd ow q
      · omega
  · have := w.lin b; (try dsimp only at this); omega
/-- a new object, owned -/
theorem Stp.new {p : Addr} {o : HO} {f : Addr → Nat} (hn : H p = none) : Stp true H Fz f (upd H p o) Fz (fun b => f b + if b = p then 1 else 0) where
  keep := fun b o' e _ => by rw [upd_ne (ne_of_none e hn)]; exact e
  there := fun b o' e => ⟨o', by rw [upd_ne (ne_of_none e hn)]; exact e⟩
  own := fun b h => by
    by_cases z : b = p
    · subst z; exact .inr hn
    · rw [if_neg z] at h; exact .inl (by omega)
  fz := fun _ h => .inl h
  mono := fun _ h => h
theorem Wf.new {p : Addr} {o : HO} {f : Addr → Nat} (w : Wf H Fz Bz f) (hn : H p = none) (ow : Ow o) : Wf (upd H p o) Fz Bz (fun b => f b + if b = p then 1 else 0) := by
  have z : f p = 0 := by
    by_cases h : 1 ≤ f p
    · obtain ⟨o', e, _⟩ := w.own p h; rw [hn] at e; cases e
    · omega
  refine ⟨fun b => ?_, fun b h => ?_, fun b h => ?_, fun b h => ?_⟩
  · by_cases e : b = p
    · subst e; simp [z]
    · simp [e]; exact w.lin b
  · by_cases e : b = p
    · subst e; exact ⟨o, upd_same, ow⟩
    · rw [upd_ne e]; exact w.own b (by simpa [e] using h)
  · obtain ⟨h1, o', h2⟩ := w.fz b h
    have e : b ≠ p := ne_of_none h2 hn
    exact ⟨by simp [e, h1], o', by rw [upd_ne e]; exact h2⟩
  · obtain ⟨h1, o', h2⟩ := w.bz b h
    have e : b ≠ p := ne_of_none h2 hn
    exact ⟨by simp [e, h1], o', by rw [upd_ne e]; exact h2⟩
/-- a new object, of those that never change -/
theorem Stp.lay {p : Addr} {o : HO} {f : Addr → Nat} (hn : H p = none) : Stp true H Fz f (upd H p o) Fz f where
  keep := fun b o' e _ => by rw [upd_ne (ne_of_none e hn)]; exact e
  there := fun b o' e => ⟨o', by rw [upd_ne (ne_of_none e hn)]; exact e⟩
  own := fun b h => .inl h
  fz := fun _ h => .inl h
  mono := fun _ h => h
theorem Wf.lay {p : Addr} {o : HO} {f : Addr → Nat} (w : Wf H Fz Bz f) (hn : H p = none) : Wf (upd H p o) Fz Bz f := by
  refine ⟨w.lin, fun b h => ?_, fun b h => ?_, fun b h => ?_⟩
  · obtain ⟨o', e, ow⟩ := w.own b h
    exact ⟨o', by rw [upd_ne (ne_of_none e hn)]; exact e, ow⟩
  · obtain ⟨h1, o', h2⟩ := w.fz b h
    exact ⟨h1, o', by rw [upd_ne (ne_of_none h2 hn)]; exact h2⟩
  · obtain ⟨h1, o', h2⟩ := w.bz b h
    exact ⟨h1, o', by rw [upd_ne (ne_of_none h2 hn)]; exact h2⟩
/-- what is owned is kept for ever -/
theorem Wf.freeze {f g : Addr → Nat} (w : Wf H Fz Bz (fun b => f b + g b)) : Wf H (fun b => Fz b ∨ 1 ≤ g b) Bz f := by
  refine ⟨fun b => ?_, fun b h => w.own b (by show 1 ≤ f b + g b; omega), fun b h => ?_, fun b h => ?_⟩
  · have := w.lin b; (try dsimp only at this); omega
  · rcases h with h | h
    · have := w.fz b h; (try dsimp only at this); exact ⟨by omega, this.2⟩
    · have := w.lin b; (try dsimp only at this)
      obtain ⟨o, e, _⟩ := w.own b (by show 1 ≤ f b + g b; omega)
      exact ⟨by omega, o, e⟩
  · have := w.bz b h; (try dsimp only at this); exact ⟨by omega, this.2⟩
theorem Stp.freeze {p : Bool} {f f' g : Addr → Nat} (a : Stp p H Fz f H' Fz' (fun b => f' b + g b)) : Stp p H Fz f H' (fun b => Fz' b ∨ 1 ≤ g b) f' where
  keep := a.keep
  there := a.there
  own := fun b h => a.own b (by show 1 ≤ f' b + g b; omega)
  fz := fun b h => by
    rcases h with h | h
    · exact a.fz b h
    · rcases a.own b (by show 1 ≤ f' b + g b; omega) with y | y
      · exact .inr (.inl y)
      · exact .inr (.inr y)
  mono := fun b h => .inl (a.mono b h)
theorem Rs.monoF {o : Option V} {d : D} {f : Addr → Nat} (h : Rs K H Fz Bz o d f) (m : ∀ b, Fz b → Fz' b) : Rs K H Fz' Bz o d f := h.keep (fun _ _ e _ => e) m fun _ _ e _ => e
theorem Re.monoF {s : St} {r : Env} {f : Addr → Nat} (h : Re K H Fz Bz s r f) (m : ∀ b, Fz b → Fz' b) : Re K H Fz' Bz s r f := h.keep (fun _ _ e _ => e) m fun _ _ e _ => e
/-- an owned list is changed -/
theorem Stp.write {a : Addr} {o o' : HO} {f f' : Addr → Nat} (he : H a = some o) (hf : 1 ≤ f a) (hf' : ∀ b, 1 ≤ f' b → 1 ≤ f b) : Stp false H Fz f (upd H a o') Fz f' where
  keep := fun b ob e h => by
    rcases h with h | h
    · have ne : b ≠ a := fun z => by subst z; omega
      rw [upd_ne ne]; exact e
    · cases h
  there := fun b ob e => by
    by_cases z : b = a
    · subst z; exact ⟨o', upd_same⟩
    · exact ⟨ob, by rw [upd_ne z]; exact e⟩
  own := fun b h => .inl (hf' b h)
  fz := fun _ h => .inl h
  mono := fun _ h => h
theorem Wf.write {a : Addr} {o' : HO} {f f' : Addr → Nat} (w : Wf H Fz Bz f) (hf : 1 ≤ f a) (ow : Ow o') (hf' : ∀ b, f' b ≤ f b) : Wf (upd H a o') Fz Bz f' := by
  refine ⟨fun b => Nat.le_trans (hf' b) (w.lin b), fun b h => ?_, fun b h => ?_, fun b h => ?_⟩
  · by_cases z : b = a
    · subst z; exact ⟨o', upd_same, ow⟩
    · rw [upd_ne z]; exact w.own b (Nat.le_trans h (hf' b))
  · have h1 := w.fz b h
    have ne : b ≠ a := fun z => by subst z; omega
    rw [upd_ne ne]
    exact ⟨by have := hf' b; omega, h1.2⟩
  · have h1 := w.bz b h
    have ne : b ≠ a := fun z => by subst z; omega
    rw [upd_ne ne]
    exact ⟨by have := hf' b; omega, h1.2⟩
end
end DE
end

section
set_option Elab.async false
set_option linter.all false
/-! DE4: what an operator makes. -/
namespace DE
open PySem PySem.Spec PyProof.Rows L2

/-- what an operation may make: a value that was there, a new thing that never changes, a new list -/
inductive Mk (K : PySem.W.Frag) (H : Hp) (S : Addr → Prop) : D → V → Hp → Prop
  | old {v : V} {p : PyData} : Rp K H S v p → Mk K H S (.dat p) v H
  | lay {v : V} {p : PyData} {q : Addr} {o : HO} : H q = none → ¬ Ow o → Rp K (upd H q o) S v p → Mk K H S (.dat p) v (upd H q o)
  | new {q : Addr} {vs : List V} {ds : List PyData} : H q = none → RpL K (upd H q (.lst vs)) S vs ds → Mk K H S (dl ds) (.ref q) (upd H q (.lst vs))

section
variable {K : PySem.W.Frag} {H H' : Hp} {S : Addr → Prop}
/-- data stay in a heap that grew by a new object -/
theorem Rp.up {v : V} {d : PyData} {q : Addr} {o : HO} (h : Rp K H S v d) (hn : H q = none) : Rp K (upd H q o) S v d := h.keep (fun b u e _ => by rw [upd_ne (ne_of_none e hn)]; exact e) fun _ z => z
theorem RpL.up {v : List V} {d : List PyData} {q : Addr} {o : HO} (h : RpL K H S v d) (hn : H q = none) : RpL K (upd H q o) S v d := h.keep (fun b u e _ => by rw [upd_ne (ne_of_none e hn)]; exact e) fun _ z => z
theorem Mk.tuple {q : Addr} {vs : List V} {ds : List PyData} (hn : H q = none) (h : RpL K H S vs ds) : Mk K H S (.dat (.tuple ds)) (.ref q) (upd H q (.tup vs)) :=
  .lay hn (fun z => z) (.tup (.inl (.inl upd_same)) (h.up hn))
theorem Mk.list {q : Addr} {vs : List V} {ds : List PyData} (hn : H q = none) (h : RpL K H S vs ds) : Mk K H S (dl ds) (.ref q) (upd H q (.lst vs)) := .new hn (h.up hn)
/-- by kind -/
theorem Rp.int_inv {v : V} {i : Int} (h : Rp K H S v (.int i)) : v = .int i := by cases h; rfl
theorem Rp.bool_inv {v : V} {i : Bool} (h : Rp K H S v (.bool i)) : v = .bl i := by cases h; rfl
theorem Rp.str_inv {v : V} {i : Str} (h : Rp K H S v (.str i)) : v = .str i := by cases h; rfl
theorem Rp.none_inv {v : V} (h : Rp K H S v .none) : v = .non := by cases h; rfl
theorem Rp.list_inv {v : V} {ds : List PyData} (h : Rp K H S v (.list ds)) : ∃ a vs, v = .ref a ∧ FzL K H S a vs ∧ RpL K H S vs ds := by cases h with | lst h r => exact ⟨_, _, rfl, h, r⟩
theorem Rp.tuple_inv {v : V} {ds : List PyData} (h : Rp K H S v (.tuple ds)) : ∃ a vs, v = .ref a ∧ SqT K H a vs ∧ RpL K H S vs ds := by cases h with | tup h r => exact ⟨_, _, rfl, h, r⟩
theorem Rp.dict_inv {v : V} {ds : List (PyData × PyData)} (h : Rp K H S v (.dict ds)) : False := by cases h
theorem fits_line {n : Nat} (h : fits n = true) : n ≤ sizeLine := by
  rw [sizeLine_eq]
  exact of_decide_eq_true h
theorem RpL.ints : ∀ {vs : List V} {ds : List PyData} {ns : List Int}, RpL K H S vs ds → intsL ds = some ns → vs = ns.map V.int
  | _, _, _, .nil, e => by simp only [intsL, Option.some.injEq] at e; subst e; rfl
  | _, _, _, .cons (d := d) (ds := ds) r t, e => by
    cases r with
    | int i =>
      simp only [intsL] at e
      obtain ⟨ms, e1, e2⟩ := Option.map_eq_some_iff.mp e
      subst e2
      rw [RpL.ints t e1]; rfl
    | _ => simp [intsL] at e
theorem RpL.bools : ∀ {vs : List V} {ds : List PyData} {ns : List Bool}, RpL K H S vs ds → boolsL ds = some ns → vs = ns.map V.bl
  | _, _, _, .nil, e => by simp only [boolsL, Option.some.injEq] at e; subst e; rfl
  | _, _, _, .cons (d := d) (ds := ds) r t, e => by
    cases r with
    | bl i =>
      simp only [boolsL] at e
      obtain ⟨ms, e1, e2⟩ := Option.map_eq_some_iff.mp e
      subst e2
      rw [RpL.bools t e1]; rfl
    | _ => simp [boolsL] at e
end

section
variable {X : Cx}
theorem Inv.rdL {pins : List (Addr × Obj)} {σ : L2.St} {H : Hp} {s : Shared} {S : Addr → Prop} {a : Addr} {xs : List V} (I : Inv X pins σ H s) (h : FzL X.K H S a xs) :
    xs.length ≤ sizeLine ∧ ∃ (its : List Value) (n : Nat), Vals xs its ∧ s.heap.get? a = some { cls := .type "list", data := .seq its.toArray n } := by
  have old : ∀ h : Rd H a (.lst xs), xs.length ≤ sizeLine ∧ ∃ (its : List Value) (n : Nat), Vals xs its ∧ s.heap.get? a = some { cls := .type "list", data := .seq its.toArray n } := fun h => h.ok I.hok
  rcases h with h | h | ⟨its, n, h1, h2, h3⟩
  · exact old (.inl h.1)
  · exact old (.inr h)
  · have l : xs.length = its.size := by rw [h3.length, Array.length_toList]
    exact ⟨by omega, its.toList, n, h3, by rw [Array.toArray_toList]; exact I.kIn a _ h1⟩
/-- what an operator by two values asks, in data -/
def rBin (K : PySem.W.Frag) (o : Operator) : R2 := fun x y H Q => ∃ (S : Addr → Prop) (p q : PyData) (d : D), Rp K H S x p ∧ Rp K H S y q ∧ binD o p q = some d ∧ ∀ v H', Mk K H S d v H' → Q v H'

theorem op_fdivZ : OpR X (binaryOp .FloorDiv) (rI (fun _ j => divOk j = true) fun i j => .int (i.fdiv j)) := opI fun _ j _ _ _ _ _ hc q => by
  have h : j ≠ 0 ∧ j.natAbs.log2 < 9000 := by
    unfold divOk at hc
    rw [Bool.and_eq_true] at hc
    exact ⟨of_decide_eq_true hc.1, of_decide_eq_true hc.2⟩
  exact floordiv_int h.1 q (.inl (PyProof.noPylong_of_log2 h.2))
/-- two lists, one behind the other -/
def rCatR (K : PySem.W.Frag) : R2 := fun x y H Q => ∃ (S S' : Addr → Prop) (l b : Addr) (xs zs : List V), x = .ref l ∧ y = .ref b ∧ FzL K H S l xs ∧ FzL K H S' b zs ∧ xs.length + zs.length ≤ sizeLine ∧ ∀ p, H p = none → Q (.ref p) (upd H p (.lst (xs ++ zs)))
theorem op_catR : OpR X (binaryOp .Add) (rCatR X.K) := by
  intro pins s σ H x y v u Q I rx ry ⟨S, S', l, b, xs, zs, ex, ey, hl, hb, hz, q⟩
  subst ex ey
  cases rx
  cases ry
  obtain ⟨_, i1, n1, v1, g1⟩ := Inv.rdL I hl
  obtain ⟨_, i2, n2, v2, g2⟩ := Inv.rdL I hb
  have len1 := v1.length
  have len2 := v2.length
  refine PySem.P.add_list g1 g2 ?_ (by simp only [List.size_toArray]; omega)
  have both : i1.toArray ++ i2.toArray = (i1 ++ i2).toArray := by simp
  rw [both]
  exact ⟨.ref _, _, I.lnew (t' := s.toks) (v1.append v2) (by simp only [List.length_append]; omega), rfl, q _ I.fresh⟩
theorem mulOk_W {i j : Int} (h : mulOk i j = true) : CMulW i j := by
  unfold mulOk at h
  exact (of_decide_eq_true h : _ < _)
/-- a list so many times -/
def rRepR (K : PySem.W.Frag) : R2 := fun x y H Q => ∃ (S : Addr → Prop) (l : Addr) (k : Int) (xs : List V), x = .ref l ∧ y = .int k ∧ FzL K H S l xs ∧ -(2 ^ 63) ≤ k ∧ k < 2 ^ 63 ∧ xs.length * k.toNat ≤ sizeLine ∧
  ∀ p, H p = none → Q (.ref p) (upd H p (.lst (List.replicate k.toNat xs).flatten))
theorem op_repR : OpR X (binaryOp .Mult) (rRepR X.K) := by
  intro pins s σ H x y v u Q I rx ry ⟨S, l, k, xs, ex, ey, hl, lo, hi, hz, q⟩
  subst ex ey
  cases rx
  obtain ⟨tk, rfl⟩ := ry
  obtain ⟨_, its, n, vals, g⟩ := Inv.rdL I hl
  have len := vals.length
  have small : its.toArray.size * k.toNat ≤ sizeLine := by rw [List.size_toArray, ← len]; exact hz
  have capped : ¬ its.toArray.size * k.toNat > (2 ^ 63 - 1) / 8 := by
    have z : (sizeLine : Nat) ≤ (2 ^ 63 - 1) / 8 := by decide
    omega
  have fit : ¬ (!Builtin.List.listFitsIndex k) = true := by rw [fitsIndex_both lo hi]; decide
  have short : ¬ Builtin.List.listTooLong (its.toArray.size * k.toNat) = true := by rw [notLongL small]; decide
  have made : List.foldl (fun a b => a ++ b) #[] (List.replicate (if its.toArray.isEmpty = true then 0 else k.toNat) its.toArray) = (List.replicate k.toNat its).flatten.toArray := by
    have each : ∀ m : Nat, List.foldl (fun a b => a ++ b) #[] (List.replicate m its.toArray) = (List.replicate m its).flatten.toArray := fun m => by simpa using foldl_rep its m []
    rw [each]
    cases its with
    | nil => simp
    | cons a r => rw [if_neg (by simp)]
  refine wpAny_binaryOp_repeat_ref (T := "list") (U := "int") (by decide) ⟨_, g, rfl⟩ (fun z => typeIs_int z k tk) noFill_list_mul F.fills_int_mul F.slot_int_rmul repeat_list F.slot_int_index.lookup ?_
  refine call_meets F.slot_int_rmul (typeIs_int s k tk) F.entry_int_rmul (F.args_int_rmul_2 _ _) (int___rmul___int_list k tk l its.toArray n) ⟨g, rfl, ⟨_, g, rfl⟩, ?_⟩
  refine call_meets F.slot_list_mul ⟨_, g, rfl⟩ F.entry_list_mul (F.args_list_mul_2 _ _) (AutoListH.list___mul___list_int_3 l its.toArray n k tk fit capped short) ⟨g, ?_⟩
  rw [made]
  exact ⟨.ref _, _, I.lnew (t' := s.toks) (vals.rep k.toNat) (by rw [PyProof.Rows.lm_len_rep_flat, Nat.mul_comm]; exact hz), rfl, q _ I.fresh⟩
theorem op_bin (o : Operator) : OpR X (binaryOp o) (rBin X.K o) := by
  intro pins s σ H x y v u Q I rx ry ⟨S, p, q, d, hp, hq, hd, hQ⟩
  unfold binD at hd
  split at hd
  · -- ints
    cases hd
    have e1 := hp.int_inv; have e2 := hq.int_inv; subst e1 e2
    exact op_add pins s σ H _ _ v u Q I rx ry ⟨_, _, rfl, rfl, hQ _ _ (.old (.int _))⟩
  · split at hd
    · rename_i hf
      cases hd
      have e1 := hp.str_inv; have e2 := hq.str_inv; subst e1 e2
      exact op_add_str pins s σ H _ _ v u Q I rx ry ⟨_, _, rfl, rfl, fits_line hf, hQ _ _ (.old (.str _))⟩
    · cases hd
  · split at hd
    · rename_i hf
      cases hd
      obtain ⟨a, xs, rfl, ha, ra⟩ := hp.tuple_inv
      obtain ⟨b, ys, rfl, hb, rb⟩ := hq.tuple_inv
      have hz := fits_line hf
      rw [← ra.length, ← rb.length] at hz
      refine op_catA pins s σ H _ _ v u Q I rx ry ⟨a, b, xs, ys, rfl, rfl, ha, hb, hz, fun e => ?_, fun _ e => ?_, fun _ _ r hr => ?_⟩
      · subst e; cases ra; exact hQ _ _ (.old (.tup hb rb))
      · subst e; cases rb
        refine hQ _ _ (.old ?_)
        rw [List.append_nil]; exact .tup ha ra
      · exact hQ _ _ (Mk.tuple hr (ra.append rb))
    · cases hd
  · split at hd
    · rename_i hf
      cases hd
      obtain ⟨a, xs, rfl, ha, ra⟩ := hp.list_inv
      obtain ⟨b, ys, rfl, hb, rb⟩ := hq.list_inv
      have hz := fits_line hf
      rw [← ra.length, ← rb.length] at hz
      exact op_catR pins s σ H _ _ v u Q I rx ry ⟨_, _, a, b, xs, ys, rfl, rfl, ha, hb, hz, fun r hr => hQ _ _ (Mk.list hr (ra.append rb))⟩
    · cases hd
  · cases hd
    have e1 := hp.int_inv; have e2 := hq.int_inv; subst e1 e2
    exact op_sub pins s σ H _ _ v u Q I rx ry ⟨_, _, rfl, rfl, hQ _ _ (.old (.int _))⟩
  · split at hd
    · rename_i hf
      cases hd
      have e1 := hp.int_inv; have e2 := hq.int_inv; subst e1 e2
      exact op_mulW pins s σ H _ _ v u Q I rx ry ⟨_, _, rfl, rfl, mulOk_W hf, hQ _ _ (.old (.int _))⟩
    · cases hd
  · split at hd
    · rename_i hf
      cases hd
      rw [Bool.and_eq_true, Bool.and_eq_true] at hf
      obtain ⟨a, xs, rfl, ha, ra⟩ := hp.list_inv
      have e2 := hq.int_inv; subst e2
      have hz := fits_line hf.2
      rw [← ra.length] at hz
      exact op_repR pins s σ H _ _ v u Q I rx ry ⟨_, a, _, xs, rfl, rfl, ha, of_decide_eq_true hf.1.1, of_decide_eq_true hf.1.2, hz, fun r hr => hQ _ _ (Mk.list hr (ra.replicate _))⟩
    · cases hd
  · split at hd
    · rename_i hf
      cases hd
      have e1 := hp.int_inv; have e2 := hq.int_inv; subst e1 e2
      exact op_fdivZ pins s σ H _ _ v u Q I rx ry ⟨_, _, rfl, rfl, hf, hQ _ _ (.old (.int _))⟩
    · cases hd
  · split at hd
    · rename_i hf
      cases hd
      have e1 := hp.int_inv; have e2 := hq.int_inv; subst e1 e2
      exact op_modN pins s σ H _ _ v u Q I rx ry ⟨_, _, rfl, rfl, of_decide_eq_true hf, hQ _ _ (.old (.int _))⟩
    · cases hd
  · split at hd
    · rename_i hf
      cases hd
      rw [Bool.and_eq_true, Bool.and_eq_true] at hf
      have e1 := hp.int_inv; have e2 := hq.int_inv; subst e1 e2
      exact op_pow pins s σ H _ _ v u Q I rx ry ⟨_, _, rfl, rfl, ⟨of_decide_eq_true hf.1.1, of_decide_eq_true hf.1.2, of_decide_eq_true hf.2⟩, hQ _ _ (.old (.int _))⟩
    · cases hd
  · cases hd
end
end DE
end

section
set_option Elab.async false
set_option linter.all false
/-! DE5: comparisons, items, slices, built-in functions by values. -/
namespace DE
open PySem PySem.Spec PyProof.Rows L2

section
variable {K : PySem.W.Frag} {H H' : Hp} {S : Addr → Prop}
theorem any_eqv (ds : List PyData) (x : PyData) : (ds.any fun z => PyData.eqv z x) = ds.any fun z => PyData.eqv z x := rfl
end

section
variable {X : Cx}
/-- a comparison by two values, in data -/
def rCmp (K : PySem.W.Frag) (o : CmpOp) : R2 := fun x y H Q => ∃ (S S' : Addr → Prop) (p q : PyData) (k : Bool), Rp K H S x p ∧ Rp K H S' y q ∧ cmpD o p q = some k ∧ Q (.bl k) H
theorem op_cmp (o : CmpOp) (hu : X.A.units + 65 < cLine) : OpR X (compareOp o) (rCmp X.K o) := by
  intro pins s σ H x y v u Q I rx ry ⟨S, S', p, q, k, hp, hq, hk, hQ⟩
  unfold cmpD at hk
  split at hk
  · split at hk
    · rename_i hs
      cases hk
      rw [Bool.and_eq_true] at hs
      exact op_eqD (by omega) pins s σ H x y v u Q I rx ry ⟨_, _, hp.dp, hq.dp, hs.1, hs.2, hQ⟩
    · cases hk
  · split at hk
    · rename_i hs
      cases hk
      rw [Bool.and_eq_true] at hs
      exact op_neD (by omega) pins s σ H x y v u Q I rx ry ⟨_, _, hp.dp, hq.dp, hs.1, hs.2, hQ⟩
    · cases hk
  · cases hk
    have e1 := hp.int_inv; have e2 := hq.int_inv; subst e1 e2
    exact op_lt pins s σ H _ _ v u Q I rx ry ⟨_, _, rfl, rfl, hQ⟩
  · cases hk
    have e1 := hp.int_inv; have e2 := hq.int_inv; subst e1 e2
    exact op_le pins s σ H _ _ v u Q I rx ry ⟨_, _, rfl, rfl, hQ⟩
  · cases hk
    have e1 := hp.int_inv; have e2 := hq.int_inv; subst e1 e2
    exact op_gt pins s σ H _ _ v u Q I rx ry ⟨_, _, rfl, rfl, hQ⟩
  · cases hk
    have e1 := hp.int_inv; have e2 := hq.int_inv; subst e1 e2
    exact op_ge pins s σ H _ _ v u Q I rx ry ⟨_, _, rfl, rfl, hQ⟩
  · unfold inD at hk
    split at hk
    · rename_i hs
      cases hk
      rw [Bool.and_eq_true] at hs
      exact op_inD hu pins s σ H x y v u Q I rx ry ⟨_, _, hp.dp, hq.dp, hs.1, hs.2, hQ⟩
    · cases hk
  · unfold inD at hk
    split at hk
    · rename_i hs
      cases hk
      rw [Bool.and_eq_true] at hs
      exact op_notInD hu pins s σ H x y v u Q I rx ry ⟨_, _, hp.dp, hq.dp, hs.1, hs.2, hQ⟩
    · cases hk
  · cases hk
    have e1 := hp.bool_inv; have e2 := hq.bool_inv; subst e1 e2
    exact op_is_bl pins s σ H _ _ v u Q I rx ry ⟨_, _, rfl, rfl, hQ⟩
  · cases hk
    have e1 := hp.bool_inv; have e2 := hq.bool_inv; subst e1 e2
    exact op_isnot_bl pins s σ H _ _ v u Q I rx ry ⟨_, _, rfl, rfl, hQ⟩
  · cases hk

/-- an item, in data -/
def rIxP (K : PySem.W.Frag) : R2 := fun x y H Q => ∃ (S : Addr → Prop) (p q : PyData) (i : Int), y = .int i ∧ Rp K H S x p ∧ ixD p i = some q ∧ ∀ v, Rp K H S v q → Q v H
theorem ix_data : IxR X (rIxP X.K) := by
  intro ve se pins s σ H x y v u Q I rx ry ⟨S, p, q, i, ey, hp, hi, hQ⟩ plain
  subst ey
  cases p with
  | list ds =>
    obtain ⟨a, vs, rfl, ha, ra⟩ := hp.list_inv
    obtain ⟨w, hw, rw'⟩ := ra.atI (d := q) hi
    exact ix_list ve se pins s σ H _ _ v u Q I rx ry ⟨a, vs, i, w, rfl, rfl, ha.seq, hw, hQ w rw'⟩ plain
  | tuple ds =>
    obtain ⟨a, vs, rfl, ha, ra⟩ := hp.tuple_inv
    obtain ⟨w, hw, rw'⟩ := ra.atI (d := q) hi
    exact ix_tup ve se pins s σ H _ _ v u Q I rx ry ⟨a, vs, i, w, rfl, rfl, ha, hw, hQ w rw'⟩ plain
  | str z =>
    have e1 := hp.str_inv
    subst e1
    unfold ixD at hi
    dsimp only at hi
    split at hi
    · rename_i hf
      obtain ⟨c, hc, rfl⟩ := Option.map_eq_some_iff.mp hi
      exact ix_str ve se pins s σ H _ _ v u Q I rx ry ⟨z, i, c, rfl, rfl, fits_line hf, hc, hQ _ (.str _)⟩ plain
    · cases hi
  | _ => simp [ixD] at hi
/-- an item of a list that is owned -/
def rIxO : R2 := fun x y H Q => ∃ (a : Addr) (vs : List V) (i : Int) (w : V), x = .ref a ∧ y = .int i ∧ H a = some (.lst vs) ∧ L2.atI vs i = some w ∧ Q w H
theorem ix_own : IxR X rIxO := by
  intro ve se pins s σ H x y v u Q I rx ry ⟨a, vs, i, w, ex, ey, ha, hw, hQ⟩ plain
  exact ix_list ve se pins s σ H x y v u Q I rx ry ⟨a, vs, i, w, ex, ey, SqL.of ha, hw, hQ⟩ plain

/-- a slice, in data -/
def rSlP (K : PySem.W.Frag) : V → Option Int → Option Int → Hp → VK → Prop := fun x lo hi H Q => ∃ (S : Addr → Prop) (p : PyData) (d : D), Rp K H S x p ∧ slV (.dat p) lo hi = some d ∧ ∀ v H', Mk K H S d v H' → Q v H'
theorem sl_data : SlR X (rSlP X.K) := by
  intro pins s σ H x v vl vu lo hi sl Q I rx hs pl pu ⟨S, p, d, hp, hd, hQ⟩
  unfold slV at hd
  simp only [D.fz] at hd
  split at hd
  · rename_i ds e
    cases hd
    cases e
    obtain ⟨a, vs, rfl, ha, ra⟩ := hp.list_inv
    exact sl_list pins s σ H _ v vl vu lo hi sl Q I rx hs pl pu ⟨a, vs, rfl, ha.seq, fun r hr => hQ _ _ (Mk.list hr (ra.cut lo hi))⟩
  · rename_i ds e
    cases hd
    cases e
    obtain ⟨a, vs, rfl, ha, ra⟩ := hp.tuple_inv
    refine sl_tupA pins s σ H _ v vl vu lo hi sl Q I rx hs pl pu ⟨a, vs, rfl, ha, fun w => ?_, fun _ r hr => hQ _ _ (Mk.tuple hr (ra.cut lo hi))⟩
    have e : cutL ds lo hi = ds := by
      unfold cutL
      rw [← ra.length, w.1, w.2, List.drop_zero, Nat.sub_zero, ra.length, List.take_length]
    refine hQ _ _ (.old ?_)
    rw [e]
    exact .tup ha ra
  · cases hd

/-! built-in functions -/
theorem maxL_mem : ∀ {ns : List Int} {m : Int}, maxL ns = some m → m ∈ ns ∧ ∀ y ∈ ns, y ≤ m
  | [], _, h => by simp [maxL] at h
  | [a], m, h => by
    simp only [maxL, Option.some.injEq] at h
    subst h
    simp
  | a :: b :: r, m, h => by
    simp only [maxL] at h
    obtain ⟨c, h1, h2⟩ := Option.map_eq_some_iff.mp h
    obtain ⟨k1, k2⟩ := maxL_mem (ns := b :: r) (m := c) (by simpa only [maxL] using h1)
    split at h2
    · subst h2
      refine ⟨List.mem_cons_of_mem _ k1, fun y hy => ?_⟩
      rcases List.mem_cons.mp hy with e | hy
      · omega
      · exact k2 y hy
    · subst h2
      refine ⟨List.mem_cons_self, fun y hy => ?_⟩
      rcases List.mem_cons.mp hy with e | hy
      · omega
      · have := k2 y hy; omega
theorem minL_mem : ∀ {ns : List Int} {m : Int}, minL ns = some m → m ∈ ns ∧ ∀ y ∈ ns, m ≤ y
  | [], _, h => by simp [minL] at h
  | [a], m, h => by
    simp only [minL, Option.some.injEq] at h
    subst h
    simp
  | a :: b :: r, m, h => by
    simp only [minL] at h
    obtain ⟨c, h1, h2⟩ := Option.map_eq_some_iff.mp h
    obtain ⟨k1, k2⟩ := minL_mem (ns := b :: r) (m := c) (by simpa only [minL] using h1)
    split at h2
    · subst h2
      refine ⟨List.mem_cons_of_mem _ k1, fun y hy => ?_⟩
      rcases List.mem_cons.mp hy with e | hy
      · omega
      · exact k2 y hy
    · subst h2
      refine ⟨List.mem_cons_self, fun y hy => ?_⟩
      rcases List.mem_cons.mp hy with e | hy
      · omega
      · have := k2 y hy; omega
theorem RpL.one {K : PySem.W.Frag} {H : Hp} {S : Addr → Prop} {vs : List V} {p : PyData} (h : RpL K H S vs [p]) : ∃ v, vs = [v] ∧ Rp K H S v p := by
  cases h with | cons r t => cases t; exact ⟨_, rfl, r⟩
theorem RpL.two {K : PySem.W.Frag} {H : Hp} {S : Addr → Prop} {vs : List V} {p q : PyData} (h : RpL K H S vs [p, q]) : ∃ v w, vs = [v, w] ∧ Rp K H S v p ∧ Rp K H S w q := by
  cases h with | cons r t => cases t with | cons r' t' => cases t'; exact ⟨_, _, rfl, r, r'⟩
/-- repr of data -/
theorem repr_data {pins : List (Addr × Obj)} {s : Shared} {σ : L2.St} {H : Hp} {S : Addr → Prop} {v : V} {u : Value} {d : PyData} {Q : VK} (I : Inv X pins σ H s) (hp : Rp X.K H S v d) (r : RelV v u) (hs : d.showable = true) (hnd : d.hasDict = false)
    (hg : X.A.guards = some []) (hu : X.A.units + (d.depth + 1) < cLine) (hz : d.shown.length ≤ sizeLine) (hQ : Q (.str d.shown) H) : wpAny (model X.prog X.w) X.A (call (.builtin "repr") [u]) (EP X pins σ Q) X.xe s := by
  cases d with
  | none =>
    cases hp.none_inv
    cases r
    exact PySem.P.repr_of_none ⟨.str "None", H, I.tok _, ⟨_, rfl⟩, hQ⟩
  | bool b =>
    cases hp.bool_inv
    cases r
    exact PySem.P.repr_of_bool ⟨.str (if b then "True" else "False"), H, I.tok _, ⟨_, by cases b <;> rfl⟩, by cases b <;> exact hQ⟩
  | int i =>
    cases hp.int_inv
    obtain ⟨t, rfl⟩ := r
    have hi : i.natAbs.log2 < 1920 := by simpa [PyData.showable] using hs
    exact PySem.P.repr_of_int hi ⟨.str (toString i), H, I.tok _, ⟨_, rfl⟩, hQ⟩
  | str z =>
    cases hp.str_inv
    obtain ⟨t, rfl⟩ := r
    exact PySem.P.repr_of_str ⟨.str (reprText z), H, I.tok _, ⟨_, rfl⟩, hQ⟩ hz
  | list ds =>
    obtain ⟨a, vs, rfl, _, _⟩ := hp.list_inv
    obtain ⟨as, rd⟩ := Dp.reads I _ _ u hp.dp r
    cases r
    exact repr_of_reads' rd hs (fun h => by rw [hnd] at h; cases h) hg hu (fun _ _ e => e) (fun h' t tk k => ⟨.str _, H, I.kept k, ⟨_, rfl⟩, hQ⟩) hz
  | tuple ds =>
    obtain ⟨a, vs, rfl, _, _⟩ := hp.tuple_inv
    obtain ⟨as, rd⟩ := Dp.reads I _ _ u hp.dp r
    cases r
    exact repr_of_reads' rd hs (fun h => by rw [hnd] at h; cases h) hg hu (fun _ _ e => e) (fun h' t tk k => ⟨.str _, H, I.kept k, ⟨_, rfl⟩, hQ⟩) hz
  | dict ds => exact hp.dict_inv.elim
end
end DE
end

section
set_option Elab.async false
set_option linter.all false
/-! DE6: built-in functions and types by values. -/
namespace DE
open PySem PySem.Spec PyProof.Rows L2
section
variable {X : Cx}
/-- a built-in function that reads data -/
def rBiV (K : PySem.W.Frag) (f : List PyData → Option PyData) : List V → Hp → VK → Prop := fun xs H Q => ∃ (S : Addr → Prop) (ps : List PyData) (d : PyData), RpL K H S xs ps ∧ f ps = some d ∧ ∀ v S', Rp K H S' v d → Q v H
/-- one that makes a thing of them -/
def rBiF (K : PySem.W.Frag) (f : List PyData → Option D) : List V → Hp → VK → Prop := fun xs H Q => ∃ (S : Addr → Prop) (ps : List PyData) (d : D), RpL K H S xs ps ∧ f ps = some d ∧ ∀ v H', Mk K H S d v H' → Q v H'
theorem cb_len : CallR X (.builtin "len") (rBiV X.K lenD) := by
  intro pins s σ H xs us Q I r ⟨S, ps, d, hp, hd, hQ⟩
  unfold lenD at hd
  split at hd
  · cases hd
    obtain ⟨v, rfl, rv⟩ := hp.one
    obtain ⟨a, vs, rfl, ha, ra⟩ := rv.list_inv
    rw [← ra.length] at hQ
    exact call_len pins s σ H _ us Q I r ⟨_, vs.length, rfl, .inl ⟨vs, ha.seq, rfl⟩, hQ _ S (.int _)⟩
  · cases hd
    obtain ⟨v, rfl, rv⟩ := hp.one
    obtain ⟨a, vs, rfl, ha, ra⟩ := rv.tuple_inv
    rw [← ra.length] at hQ
    exact call_len pins s σ H _ us Q I r ⟨_, vs.length, rfl, .inr ⟨vs, ha, rfl⟩, hQ _ S (.int _)⟩
  · split at hd
    · rename_i hf
      cases hd
      obtain ⟨v, rfl, rv⟩ := hp.one
      have e := rv.str_inv
      subst e
      exact call_len pins s σ H _ us Q I r ⟨_, _, rfl, ⟨fits_line hf, rfl⟩, hQ _ S (.int _)⟩
    · cases hd
  · cases hd
theorem cb_sum (hc : X.calm = true) : CallR X (.builtin "sum") (rBiV X.K sumD) := by
  intro pins s σ H xs us Q I r ⟨S, ps, d, hp, hd, hQ⟩
  unfold sumD at hd
  split at hd
  · obtain ⟨ns, e1, e2⟩ := Option.map_eq_some_iff.mp hd
    subst e2
    obtain ⟨v, rfl, rv⟩ := hp.one
    obtain ⟨a, vs, rfl, ha, ra⟩ := rv.list_inv
    have e := ra.ints e1
    subst e
    exact cr_sum hc pins s σ H _ us Q I r ⟨a, ns, rfl, ha.seq, hQ _ S (.int _)⟩
  · cases hd
theorem cb_max (hc : X.calm = true) : CallR X (.builtin "max") (rBiV X.K maxD) := by
  intro pins s σ H xs us Q I r ⟨S, ps, d, hp, hd, hQ⟩
  unfold maxD at hd
  split at hd
  · obtain ⟨ns, e1, e2⟩ := Option.bind_eq_some_iff.mp hd
    obtain ⟨m, e3, e4⟩ := Option.map_eq_some_iff.mp e2
    subst e4
    obtain ⟨v, rfl, rv⟩ := hp.one
    obtain ⟨a, vs, rfl, ha, ra⟩ := rv.list_inv
    have e := ra.ints e1
    subst e
    obtain ⟨k1, k2⟩ := maxL_mem e3
    refine cr_max hc pins s σ H _ us Q I r ⟨a, ns, rfl, ha.seq, List.length_pos_of_mem k1, fun m' h1 h2 => ?_⟩
    have e : m' = m := by have := k2 m' h1; have := h2 m k1; omega
    subst e
    exact hQ _ S (.int _)
  · cases hd
    obtain ⟨v, w, rfl, rv, rw'⟩ := hp.two
    have e1 := rv.int_inv; have e2 := rw'.int_inv; subst e1 e2
    exact call_max2 hc pins s σ H _ us Q I r ⟨_, _, rfl, hQ _ S (.int _)⟩
  · cases hd
theorem cb_min (hc : X.calm = true) : CallR X (.builtin "min") (rBiV X.K minD) := by
  intro pins s σ H xs us Q I r ⟨S, ps, d, hp, hd, hQ⟩
  unfold minD at hd
  split at hd
  · obtain ⟨ns, e1, e2⟩ := Option.bind_eq_some_iff.mp hd
    obtain ⟨m, e3, e4⟩ := Option.map_eq_some_iff.mp e2
    subst e4
    obtain ⟨v, rfl, rv⟩ := hp.one
    obtain ⟨a, vs, rfl, ha, ra⟩ := rv.list_inv
    have e := ra.ints e1
    subst e
    obtain ⟨k1, k2⟩ := minL_mem e3
    refine cr_min hc pins s σ H _ us Q I r ⟨a, ns, rfl, ha.seq, List.length_pos_of_mem k1, fun m' h1 h2 => ?_⟩
    have e : m' = m := by have := k2 m' h1; have := h2 m k1; omega
    subst e
    exact hQ _ S (.int _)
  · cases hd
    obtain ⟨v, w, rfl, rv, rw'⟩ := hp.two
    have e1 := rv.int_inv; have e2 := rw'.int_inv; subst e1 e2
    exact call_min2 hc pins s σ H _ us Q I r ⟨_, _, rfl, hQ _ S (.int _)⟩
  · cases hd
theorem cb_abs : CallR X (.builtin "abs") (rBiV X.K absD) := by
  intro pins s σ H xs us Q I r ⟨S, ps, d, hp, hd, hQ⟩
  unfold absD at hd
  split at hd
  · cases hd
    obtain ⟨v, rfl, rv⟩ := hp.one
    have e := rv.int_inv; subst e
    exact call_abs pins s σ H _ us Q I r ⟨_, rfl, hQ _ S (.int _)⟩
  · cases hd
theorem cb_int : CallR X (.type "int") (rBiV X.K intD) := by
  intro pins s σ H xs us Q I r ⟨S, ps, d, hp, hd, hQ⟩
  unfold intD at hd
  split at hd
  · cases hd
    obtain ⟨v, rfl, rv⟩ := hp.one
    have e := rv.int_inv; subst e
    exact call_int1 pins s σ H _ us Q I r (.inl ⟨_, rfl, hQ _ S (.int _)⟩)
  · cases hd
    obtain ⟨v, rfl, rv⟩ := hp.one
    have e := rv.bool_inv; subst e
    exact call_int1 pins s σ H _ us Q I r (.inr ⟨_, rfl, hQ _ S (.int _)⟩)
  · cases hd
theorem cb_str : CallR X (.type "str") (rBiV X.K strD) := by
  intro pins s σ H xs us Q I r ⟨S, ps, d, hp, hd, hQ⟩
  unfold strD at hd
  split at hd
  · split at hd
    · rename_i hf
      cases hd
      obtain ⟨v, rfl, rv⟩ := hp.one
      have e := rv.int_inv; subst e
      exact call_str_int pins s σ H _ us Q I r ⟨_, rfl, of_decide_eq_true hf, hQ _ S (.str _)⟩
    · cases hd
  · cases hd
theorem cb_all (hc : X.calm = true) : CallR X (.builtin "all") (rBiV X.K allD) := by
  intro pins s σ H xs us Q I r ⟨S, ps, d, hp, hd, hQ⟩
  unfold allD at hd
  split at hd
  · obtain ⟨ns, e1, e2⟩ := Option.map_eq_some_iff.mp hd
    subst e2
    obtain ⟨v, rfl, rv⟩ := hp.one
    obtain ⟨a, vs, rfl, ha, ra⟩ := rv.list_inv
    have e := ra.bools e1
    subst e
    exact cr_all hc pins s σ H _ us Q I r ⟨a, ns, rfl, ha.seq, hQ _ S (.bl _)⟩
  · cases hd
theorem cb_any (hc : X.calm = true) : CallR X (.builtin "any") (rBiV X.K anyD) := by
  intro pins s σ H xs us Q I r ⟨S, ps, d, hp, hd, hQ⟩
  unfold anyD at hd
  split at hd
  · obtain ⟨ns, e1, e2⟩ := Option.map_eq_some_iff.mp hd
    subst e2
    obtain ⟨v, rfl, rv⟩ := hp.one
    obtain ⟨a, vs, rfl, ha, ra⟩ := rv.list_inv
    have e := ra.bools e1
    subst e
    exact cr_any hc pins s σ H _ us Q I r ⟨a, ns, rfl, ha.seq, hQ _ S (.bl _)⟩
  · cases hd
theorem cb_repr (hg : X.A.guards = some []) (hu : X.A.units + 65 < cLine) : CallR X (.builtin "repr") (rBiV X.K reprD) := by
  intro pins s σ H xs us Q I r ⟨S, ps, d, hp, hd, hQ⟩
  unfold reprD at hd
  split at hd
  · split at hd
    · rename_i hf
      cases hd
      obtain ⟨v, rfl, rv⟩ := hp.one
      obtain ⟨u, rfl, ru⟩ := vals1 r
      simp only [Bool.and_eq_true, Bool.not_eq_true'] at hf
      have hdp := of_decide_eq_true hf.1.2
      exact repr_data I rv ru hf.1.1.1 hf.1.1.2 hg (by omega) (fits_line hf.2) (hQ _ S (.str _))
    · cases hd
  · cases hd
theorem cb_list : CallR X (.type "list") (rBiF X.K listD) := by
  intro pins s σ H xs us Q I r ⟨S, ps, d, hp, hd, hQ⟩
  unfold listD at hd
  split at hd
  · cases hd
    obtain ⟨v, rfl, rv⟩ := hp.one
    obtain ⟨a, vs, rfl, ha, ra⟩ := rv.list_inv
    exact call_list_of pins s σ H _ us Q I r ⟨a, vs, rfl, .inl ha.seq, fun l hl => hQ _ _ (Mk.list hl ra)⟩
  · cases hd
    obtain ⟨v, rfl, rv⟩ := hp.one
    obtain ⟨a, vs, rfl, ha, ra⟩ := rv.tuple_inv
    exact call_list_of pins s σ H _ us Q I r ⟨a, vs, rfl, .inr ha, fun l hl => hQ _ _ (Mk.list hl ra)⟩
  · cases hd
theorem cb_tuple : CallR X (.type "tuple") (rBiF X.K tupleD) := by
  intro pins s σ H xs us Q I r ⟨S, ps, d, hp, hd, hQ⟩
  unfold tupleD at hd
  split at hd
  · cases hd
    obtain ⟨v, rfl, rv⟩ := hp.one
    obtain ⟨a, vs, rfl, ha, ra⟩ := rv.list_inv
    exact call_tuple_of pins s σ H _ us Q I r ⟨a, vs, rfl, .inl ⟨ha.seq, fun l hl => hQ _ _ (Mk.tuple hl ra)⟩⟩
  · cases hd
    obtain ⟨v, rfl, rv⟩ := hp.one
    obtain ⟨a, vs, rfl, ha, ra⟩ := rv.tuple_inv
    exact call_tuple_of pins s σ H _ us Q I r ⟨a, vs, rfl, .inr ⟨ha, hQ _ _ (.old (.tup ha ra))⟩⟩
  · cases hd

/-- a value's type, told by data -/
def tyName : PyData → String
  | .none => "NoneType"
  | .bool _ => "bool"
  | .int _ => "int"
  | .str _ => "str"
  | .list _ => "list"
  | .tuple _ => "tuple"
  | .dict _ => "dict"
theorem tyX_of {K : PySem.W.Frag} {H : Hp} {S : Addr → Prop} {v : V} {d : PyData} (h : Rp K H S v d) : TyX K H v (.type (tyName d)) := by
  cases h with
  | non => exact .base .non
  | bl b => exact .base (.bl b)
  | int i => exact .base (.int i)
  | str x => exact .base (.str x)
  | lst h r =>
    rcases h with ⟨h, _⟩ | ⟨o, h⟩ | ⟨its, n, h, _, _⟩
    · exact .base (.lst h)
    · exact .base (.frz h)
    · exact .kList h rfl
  | tup h r =>
    rcases h with (h | ⟨o, h⟩) | ⟨o, its, n, h, c, _⟩
    · exact .base (.tup h)
    · exact .fTuple h
    · exact .kTuple h c
end
end DE
end

section
set_option Elab.async false
set_option linter.all false
/-! DE7: what a run of a part promises, and its pieces. -/
namespace DE
open PySem PySem.Spec PyProof.Rows L2

/-- an exception as it flies: its class, its own dict -/
def Ex (mg : Str → Option Value) (H : Hp) (x : D) (cls : Value) (dx : Option Addr) : Prop :=
  ∃ (C : Str) (fs : List (Str × PyData)) (c : Addr), x = .exc C fs ∧ mg C = some (.ref c) ∧ cls = .ref c ∧ False

/-- between a beginning and now, with r held by the hand -/
structure At (Bz : Addr → Prop) (pu : Bool) (H0 : Hp) (Fz0 : Addr → Prop) (f0 : Addr → Nat) (H : Hp) (Fz : Addr → Prop) (f r : Addr → Nat) : Prop where
  wf : Wf H Fz Bz (fun b => f b + r b)
  stp : Stp pu H0 Fz0 f0 H Fz (fun b => f b + r b)

section
variable {Bz Fz0 Fz Fz1 Fz2 : Addr → Prop} {pu p q : Bool} {H0 H H1 H2 : Hp} {f0 f r f1 r1 f2 g : Addr → Nat}
theorem At.start (w : Wf H Fz Bz f) : At Bz true H Fz f H Fz f (fun _ => 0) := ⟨w.cong fun b => by simp, Stp.refl.cong (fun _ => rfl) fun b => by simp⟩
theorem At.weak (a : At Bz p H0 Fz0 f0 H Fz f r) (h : q = true → p = true) : At Bz q H0 Fz0 f0 H Fz f r := ⟨a.wf, a.stp.weak h⟩
theorem At.cong (a : At Bz p H0 Fz0 f0 H Fz f r) (h : ∀ b, g b + r1 b = f b + r b) : At Bz p H0 Fz0 f0 H Fz g r1 := ⟨a.wf.cong h, a.stp.cong (fun _ => rfl) h⟩
theorem At.less (a : At Bz p H0 Fz0 f0 H Fz f r) (h : ∀ b, g b + r1 b ≤ f b + r b) : At Bz p H0 Fz0 f0 H Fz g r1 := ⟨a.wf.le h, a.stp.less h⟩
theorem At.env (a : At Bz p H0 Fz0 f0 H Fz f r) : Wf H Fz Bz f := a.wf.le fun b => by omega
/-- a part ran from here -/
theorem At.step (a : At Bz p H0 Fz0 f0 H1 Fz1 f1 r) (s : Stp q H1 Fz1 f1 H2 Fz2 f2) (w : Wf H2 Fz2 Bz f2) : At Bz (p && q) H0 Fz0 f0 H2 Fz2 f2 r :=
  ⟨Wf.frame s a.wf w, a.stp.trans s.frame⟩
theorem At.lay {a : Addr} {o : HO} (t : At Bz p H0 Fz0 f0 H Fz f r) (hn : H a = none) : At Bz p H0 Fz0 f0 (upd H a o) Fz f r :=
  ⟨t.wf.lay hn, (t.stp.trans (q := true) (Stp.lay hn)).weak fun h => by rw [h]; rfl⟩
theorem At.new {a : Addr} {o : HO} (t : At Bz p H0 Fz0 f0 H Fz f r) (hn : H a = none) (ow : Ow o) (h : ∀ b, r1 b = r b + if b = a then 1 else 0) : At Bz p H0 Fz0 f0 (upd H a o) Fz f r1 :=
  ⟨(t.wf.new hn ow).cong fun b => by rw [h]; omega, ((t.stp.trans (q := true) (Stp.new (o := o) hn)).weak fun h => by rw [h]; rfl).cong (fun _ => rfl) fun b => by rw [h]; omega⟩
theorem At.freeze (t : At Bz p H0 Fz0 f0 H Fz f r) (h : ∀ b, r b = r1 b + g b) : At Bz p H0 Fz0 f0 H (fun b => Fz b ∨ 1 ≤ g b) f r1 := by
  have e : (fun b => f b + r b) = fun b => (f b + r1 b) + g b := funext fun b => by rw [h]; omega
  have w := t.wf
  have s := t.stp
  rw [e] at w s
  exact ⟨w.freeze, s.freeze⟩
/-- an owned object is changed; what was owned may be fewer now -/
theorem At.write {a : Addr} {o o' : HO} (t : At Bz p H0 Fz0 f0 H Fz f r) (he : H a = some o) (hf : 1 ≤ f a + r a) (ow : Ow o') (h : ∀ b, g b + r1 b ≤ f b + r b) : At Bz false H0 Fz0 f0 (upd H a o') Fz g r1 := by
  refine ⟨t.wf.write hf ow h, ?_⟩
  have s : Stp false H Fz (fun b => f b + r b) (upd H a o') Fz (fun b => g b + r1 b) := Stp.write he hf fun b z => by have z' : 1 ≤ g b + r1 b := z; have := h b; show 1 ≤ f b + r b; omega
  have z := t.stp.trans s
  rw [Bool.and_false] at z
  exact z
end

/-- what must hold behind a run's end -/
def Out (K : PySem.W.Frag) (mg : Str → Option Value) (Bz : Addr → Prop) (σ : L2.St) (pu : Bool) (H : Hp) (Fz : Addr → Prop) (f : Addr → Nat) (W : WX) (r : R D) (Q : VK) : Prop :=
  match r with
  | .ok d ρ => ∀ v H' Fz' fρ fd, Re K H' Fz' Bz σ ρ fρ → Rv K H' Fz' Bz v d fd → At Bz pu H Fz f H' Fz' fρ fd → Q v H'
  | .ex x ρ => ∀ cls dx H' Fz' fρ, Re K H' Fz' Bz σ ρ fρ → Ex mg H' x cls dx → At Bz false H Fz f H' Fz' fρ (fun _ => 0) → W cls dx σ H'
  | .no => False
/-- .. of arguments -/
def OutL (K : PySem.W.Frag) (mg : Str → Option Value) (Bz : Addr → Prop) (σ : L2.St) (pu : Bool) (H : Hp) (Fz : Addr → Prop) (f : Addr → Nat) (W : WX) (r : R (List D)) (Q : List V → Hp → Prop) : Prop :=
  match r with
  | .ok ds ρ => ∀ vs H' Fz' fρ fd, Re K H' Fz' Bz σ ρ fρ → RvL K H' Fz' Bz vs ds fd → At Bz pu H Fz f H' Fz' fρ fd → Q vs H'
  | .ex x ρ => ∀ cls dx H' Fz' fρ, Re K H' Fz' Bz σ ρ fρ → Ex mg H' x cls dx → At Bz false H Fz f H' Fz' fρ (fun _ => 0) → W cls dx σ H'
  | .no => False

/-- an expression's reading by its run -/
def LE (K : PySem.W.Frag) (mg : Str → Option Value) (G : List Fn) (W : WX) (e : E) : TE := fun σ H Q => ∃ ρ Fz Bz f, Re K H Fz Bz σ ρ f ∧ Wf H Fz Bz f ∧ Out K mg Bz σ e.pure H Fz f W (evE G e ρ) Q
def LEs (K : PySem.W.Frag) (mg : Str → Option Value) (G : List Fn) (W : WX) (es : Es) : TA := fun σ H Q => ∃ ρ Fz Bz f, Re K H Fz Bz σ ρ f ∧ Wf H Fz Bz f ∧ OutL K mg Bz σ es.pure H Fz f W (evEs G es ρ) Q

section
variable {K : PySem.W.Frag} {mg : Str → Option Value} {G : List Fn} {W : WX} {σ : L2.St} {Bz Fz0 Fz Fz1 Fz2 : Addr → Prop} {pu p q : Bool} {H0 H H1 H2 : Hp} {f0 f r f1 r1 f2 g : Addr → Nat} {ρ ρ1 ρ2 : Env}
/-- a part of a run, from where one is -/
theorem LE.sub {e : E} {Q : VK} (re : Re K H Fz Bz σ ρ f) (t : At Bz p H0 Fz0 f0 H Fz f r) {α : Type} {k : D → Env → R α}
    (hx : ∀ x ρ', evE G e ρ = .ex x ρ' → ∀ cls dx H' Fz' fρ, Re K H' Fz' Bz σ ρ' fρ → Ex mg H' x cls dx → At Bz false H0 Fz0 f0 H' Fz' fρ (fun _ => 0) → W cls dx σ H')
    (hn : evE G e ρ ≠ .no)
    (hok : ∀ d ρ', evE G e ρ = .ok d ρ' → ∀ v H' Fz' fρ fd, Re K H' Fz' Bz σ ρ' fρ → Rv K H' Fz' Bz v d fd → Stp e.pure H Fz f H' Fz' (fun b => fρ b + fd b) → At Bz (p && e.pure) H0 Fz0 f0 H' Fz' fρ (fun b => r b + fd b) → Q v H') :
    LE K mg G W e σ H Q := by
  refine ⟨ρ, Fz, Bz, f, re, t.env, ?_⟩
  cases h : evE G e ρ with
  | ok d ρ' =>
    intro v H' Fz' fρ fd re' rv a
    have a' := t.step a.stp a.wf
    exact hok d ρ' h v H' Fz' fρ fd re' rv a.stp (a'.cong fun b => by omega)
  | ex x ρ' =>
    intro cls dx H' Fz' fρ re' ex a
    refine hx x ρ' h cls dx H' Fz' fρ re' ex ?_
    have a' := t.step a.stp a.wf
    rw [Bool.and_false] at a'
    exact a'.less fun b => by omega
  | no => exact (hn h).elim
theorem LEs.sub {e : Es} {Q : List V → Hp → Prop} (re : Re K H Fz Bz σ ρ f) (t : At Bz p H0 Fz0 f0 H Fz f r)
    (hx : ∀ x ρ', evEs G e ρ = .ex x ρ' → ∀ cls dx H' Fz' fρ, Re K H' Fz' Bz σ ρ' fρ → Ex mg H' x cls dx → At Bz false H0 Fz0 f0 H' Fz' fρ (fun _ => 0) → W cls dx σ H')
    (hn : evEs G e ρ ≠ .no)
    (hok : ∀ d ρ', evEs G e ρ = .ok d ρ' → ∀ v H' Fz' fρ fd, Re K H' Fz' Bz σ ρ' fρ → RvL K H' Fz' Bz v d fd → Stp e.pure H Fz f H' Fz' (fun b => fρ b + fd b) → At Bz (p && e.pure) H0 Fz0 f0 H' Fz' fρ (fun b => r b + fd b) → Q v H') :
    LEs K mg G W e σ H Q := by
  refine ⟨ρ, Fz, Bz, f, re, t.env, ?_⟩
  cases h : evEs G e ρ with
  | ok d ρ' =>
    intro v H' Fz' fρ fd re' rv a
    have a' := t.step a.stp a.wf
    exact hok d ρ' h v H' Fz' fρ fd re' rv a.stp (a'.cong fun b => by omega)
  | ex x ρ' =>
    intro cls dx H' Fz' fρ re' ex a
    refine hx x ρ' h cls dx H' Fz' fρ re' ex ?_
    have a' := t.step a.stp a.wf
    rw [Bool.and_false] at a'
    exact a'.less fun b => by omega
  | no => exact (hn h).elim
/-- what an operation made, as the run's end -/
theorem Out.made {S : Addr → Prop} {d : D} {v : V} {H' : Hp} {Q : VK} (h : Out K mg Bz σ pu H0 Fz0 f0 W (.ok d ρ) Q) (re : Re K H Fz Bz σ ρ f) (t : At Bz p H0 Fz0 f0 H Fz f r) (hp : pu = true → p = true) (m : Mk K H S d v H') (hs : ∀ b, S b → Fz b) : Q v H' := by
  have t0 : At Bz pu H0 Fz0 f0 H Fz f (fun _ => 0) := (t.less fun b => by omega).weak hp
  cases m with
  | old rp => exact h v H Fz f (fun _ => 0) re (.dat (rp.mono hs) fun _ => rfl) t0
  | lay hn no rp =>
    refine h v _ Fz f (fun _ => 0) (re.keep (fun b o e _ => by rw [upd_ne (ne_of_none e hn)]; exact e) (fun _ z => z) fun b o e _ => by rw [upd_ne (ne_of_none e hn)]; exact e) (.dat (rp.mono hs) fun _ => rfl) (t0.lay hn)
  | @new q vs ds hn rp =>
    refine h _ _ Fz f (fun b => if b = q then 1 else 0) (re.keep (fun b o e _ => by rw [upd_ne (ne_of_none e hn)]; exact e) (fun _ z => z) fun b o e _ => by rw [upd_ne (ne_of_none e hn)]; exact e) (.lst upd_same (RvL.dats (rp.mono hs)) fun b => by simp) (t0.new hn trivial fun b => by simp)
end
end DE
end

section
set_option Elab.async false
set_option linter.all false
/-! DE8: expressions keep what their runs promise. -/
namespace DE
open PySem PySem.Spec PyProof.Rows L2

theorem PE.imp {X : Cx} {e : Expr} {t t' : TE} (h : PE X e t) (i : ∀ σ H Q, t' σ H Q → t σ H Q) : PE X e t' := ⟨fun pins s σ H Q I z => h.run pins s σ H Q I (i _ _ _ z)⟩
theorem PT.imp {X : Cx} {e : Expr} {t t' : TT} (h : PT X e t) (i : ∀ σ H Q, t' σ H Q → t σ H Q) : PT X e t' := ⟨fun pins s σ H Q I z => h.run pins s σ H Q I (i _ _ _ z)⟩
theorem PA.imp {X : Cx} {e : List Expr} {t t' : TA} (h : PA X e t) (i : ∀ σ H Q, t' σ H Q → t σ H Q) : PA X e t' := ⟨fun pos pins s σ H Q I z => h.run pos pins s σ H Q I (i _ _ _ z)⟩

mutual
theorem own_of_fz : ∀ {d : D} {p : PyData}, d.fz = some p → d.own = true
  | .dat _, _, _ => rfl
  | .bor _, _, h => by simp [D.fz] at h
  | .tr _, _, h => by simp [D.fz] at h
  | .lst xs, _, h => by
    simp only [D.fz] at h
    obtain ⟨ps, e, _⟩ := Option.map_eq_some_iff.mp h
    simp only [D.own]
    exact ownL_of_fz e
  | .dct kvs, _, h => by
    simp only [D.fz] at h
    obtain ⟨ps, e, _⟩ := Option.map_eq_some_iff.mp h
    simp only [D.own]
    exact ownK_of_fz e
  | .ins _ _, _, h => by simp [D.fz] at h
  | .exc _ _, _, h => by simp [D.fz] at h
  | .dead, _, h => by simp [D.fz] at h
theorem ownL_of_fz : ∀ {d : List D} {p : List PyData}, D.fzL d = some p → D.ownL d = true
  | [], _, _ => rfl
  | x :: r, _, h => by
    rw [D.fzL] at h
    cases h1 : x.fz with
    | none => rw [h1] at h; simp at h
    | some a =>
      cases h2 : D.fzL r with
      | none => rw [h1, h2] at h; simp at h
      | some b => rw [D.ownL, own_of_fz h1, ownL_of_fz h2]; rfl
theorem ownK_of_fz : ∀ {d : List (PyData × D)} {p : List (PyData × PyData)}, D.fzK d = some p → D.ownK d = true
  | [], _, _ => rfl
  | (k, x) :: r, _, h => by
    rw [D.fzK] at h
    cases h1 : x.fz with
    | none => rw [h1] at h; simp at h
    | some a =>
      cases h2 : D.fzK r with
      | none => rw [h1, h2] at h; simp at h
      | some b => rw [D.ownK, own_of_fz h1, ownK_of_fz h2]; rfl
end

section
variable {K : PySem.W.Frag} {mg : Str → Option Value} {G : List Fn} {W : WX} {σ : L2.St} {Bz Fz0 Fz Fz1 Fz2 : Addr → Prop} {pu p q : Bool} {H0 H H1 H2 : Hp} {f0 f r f1 r1 f2 g : Addr → Nat} {ρ ρ1 ρ2 : Env}

theorem Out.bind_ex {r : R D} {k : D → Env → R D} {Q : VK} (h : Out K mg Bz σ pu H Fz f W (r.bind k) Q) {x : D} {ρ' : Env} (e : r = .ex x ρ') :
    ∀ cls dx H' Fz' fρ, Re K H' Fz' Bz σ ρ' fρ → Ex mg H' x cls dx → At Bz false H Fz f H' Fz' fρ (fun _ => 0) → W cls dx σ H' := by
  rw [e] at h; exact h
theorem Out.bind_no {r : R D} {k : D → Env → R D} {Q : VK} (h : Out K mg Bz σ pu H Fz f W (r.bind k) Q) : r ≠ .no := fun e => by
  rw [e] at h; exact h
theorem Out.bind_ok {r : R D} {k : D → Env → R D} {Q : VK} (h : Out K mg Bz σ pu H Fz f W (r.bind k) Q) {x : D} {ρ' : Env} (e : r = .ok x ρ') : Out K mg Bz σ pu H Fz f W (k x ρ') Q := by
  rw [e] at h; exact h
theorem Out.bindL_ex {r : R (List D)} {k : List D → Env → R D} {Q : VK} (h : Out K mg Bz σ pu H Fz f W (r.bind k) Q) {x : D} {ρ' : Env} (e : r = .ex x ρ') :
    ∀ cls dx H' Fz' fρ, Re K H' Fz' Bz σ ρ' fρ → Ex mg H' x cls dx → At Bz false H Fz f H' Fz' fρ (fun _ => 0) → W cls dx σ H' := by
  rw [e] at h; exact h
theorem Out.bindL_no {r : R (List D)} {k : List D → Env → R D} {Q : VK} (h : Out K mg Bz σ pu H Fz f W (r.bind k) Q) : r ≠ .no := fun e => by
  rw [e] at h; exact h
theorem Out.bindL_ok {r : R (List D)} {k : List D → Env → R D} {Q : VK} (h : Out K mg Bz σ pu H Fz f W (r.bind k) Q) {x : List D} {ρ' : Env} (e : r = .ok x ρ') : Out K mg Bz σ pu H Fz f W (k x ρ') Q := by
  rw [e] at h; exact h

/-- one part, then a step -/
theorem LE.one {a : E} {k : D → Env → R D} {Q : VK} {R1 : V → Hp → Prop} (re : Re K H Fz Bz σ ρ f) (t : At Bz p H0 Fz0 f0 H Fz f r) (out : Out K mg Bz σ pu H0 Fz0 f0 W ((evE G a ρ).bind k) Q)
    (fin : ∀ x ρ1 v H1 Fz1 fρ fd, Re K H1 Fz1 Bz σ ρ1 fρ → Rv K H1 Fz1 Bz v x fd → Stp a.pure H Fz f H1 Fz1 (fun b => fρ b + fd b) → At Bz (p && a.pure) H0 Fz0 f0 H1 Fz1 fρ (fun b => r b + fd b) → Out K mg Bz σ pu H0 Fz0 f0 W (k x ρ1) Q → R1 v H1) :
    LE K mg G W a σ H R1 := by
  refine LE.sub (k := k) re t ?_ ?_ ?_
  · intro x ρ' e
    exact out.bind_ex e
  · exact out.bind_no
  · intro d ρ' e v H' Fz' fρ fd re' rv s a
    exact fin d ρ' v H' Fz' fρ fd re' rv s a (out.bind_ok e)
/-- two parts, then a step -/
theorem LE.two {a b : E} {st : D → Bool} {k : D → D → Env → R D} {Q : VK} {R2' : V → V → Hp → Prop} (re : Re K H Fz Bz σ ρ f) (wf : Wf H Fz Bz f)
    (out : Out K mg Bz σ pu H Fz f W (R.two (evE G a ρ) st (fun ρ1 => evE G b ρ1) k) Q) (hst : ∀ x, st x = true → x.ntr = true ∨ b.pure = true)
    (fin : ∀ x y ρ2 v1 v2 H2 Fz2 fρ f1 f2, Re K H2 Fz2 Bz σ ρ2 fρ → Rv K H2 Fz2 Bz v1 x f1 → Rv K H2 Fz2 Bz v2 y f2 → At Bz (a.pure && b.pure) H Fz f H2 Fz2 fρ (fun b => f1 b + f2 b) → Out K mg Bz σ pu H Fz f W (k x y ρ2) Q → R2' v1 v2 H2) :
    LE K mg G W a σ H (fun v1 H1 => LE K mg G W b σ H1 fun v2 H2 => R2' v1 v2 H2) := by
  unfold R.two at out
  refine LE.one re (At.start wf) out ?_
  intro x ρ1 v1 H1 Fz1 fρ1 fd1 re1 rv1 s1 t1 out1
  by_cases hs : st x = true
  · rw [if_pos hs] at out1
    refine LE.one re1 t1 out1 ?_
    intro y ρ2 v2 H2 Fz2 fρ2 fd2 re2 rv2 s2 t2 out2
    have rv1' : Rv K H2 Fz2 Bz v1 x fd1 := rv1.frame (hst x hs) s2 (t1.wf.cong fun b => by omega)
    exact fin x y ρ2 v1 v2 H2 Fz2 fρ2 fd1 fd2 re2 rv1' rv2 ((t2.weak (q := a.pure && b.pure) (by simp)).cong fun b => by omega) out2
  · rw [if_neg hs] at out1
    exact False.elim out1
end

section
variable {X : Cx} {G : List Fn} {W : WX} {pos : Pos}
/-- names and constants -/
theorem le_var {i : Nat} {x : Str} (h : PE X (.Name x pos) (tVar i)) : PE X (.Name x pos) (LE X.K X.mg G W (.var i)) := by
  refine PE.imp h fun σ H Q ⟨ρ, Fz, Bz, f, re, wf, out⟩ => ?_
  simp only [evE] at out
  have l : i < ρ.length := by
    by_cases h : i < ρ.length
    · exact h
    · have e : slot ρ i = .dead := by simp [slot, List.getD, List.getElem?_eq_none (Nat.le_of_not_lt h)]
      rw [e] at out; exact out.elim
  obtain ⟨o, fi, g, eo, rs, hf, _⟩ := re.split l
  have same : Re X.K H Fz Bz σ ρ f := re
  cases hd : slot ρ i with
  | dat d =>
    rw [hd] at out rs
    rcases rs with ⟨e, _⟩ | ⟨v, e, _, rv⟩
    · cases e
    · subst e
      cases rv with
      | dat rp z => exact ⟨v, eo, out v H Fz f (fun _ => 0) same (.dat rp fun _ => rfl) (At.start wf)⟩
  | bor d =>
    rw [hd] at out rs
    rcases rs with ⟨e, _⟩ | ⟨v, e, _, rv⟩
    · cases e
    · subst e
      cases rv with
      | bor rp z => exact ⟨v, eo, out v H Fz f (fun _ => 0) same (.bor rp fun _ => rfl) (At.start wf)⟩
  | _ => rw [hd] at out; exact out.elim
theorem le_mv {i : Nat} {x : Str} (h : PE X (.Name x pos) (tVar i)) : PE X (.Name x pos) (LE X.K X.mg G W (.mv i)) := by
  refine PE.imp h fun σ H Q ⟨ρ, Fz, Bz, f, re, wf, out⟩ => ?_
  simp only [evE] at out
  have l : i < ρ.length := by
    by_cases h : i < ρ.length
    · exact h
    · have e : slot ρ i = .dead := by simp [slot, List.getD, List.getElem?_eq_none (Nat.le_of_not_lt h)]
      rw [e] at out; exact out.elim
  obtain ⟨o, fi, g, eo, rs, hf, rest⟩ := re.split l
  rcases rs with ⟨e, _⟩ | ⟨v, e, _, rv⟩
  · rw [e] at out; exact out.elim
  · subst e
    refine ⟨v, eo, ?_⟩
    have z : ∀ d, slot ρ i = d → d ≠ .dead → Out X.K X.mg Bz σ false H Fz f W (.ok d (ρ.set i .dead)) Q → Q v H := fun d e _ o => by
      rw [e] at rv
      exact o v H Fz g fi rest rv (((At.start wf).weak fun h => by cases h).cong fun b => by rw [hf]; omega)
    cases hd : slot ρ i with
    | dead => rw [hd] at out; exact out.elim
    | _ => rw [hd] at out; exact z _ hd (fun z => by cases z) out
theorem le_cst {d : PyData} {e : Expr} {v : V} (h : PE X e (tC v)) (hv : ∀ H S, Rp X.K H S v d) : PE X e (LE X.K X.mg G W (.cst d)) := by
  refine PE.imp h fun σ H Q ⟨ρ, Fz, Bz, f, re, wf, out⟩ => ?_
  simp only [evE] at out
  exact out v H Fz f (fun _ => 0) re (.dat (hv _ _) fun _ => rfl) (At.start wf)
theorem le_glo {d : PyData} {x : Str} {e : Expr} {v : V} (h : PE X e (tC v)) (hv : ∀ H S, Rp X.K H S v d) : PE X e (LE X.K X.mg G W (.glo x d)) := by
  refine PE.imp h fun σ H Q ⟨ρ, Fz, Bz, f, re, wf, out⟩ => ?_
  simp only [evE] at out
  exact out v H Fz f (fun _ => 0) re (.dat (hv _ _) fun _ => rfl) (At.start wf)
theorem le_neg {a : E} {ea : Expr} (ha : PE X ea (LE X.K X.mg G W a)) : PE X (.UnaryOp .USub ea pos) (LE X.K X.mg G W (.neg a)) := by
  refine PE.imp (pe_un un_neg ha) fun σ H Q ⟨ρ, Fz, Bz, f, re, wf, out⟩ => ?_
  simp only [evE] at out
  refine LE.one re (At.start wf) out ?_
  intro x ρ1 v H1 Fz1 fρ fd re1 rv s t out1
  split at out1
  · cases rv with
    | dat rp z =>
      have e := rp.int_inv; subst e
      exact ⟨_, rfl, out1.made (S := Fz1) re1 t (fun h => by simpa [E.pure] using h) (.old (.int _)) fun _ h => h⟩
  · exact out1.elim
theorem le_not {a : E} {ea : Expr} (ha : PE X ea (LE X.K X.mg G W a)) : PE X (.UnaryOp .Not ea pos) (LE X.K X.mg G W (.not a)) := by
  refine PE.imp (pe_not ha) fun σ H Q ⟨ρ, Fz, Bz, f, re, wf, out⟩ => ?_
  simp only [evE] at out
  refine LE.one re (At.start wf) out ?_
  intro x ρ1 v H1 Fz1 fρ fd re1 rv s t out1
  split at out1
  · cases rv with
    | dat rp z =>
      have e := rp.bool_inv; subst e
      exact ⟨_, rfl, out1.made (S := Fz1) re1 t (fun h => by simpa [E.pure] using h) (.old (.bl _)) fun _ h => h⟩
  · exact out1.elim
theorem le_bin {o : Operator} {a b : E} {ea eb : Expr} (ha : PE X ea (LE X.K X.mg G W a)) (hb : PE X eb (LE X.K X.mg G W b)) : PE X (.BinOp ea o eb pos) (LE X.K X.mg G W (.bin o a b)) := by
  refine PE.imp (pe_op (op_bin o) ha hb) fun σ H Q ⟨ρ, Fz, Bz, f, re, wf, out⟩ => ?_
  simp only [evE] at out
  refine LE.two re wf out (fun x h => by simpa using h) ?_
  intro x y ρ2 v1 v2 H2 Fz2 fρ f1 f2 re2 rv1 rv2 t out2
  split at out2
  · rename_i p q hp hq
    cases hd : binD o p q with
    | none => rw [hd] at out2; exact out2.elim
    | some d =>
      rw [hd] at out2
      have t' := t.freeze (r1 := fun _ => 0) (g := fun b => f1 b + f2 b) fun b => by omega
      refine ⟨fun b => Fz2 b ∨ 1 ≤ f1 b + f2 b, p, q, d, (rv1.freeze hp).mono fun b h => h.imp id fun h => by omega, (rv2.freeze hq).mono fun b h => h.imp id fun h => by omega, hd, fun v H' m => ?_⟩
      exact out2.made (re2.monoF fun b h => .inl h) t' (fun h => by simpa [E.pure] using h) m fun _ h => h
  · exact out2.elim
theorem Rv.non_iff {K : PySem.W.Frag} {H : Hp} {Fz Bz : Addr → Prop} {v : V} {d : D} {f : Addr → Nat} (h : Rv K H Fz Bz v d f) (n : d ≠ .dead) : decide (v = .non) = isNone d := by
  have two : ∀ {S : Addr → Prop} {p : PyData}, Rp K H S v p → decide (v = .non) = (match p with | .none => true | _ => false) := fun {S p} r => by
    cases r <;> simp
  cases h with
  | dat r z => rw [two r]; cases ‹PyData› <;> rfl
  | bor r z => rw [two r]; cases ‹PyData› <;> rfl
  | tr r z => rw [two r]; cases ‹PyData› <;> rfl
  | lst h r q => simp [isNone]
  | dead => exact absurd rfl n
/-- the rule of a comparison -/
def rCmpX (K : PySem.W.Frag) (o : CmpOp) : R2 := fun x y H Q => rCmp K o x y H Q ∨ (o = .Is ∧ y = .non ∧ Q (.bl (decide (x = .non))) H) ∨ (o = .IsNot ∧ y = .non ∧ Q (.bl (!decide (x = .non))) H)
theorem op_cmpX (o : CmpOp) (hu : X.A.units + 65 < cLine) : OpR X (compareOp o) (rCmpX X.K o) := by
  intro pins s σ H x y v u Q I rx ry h
  rcases h with h | ⟨e, h⟩ | ⟨e, h⟩
  · exact op_cmp o hu pins s σ H x y v u Q I rx ry h
  · subst e; exact op_isN pins s σ H x y v u Q I rx ry h
  · subst e; exact op_notN pins s σ H x y v u Q I rx ry h
/-- the comparison of two values, as the run has it -/
theorem cmpV_rule {K : PySem.W.Frag} {H : Hp} {Fz Bz : Addr → Prop} {o : CmpOp} {x y : D} {v1 v2 : V} {f1 f2 : Addr → Nat} {k : Bool} {Q : VK} (hd : cmpV o x y = some k) (rv1 : Rv K H Fz Bz v1 x f1) (rv2 : Rv K H Fz Bz v2 y f2) (fin : Q (.bl k) H) : rCmpX K o v1 v2 H Q := by
  have usual : (∃ p q, x.view = some p ∧ y.view = some q ∧ cmpD o p q = some k) → rCmp K o v1 v2 H Q := fun ⟨p, q, hp, hq, hc⟩ => ⟨_, _, p, q, k, rv1.look hp, rv2.look hq, hc, fin⟩
  have last : ∀ {z : Option Bool}, (match x.view, y.view with | some a, some b => cmpD o a b | _, _ => none) = z → z = some k → ∃ p q, x.view = some p ∧ y.view = some q ∧ cmpD o p q = some k := fun {z} e ez => by
    subst ez
    cases hx : x.view with
    | none => rw [hx] at e; simp at e
    | some p =>
      cases hy : y.view with
      | none => rw [hx, hy] at e; simp at e
      | some q => rw [hx, hy] at e; exact ⟨p, q, rfl, rfl, e⟩
  unfold cmpV at hd
  split at hd
  · refine .inr (.inl ⟨rfl, ?_, ?_⟩)
    · cases rv2 with | dat r z => exact r.none_inv
    · have nd : x ≠ .dead := fun z => by subst z; simp at hd
      rw [rv1.non_iff nd]
      have e : some (isNone x) = some k := by cases x <;> first | exact hd | exact absurd rfl nd
      cases e
      exact fin
  · refine .inr (.inr ⟨rfl, ?_, ?_⟩)
    · cases rv2 with | dat r z => exact r.none_inv
    · have nd : x ≠ .dead := fun z => by subst z; simp at hd
      rw [rv1.non_iff nd]
      have e : some (!isNone x) = some k := by cases x <;> first | exact hd | exact absurd rfl nd
      cases e
      exact fin
  · exact .inl (usual (last hd rfl))
theorem cmp_imp {o : CmpOp} {a b : E} {σ : L2.St} {H : Hp} {Q : VK} (h : LE X.K X.mg G W (.cmp o a b) σ H Q) : tOp (rCmpX X.K o) (LE X.K X.mg G W a) (LE X.K X.mg G W b) σ H Q := by
  obtain ⟨ρ, Fz, Bz, f, re, wf, out⟩ := h
  simp only [evE] at out
  refine LE.two re wf out (fun x h => by simpa using h) ?_
  intro x y ρ2 v1 v2 H2 Fz2 fρ f1 f2 re2 rv1 rv2 t out2
  cases hd : cmpV o x y with
  | none => rw [hd] at out2; exact out2.elim
  | some k =>
    rw [hd] at out2
    exact cmpV_rule hd rv1 rv2 (out2.made (S := Fz2) re2 t (fun h => by simpa [E.pure] using h) (.old (.bl k)) fun _ h => h)
theorem le_cmp {o : CmpOp} {a b : E} {ea eb : Expr} (hu : X.A.units + 65 < cLine) (ha : PE X ea (LE X.K X.mg G W a)) (hb : PE X eb (LE X.K X.mg G W b)) (hm : behindInMarks o eb = false) : PE X (.Compare ea [o] [eb] pos) (LE X.K X.mg G W (.cmp o a b)) :=
  PE.imp (pe_cmpR (op_cmpX o hu) ha hb hm) fun σ H Q h => cmp_imp h
end
end DE
end

section
set_option Elab.async false
set_option linter.all false
/-! DE9: tests, and, or, if; displays, items, slices, built-in functions. -/
namespace DE
open PySem PySem.Spec PyProof.Rows L2

/-- what must hold behind a test's run -/
def OutT (K : PySem.W.Frag) (mg : Str → Option Value) (Bz : Addr → Prop) (σ : L2.St) (pu : Bool) (H : Hp) (Fz : Addr → Prop) (f : Addr → Nat) (W : WX) (r : R D) (Q : Bool → Hp → Prop) : Prop :=
  match r with
  | .ok (.dat (.bool k)) ρ => ∀ H' Fz' fρ, Re K H' Fz' Bz σ ρ fρ → At Bz pu H Fz f H' Fz' fρ (fun _ => 0) → Q k H'
  | .ok _ _ => False
  | .ex x ρ => ∀ cls dx H' Fz' fρ, Re K H' Fz' Bz σ ρ fρ → Ex mg H' x cls dx → At Bz false H Fz f H' Fz' fρ (fun _ => 0) → W cls dx σ H'
  | .no => False
def LT (K : PySem.W.Frag) (mg : Str → Option Value) (G : List Fn) (W : WX) (e : E) : TT := fun σ H Q => ∃ ρ Fz Bz f, Re K H Fz Bz σ ρ f ∧ Wf H Fz Bz f ∧ OutT K mg Bz σ e.pure H Fz f W (evE G e ρ) Q

section
variable {K : PySem.W.Frag} {mg : Str → Option Value} {G : List Fn} {W : WX} {σ : L2.St} {Bz Fz0 Fz Fz1 Fz2 : Addr → Prop} {pu p q : Bool} {H0 H H1 H2 : Hp} {f0 f r f1 r1 f2 g : Addr → Nat} {ρ ρ1 ρ2 : Env}
theorem OutT.out {r : R D} {Q : Bool → Hp → Prop} (h : OutT K mg Bz σ pu H Fz f W r Q) : Out K mg Bz σ pu H Fz f W r (fun x H1 => ∃ c, x = .bl c ∧ Q c H1) := by
  unfold OutT at h
  split at h
  · intro v H' Fz' fρ fd re rv t
    cases rv with
    | dat rp z =>
      have e := rp.bool_inv
      subst e
      exact ⟨_, rfl, h H' Fz' fρ re (t.less fun b => by omega)⟩
  · exact h.elim
  · exact h
  · exact h.elim
theorem LT.le {e : E} {Q : Bool → Hp → Prop} (h : LT K mg G W e σ H Q) : LE K mg G W e σ H (fun x H1 => ∃ c, x = .bl c ∧ Q c H1) := by
  obtain ⟨ρ, Fz, Bz, f, re, wf, out⟩ := h
  exact ⟨ρ, Fz, Bz, f, re, wf, out.out⟩
/-- the last part of a run -/
theorem LE.last {e : E} {Q : VK} (re : Re K H Fz Bz σ ρ f) (t : At Bz p H0 Fz0 f0 H Fz f r) (out : Out K mg Bz σ pu H0 Fz0 f0 W (evE G e ρ) Q) (hp : pu = true → (p && e.pure) = true) : LE K mg G W e σ H Q := by
  refine LE.sub (k := fun d ρ => R.ok d ρ) re t ?_ ?_ ?_
  · intro x ρ' e
    rw [e] at out; exact out
  · intro e
    rw [e] at out; exact out
  · intro d ρ' e v H' Fz' fρ fd re' rv s a
    rw [e] at out
    exact out v H' Fz' fρ fd re' rv ((a.less fun b => by omega).weak hp)
/-- a test's part -/
theorem LT.sub {e : E} {Q : Bool → Hp → Prop} (re : Re K H Fz Bz σ ρ f) (t : At Bz p H0 Fz0 f0 H Fz f r)
    (hx : ∀ x ρ', evE G e ρ = .ex x ρ' → ∀ cls dx H' Fz' fρ, Re K H' Fz' Bz σ ρ' fρ → Ex mg H' x cls dx → At Bz false H0 Fz0 f0 H' Fz' fρ (fun _ => 0) → W cls dx σ H')
    (hn : ∀ x ρ', evE G e ρ ≠ .no ∧ (evE G e ρ = .ok x ρ' → ∃ k, x = .dat (.bool k)))
    (hok : ∀ k ρ', evE G e ρ = .ok (.dat (.bool k)) ρ' → ∀ H' Fz' fρ, Re K H' Fz' Bz σ ρ' fρ → At Bz (p && e.pure) H0 Fz0 f0 H' Fz' fρ r → Q k H') :
    LT K mg G W e σ H Q := by
  refine ⟨ρ, Fz, Bz, f, re, t.env, ?_⟩
  cases h : evE G e ρ with
  | ok d ρ' =>
    obtain ⟨k, rfl⟩ := (hn d ρ').2 h
    intro H' Fz' fρ re' a
    have a' := t.step a.stp a.wf
    exact hok k ρ' h H' Fz' fρ re' (a'.cong fun b => by omega)
  | ex x ρ' =>
    intro cls dx H' Fz' fρ re' ex a
    refine hx x ρ' h cls dx H' Fz' fρ re' ex ?_
    have a' := t.step a.stp a.wf
    rw [Bool.and_false] at a'
    exact a'.less fun b => by omega
  | no => exact ((hn .dead ρ).1 h).elim
theorem LT.last {e : E} {Q : Bool → Hp → Prop} (re : Re K H Fz Bz σ ρ f) (t : At Bz p H0 Fz0 f0 H Fz f r) (out : OutT K mg Bz σ pu H0 Fz0 f0 W (evE G e ρ) Q) (hp : pu = true → (p && e.pure) = true) : LT K mg G W e σ H Q := by
  refine LT.sub re t ?_ ?_ ?_
  · intro x ρ' e
    rw [e] at out; exact out
  · intro x ρ'
    refine ⟨fun e => by rw [e] at out; exact out, fun e => ?_⟩
    rw [e] at out
    unfold OutT at out
    split at out
    · rename_i h; cases h; exact ⟨_, rfl⟩
    · exact out.elim
    · rename_i h; cases h
    · exact out.elim
  · intro k ρ' e H' Fz' fρ re' a
    rw [e] at out
    exact out H' Fz' fρ re' ((a.less fun b => by omega).weak hp)
end

section
variable {X : Cx} {G : List Fn} {W : WX} {pos : Pos}
theorem lt_val {a : E} {e : Expr} (h : PE X e (LE X.K X.mg G W a)) (he : ∀ whole, isTrue e X.env whole = (do let v ← whole; standAt e.pos; holding [v] (truthy v))) : PT X e (LT X.K X.mg G W a) :=
  PT.imp (pt_val h he) fun σ H Q z => z.le
theorem lt_cmp {o : CmpOp} {a b : E} {ea eb : Expr} (hu : X.A.units + 65 < cLine) (ha : PE X ea (LE X.K X.mg G W a)) (hb : PE X eb (LE X.K X.mg G W b)) (hm : behindInMarks o eb = false) : PT X (.Compare ea [o] [eb] pos) (LT X.K X.mg G W (.cmp o a b)) :=
  PT.imp (pt_cmpR (op_cmpX o hu) ha hb hm) fun σ H Q h => cmp_imp h.le
theorem lt_not {a : E} {ea : Expr} (ha : PT X ea (LT X.K X.mg G W a)) : PT X (.UnaryOp .Not ea pos) (LT X.K X.mg G W (.not a)) := by
  refine PT.imp (pt_not ha) fun σ H Q ⟨ρ, Fz, Bz, f, re, wf, out⟩ => ?_
  simp only [evE] at out
  refine LT.sub re (At.start wf) ?_ ?_ ?_
  · intro x ρ' e; rw [e] at out; exact out
  · intro x ρ'
    refine ⟨fun e => by rw [e] at out; exact out, fun e => ?_⟩
    rw [e] at out
    simp only [R.bind] at out
    split at out
    · exact ⟨_, rfl⟩
    · exact out.elim
  · intro k ρ' e H' Fz' fρ re' a'
    rw [e] at out
    exact out H' Fz' fρ re' (a'.weak fun h => by simpa [E.pure] using h)
/-- and, or: as values -/
theorem le_and {a b : E} {ea y : Expr} {r : List Expr} (ha : PE X ea (LE X.K X.mg G W a)) (hb : PE X (.BoolOp .And (y :: r) pos) (LE X.K X.mg G W b)) : PE X (.BoolOp .And (ea :: y :: r) pos) (LE X.K X.mg G W (.and a b)) := by
  refine PE.imp (pe_and ha hb) fun σ H Q ⟨ρ, Fz, Bz, f, re, wf, out⟩ => ?_
  simp only [evE] at out
  refine LE.one re (At.start wf) out ?_
  intro x ρ1 v H1 Fz1 fρ fd re1 rv s t out1
  split at out1
  · cases rv with
    | dat rp z =>
      have e := rp.bool_inv; subst e
      exact ⟨true, rfl, by rw [if_pos rfl]; exact LE.last re1 t out1 fun h => by simpa [E.pure] using h⟩
  · cases rv with
    | dat rp z =>
      have e := rp.bool_inv; subst e
      refine ⟨false, rfl, ?_⟩
      rw [if_neg (by decide)]
      exact out1.made (S := Fz1) re1 t (fun h => by simp only [E.pure, Bool.and_eq_true] at h; simp [h.1]) (.old (.bl _)) fun _ h => h
  · exact out1.elim
theorem le_or {a b : E} {ea y : Expr} {r : List Expr} (ha : PE X ea (LE X.K X.mg G W a)) (hb : PE X (.BoolOp .Or (y :: r) pos) (LE X.K X.mg G W b)) : PE X (.BoolOp .Or (ea :: y :: r) pos) (LE X.K X.mg G W (.or a b)) := by
  refine PE.imp (pe_or ha hb) fun σ H Q ⟨ρ, Fz, Bz, f, re, wf, out⟩ => ?_
  simp only [evE] at out
  refine LE.one re (At.start wf) out ?_
  intro x ρ1 v H1 Fz1 fρ fd re1 rv s t out1
  split at out1
  · cases rv with
    | dat rp z =>
      have e := rp.bool_inv; subst e
      refine ⟨true, rfl, ?_⟩
      rw [if_pos rfl]
      exact out1.made (S := Fz1) re1 t (fun h => by simp only [E.pure, Bool.and_eq_true] at h; simp [h.1]) (.old (.bl _)) fun _ h => h
  · cases rv with
    | dat rp z =>
      have e := rp.bool_inv; subst e
      exact ⟨false, rfl, by rw [if_neg (by decide)]; exact LE.last re1 t out1 fun h => by simpa [E.pure] using h⟩
  · exact out1.elim
/-- .. as tests -/
theorem and_test {a b : E} {σ : L2.St} {H : Hp} {Q : Bool → Hp → Prop} (h : LT X.K X.mg G W (.and a b) σ H Q) : tAnd (LT X.K X.mg G W a) (LT X.K X.mg G W b) σ H Q := by
  obtain ⟨ρ, Fz, Bz, f, re, wf, out⟩ := h
  simp only [evE] at out
  refine LT.sub re (At.start wf) ?_ ?_ ?_
  · intro x ρ' e; rw [e] at out; exact out
  · intro x ρ'
    refine ⟨fun e => by rw [e] at out; exact out, fun e => ?_⟩
    rw [e] at out
    simp only [R.bind] at out
    split at out
    · exact ⟨_, rfl⟩
    · exact ⟨_, rfl⟩
    · exact out.elim
  · intro k ρ' e H' Fz' fρ re' a'
    rw [e] at out
    cases k with
    | true => rw [if_pos rfl]; exact LT.last re' a' out fun h => by simpa [E.pure] using h
    | false => rw [if_neg (by decide)]; exact out H' Fz' fρ re' (a'.weak fun h => by simp only [E.pure, Bool.and_eq_true] at h; simp [h.1])
theorem or_test {a b : E} {σ : L2.St} {H : Hp} {Q : Bool → Hp → Prop} (h : LT X.K X.mg G W (.or a b) σ H Q) : tOr (LT X.K X.mg G W a) (LT X.K X.mg G W b) σ H Q := by
  obtain ⟨ρ, Fz, Bz, f, re, wf, out⟩ := h
  simp only [evE] at out
  refine LT.sub re (At.start wf) ?_ ?_ ?_
  · intro x ρ' e; rw [e] at out; exact out
  · intro x ρ'
    refine ⟨fun e => by rw [e] at out; exact out, fun e => ?_⟩
    rw [e] at out
    simp only [R.bind] at out
    split at out
    · exact ⟨_, rfl⟩
    · exact ⟨_, rfl⟩
    · exact out.elim
  · intro k ρ' e H' Fz' fρ re' a'
    rw [e] at out
    cases k with
    | true => rw [if_pos rfl]; exact out H' Fz' fρ re' (a'.weak fun h => by simp only [E.pure, Bool.and_eq_true] at h; simp [h.1])
    | false => rw [if_neg (by decide)]; exact LT.last re' a' out fun h => by simpa [E.pure] using h
theorem lw_and {a b : E} {ea y : Expr} {r : List Expr} (ha : PT X ea (LT X.K X.mg G W a)) (hb : PW X (.BoolOp .And (y :: r) pos) (LT X.K X.mg G W b)) : PW X (.BoolOp .And (ea :: y :: r) pos) (LT X.K X.mg G W (.and a b)) :=
  ⟨fun wh pins s σ H Q I z => (pw_and ha hb).run wh pins s σ H Q I (and_test z)⟩
theorem lw_or {a b : E} {ea y : Expr} {r : List Expr} (ha : PT X ea (LT X.K X.mg G W a)) (hb : PW X (.BoolOp .Or (y :: r) pos) (LT X.K X.mg G W b)) : PW X (.BoolOp .Or (ea :: y :: r) pos) (LT X.K X.mg G W (.or a b)) :=
  ⟨fun wh pins s σ H Q I z => (pw_or ha hb).run wh pins s σ H Q I (or_test z)⟩
/-- a if c else b -/
theorem le_ife {c a b : E} {ec ea eb : Expr} (hc : PT X ec (LT X.K X.mg G W c)) (ha : PE X ea (LE X.K X.mg G W a)) (hb : PE X eb (LE X.K X.mg G W b)) : PE X (.IfExp ec ea eb pos) (LE X.K X.mg G W (.ife c a b)) := by
  refine PE.imp (pe_ifExp hc ha hb) fun σ H Q ⟨ρ, Fz, Bz, f, re, wf, out⟩ => ?_
  simp only [evE] at out
  refine LT.sub re (At.start wf) ?_ ?_ ?_
  · intro x ρ' e; rw [e] at out; exact out
  · intro x ρ'
    refine ⟨fun e => by rw [e] at out; exact out, fun e => ?_⟩
    rw [e] at out
    simp only [R.bind] at out
    split at out
    · exact ⟨_, rfl⟩
    · exact ⟨_, rfl⟩
    · exact out.elim
  · intro k ρ' e H' Fz' fρ re' a'
    rw [e] at out
    cases k with
    | true => rw [if_pos rfl]; exact LE.last re' a' out fun h => by simp only [E.pure, Bool.and_eq_true] at h; simp [h.1.1, h.1.2]
    | false => rw [if_neg (by decide)]; exact LE.last re' a' out fun h => by simp only [E.pure, Bool.and_eq_true] at h; simp [h.1.1, h.2]
theorem lt_ife {c a b : E} {ec ea eb : Expr} (hc : PT X ec (LT X.K X.mg G W c)) (ha : PT X ea (LT X.K X.mg G W a)) (hb : PT X eb (LT X.K X.mg G W b)) : PT X (.IfExp ec ea eb pos) (LT X.K X.mg G W (.ife c a b)) := by
  refine ⟨fun pins s σ H Q I ⟨ρ, Fz, Bz, f, re, wf, out⟩ => ?_⟩
  simp only [evE] at out
  have first : LT X.K X.mg G W c σ H (fun k H1 => if k = true then LT X.K X.mg G W a σ H1 Q else LT X.K X.mg G W b σ H1 Q) := by
    refine LT.sub re (At.start wf) ?_ ?_ ?_
    · intro x ρ' e; rw [e] at out; exact out
    · intro x ρ'
      refine ⟨fun e => by rw [e] at out; exact out, fun e => ?_⟩
      rw [e] at out
      simp only [R.bind] at out
      split at out
      · exact ⟨_, rfl⟩
      · exact ⟨_, rfl⟩
      · exact out.elim
    · intro k ρ' e H' Fz' fρ re' a'
      rw [e] at out
      cases k with
      | true => rw [if_pos rfl]; exact LT.last re' a' out fun h => by simp only [E.pure, Bool.and_eq_true] at h; simp [h.1.1, h.1.2]
      | false => rw [if_neg (by decide)]; exact LT.last re' a' out fun h => by simp only [E.pure, Bool.and_eq_true] at h; simp [h.1.1, h.2]
  show wpAny _ _ (do if ← isTrue ec X.env (eval ec X.env) then isTrue ea X.env (eval ea X.env) else isTrue eb X.env (eval eb X.env)) _ _ s
  refine wpAny_bind (thn (hc.run pins s σ H _ I first) fun k s1 ⟨H1, I1, q1⟩ => ?_)
  cases k with
  | true => rw [if_pos rfl] at q1 ⊢; exact ha.run pins s1 σ H1 Q I1 q1
  | false => rw [if_neg (by decide)] at q1 ⊢; exact hb.run pins s1 σ H1 Q I1 q1
end
end DE
end

section
set_option Elab.async false
set_option linter.all false
/-! DE10: arguments, displays, items, slices, built-in functions. -/
namespace DE
open PySem PySem.Spec PyProof.Rows L2

section
variable {K : PySem.W.Frag} {mg : Str → Option Value} {G : List Fn} {W : WX} {σ : L2.St} {Bz Fz0 Fz Fz1 Fz2 : Addr → Prop} {pu p q : Bool} {H0 H H1 H2 : Hp} {f0 f r f1 r1 f2 g : Addr → Nat} {ρ ρ1 ρ2 : Env}
theorem cons_imp {e : E} {es : Es} {Q : List V → Hp → Prop} (h : LEs K mg G W (.cons e es) σ H Q) : tCons (LE K mg G W e) (LEs K mg G W es) σ H Q := by
  obtain ⟨ρ, Fz, Bz, f, re, wf, out⟩ := h
  simp only [evEs, R.two] at out
  refine LE.sub (k := fun d ρ => R.ok d ρ) re (At.start wf) ?_ ?_ ?_
  · intro x ρ' e; rw [e] at out; exact out
  · intro e; rw [e] at out; exact out
  · intro x ρ1 e1 v H1 Fz1 fρ1 fd1 re1 rv1 s1 t1
    rw [e1] at out
    simp only [R.bind] at out
    by_cases hs : (x.ntr || es.pure) = true
    · rw [if_pos hs] at out
      refine LEs.sub re1 t1 ?_ ?_ ?_
      · intro x ρ' e; rw [e] at out; exact out
      · intro e; rw [e] at out; exact out
      · intro xs ρ2 e2 vs H2 Fz2 fρ2 fd2 re2 rvs s2 t2
        rw [e2] at out
        have rv1' := rv1.frame (by simpa using hs) s2 (t1.wf.cong fun b => by omega)
        exact out (v :: vs) H2 Fz2 fρ2 (fun b => fd1 b + fd2 b) re2 (.cons rv1' rvs fun _ => rfl) ((t2.weak fun h => by simpa [Es.pure] using h).cong fun b => by omega)
    · rw [if_neg hs] at out
      exact out.elim
theorem nil_imp {Q : List V → Hp → Prop} (h : LEs K mg G W .nil σ H Q) : tNil σ H Q := by
  obtain ⟨ρ, Fz, Bz, f, re, wf, out⟩ := h
  simp only [evEs] at out
  exact out [] H Fz f (fun _ => 0) re (.nil fun _ => rfl) (At.start wf)
/-- arguments, then a step -/
theorem LEs.one {a : Es} {k : List D → Env → R D} {Q : VK} {R1 : List V → Hp → Prop} (re : Re K H Fz Bz σ ρ f) (t : At Bz p H0 Fz0 f0 H Fz f r) (out : Out K mg Bz σ pu H0 Fz0 f0 W ((evEs G a ρ).bind k) Q)
    (fin : ∀ x ρ1 v H1 Fz1 fρ fd, Re K H1 Fz1 Bz σ ρ1 fρ → RvL K H1 Fz1 Bz v x fd → Stp a.pure H Fz f H1 Fz1 (fun b => fρ b + fd b) → At Bz (p && a.pure) H0 Fz0 f0 H1 Fz1 fρ (fun b => r b + fd b) → Out K mg Bz σ pu H0 Fz0 f0 W (k x ρ1) Q → R1 v H1) :
    LEs K mg G W a σ H R1 := by
  refine LEs.sub re t ?_ ?_ ?_
  · intro x ρ' e
    exact out.bindL_ex e
  · exact out.bindL_no
  · intro d ρ' e v H' Fz' fρ fd re' rv s a
    exact fin d ρ' v H' Fz' fρ fd re' rv s a (out.bindL_ok e)
/-- a slice's part -/
def LO (K : PySem.W.Frag) (mg : Str → Option Value) (G : List Fn) (W : WX) : O → TO
  | .none => tNoPart
  | .some e => tPart (LE K mg G W e)
theorem LO.one {o : O} {k : Option Int → Env → R D} {Q : VK} {R1 : Option Int → Hp → Prop} (re : Re K H Fz Bz σ ρ f) (t : At Bz p H0 Fz0 f0 H Fz f r) (out : Out K mg Bz σ pu H0 Fz0 f0 W ((evO G o ρ).bind k) Q)
    (fin : ∀ x ρ1 H1 Fz1 fρ, Re K H1 Fz1 Bz σ ρ1 fρ → Stp o.pure H Fz f H1 Fz1 fρ → At Bz (p && o.pure) H0 Fz0 f0 H1 Fz1 fρ r → Out K mg Bz σ pu H0 Fz0 f0 W (k x ρ1) Q → R1 x H1) :
    LO K mg G W o σ H R1 := by
  cases o with
  | none =>
    simp only [evO, R.bind] at out
    exact fin none ρ H Fz f re Stp.refl (t.weak fun h => by simpa [O.pure] using h) out
  | some e =>
    simp only [evO] at out
    have out' : Out K mg Bz σ pu H0 Fz0 f0 W ((evE G e ρ).bind fun x ρ1 => (match x with | .dat (.int i) => R.ok (some i) ρ1 | _ => R.no).bind k) Q := by
      revert out
      cases evE G e ρ with
      | ok d ρ' => exact id
      | ex d ρ' => exact id
      | no => exact id
    refine LE.one re t out' ?_
    intro x ρ1 v H1 Fz1 fρ fd re1 rv s1 t1 out1
    split at out1
    · cases rv with
      | dat rp z =>
        have e := rp.int_inv; subst e
        exact ⟨_, rfl, fin _ ρ1 H1 Fz1 fρ re1 (s1.less fun b => by omega) (t1.less fun b => by omega) out1⟩
    · exact out1.elim
end

section
variable {X : Cx} {G : List Fn} {W : WX} {pos : Pos}
theorem le_pnil : PA X [] (LEs X.K X.mg G W .nil) := PA.imp pa_nil fun σ H Q h => nil_imp h
theorem le_pcons {e : Expr} {es : List Expr} {a : E} {as : Es} (ha : PE X e (LE X.K X.mg G W a)) (hr : PA X es (LEs X.K X.mg G W as)) (hs : starEach (e :: es) X.env = (false, eval e X.env) :: starEach es X.env) : PA X (e :: es) (LEs X.K X.mg G W (.cons a as)) :=
  PA.imp (pa_cons ha hr hs) fun σ H Q h => cons_imp h
/-- frozen -/
theorem le_frz {a : E} {e : Expr} (ha : PE X e (LE X.K X.mg G W a)) : PE X e (LE X.K X.mg G W (.frz a)) := by
  refine PE.imp ha fun σ H Q ⟨ρ, Fz, Bz, f, re, wf, out⟩ => ?_
  simp only [evE] at out
  refine LE.one re (At.start wf) out ?_
  intro x ρ1 v H1 Fz1 fρ fd re1 rv s t out1
  cases hz : x.fz with
  | none => rw [hz] at out1; exact out1.elim
  | some p =>
    rw [hz] at out1
    have t' := t.freeze (r1 := fun _ => 0) (g := fd) fun b => by omega
    exact out1.made (S := fun b => Fz1 b ∨ 1 ≤ fd b) (re1.monoF fun b h => .inl h) t' (fun h => by simpa [E.pure] using h) (.old (rv.freeze hz)) fun _ h => h
/-- displays -/
theorem le_tup {es : Es} {as : List Expr} {x1} (ha : PA X as (LEs X.K X.mg G W es)) : PE X (.Tuple as x1 pos) (LE X.K X.mg G W (.tup es)) := by
  refine PE.imp (pe_tup ha) fun σ H Q ⟨ρ, Fz, Bz, f, re, wf, out⟩ => ?_
  simp only [evE] at out
  refine LEs.one re (At.start wf) out ?_
  intro xs ρ1 vs H1 Fz1 fρ fd re1 rv s t out1
  split at out1
  · rename_i ds hz
    split at out1
    · rename_i hf
      have rp := rv.freeze hz
      refine ⟨by rw [rp.length]; exact fits_line hf, fun q hq => ?_⟩
      have t' := t.freeze (r1 := fun _ => 0) (g := fd) fun b => by omega
      exact out1.made (S := fun b => Fz1 b ∨ 1 ≤ fd b) (re1.monoF fun b h => .inl h) t' (fun h => by simpa [E.pure] using h) (Mk.tuple hq rp) fun _ h => h
    · exact out1.elim
  · exact out1.elim
theorem le_lst {es : Es} {as : List Expr} (ha : PA X as (LEs X.K X.mg G W es)) : PE X (.List as pos) (LE X.K X.mg G W (.lst es)) := by
  refine PE.imp (pe_lst ha) fun σ H Q ⟨ρ, Fz, Bz, f, re, wf, out⟩ => ?_
  simp only [evE] at out
  refine LEs.one re (At.start wf) out ?_
  intro xs ρ1 vs H1 Fz1 fρ fd re1 rv s t out1
  split at out1
  · rename_i hf
    refine ⟨by rw [rv.length]; exact fits_line hf, fun q hq => ?_⟩
    have up : ∀ b o, H1 b = some o → (upd H1 q (.lst vs)) b = some o := fun b o e => by rw [upd_ne (ne_of_none e hq)]; exact e
    exact out1 _ _ Fz1 fρ (fun b => fd b + if b = q then 1 else 0) (re1.keep (fun b o e _ => up b o e) (fun _ z => z) fun b o e _ => up b o e) (.lst upd_same (rv.same up fun _ z => z) fun b => rfl)
      ((t.new (o := .lst vs) (r1 := fun b => fd b + if b = q then 1 else 0) hq trivial fun b => by simp).weak fun h => by simpa [E.pure] using h)
  · exact out1.elim
/-- items -/
theorem le_ix {a i : E} {ea ei : Expr} (ha : PE X ea (LE X.K X.mg G W a)) (hi : PE X ei (LE X.K X.mg G W i)) (hs : PlainIx ei) : PE X (.Subscript ea ei pos) (LE X.K X.mg G W (.ix a i)) := by
  refine PE.imp (pe_ix (IxR.or ix_data ix_own) ha hi hs) fun σ H Q ⟨ρ, Fz, Bz, f, re, wf, out⟩ => ?_
  simp only [evE] at out
  refine LE.two re wf out (fun x h => by simpa using h) ?_
  intro x y ρ2 v1 v2 H2 Fz2 fρ f1 f2 re2 rv1 rv2 t out2
  split at out2
  · rename_i y
    cases rv2 with
    | dat rp2 z2 =>
    unfold ixV at out2
    split at out2
    · rename_i i
      have e := rp2.int_inv; subst e
      split at out2
      · rename_i d
        cases hd : ixD d i with
        | none => rw [hd] at out2; exact out2.elim
        | some w =>
          rw [hd] at out2
          cases rv1 with
          | dat rp1 z1 => exact .inl ⟨_, d, w, i, rfl, rp1, hd, fun v r => out2.made (S := Fz2) re2 t (fun h => by simpa [E.pure] using h) (.old r) fun _ h => h⟩
      · rename_i d
        cases hd : ixD d i with
        | none => rw [hd] at out2; exact out2.elim
        | some w =>
          rw [hd] at out2
          cases rv1 with
          | bor rp1 z1 => exact .inl ⟨_, d, w, i, rfl, rp1, hd, fun v r => out2 v H2 Fz2 fρ (fun _ => 0) re2 (.bor r fun _ => rfl) ((t.less fun b => by omega).weak fun h => by simpa [E.pure] using h)⟩
      · rename_i d
        cases hd : ixD d i with
        | none => rw [hd] at out2; exact out2.elim
        | some w =>
          rw [hd] at out2
          cases rv1 with
          | tr rp1 z1 => exact .inl ⟨_, d, w, i, rfl, rp1, hd, fun v r => out2 v H2 Fz2 fρ (fun _ => 0) re2 (.tr r fun _ => rfl) ((t.less fun b => by omega).weak fun h => by simpa [E.pure] using h)⟩
      · rename_i xs
        cases hd : L2.atI xs i with
        | none => rw [hd] at out2; exact out2.elim
        | some w =>
          rw [hd] at out2
          cases rv1 with
          | lst h1 h2 h3 =>
            rename_i a vs g0
            obtain ⟨j, ej, gj⟩ := atI_ix hd
            obtain ⟨u, fi, g1, hw, r1, q1, _, _⟩ := h2.split gj
            have ewv : L2.atI vs i = some u := by
              unfold L2.atI
              rw [h2.length, ej]
              exact hw
            exact .inr ⟨a, vs, i, u, rfl, rfl, h1, ewv, out2 u H2 Fz2 fρ fi re2 r1 ((t.less fun b => by rw [h3, q1]; omega).weak fun h => by simpa [E.pure] using h)⟩
      · exact out2.elim
    · exact out2.elim
  · exact out2.elim
/-- slices -/
theorem lo_none : PO X none (LO X.K X.mg G W .none) := po_none
theorem lo_some {a : E} {e : Expr} (h : PE X e (LE X.K X.mg G W a)) : PO X (some e) (LO X.K X.mg G W (.some a)) := po_some h
theorem le_sl {a : E} {lo hi : O} {ea : Expr} {el eh : Option Expr} {p2 : Pos} (ha : PE X ea (LE X.K X.mg G W a)) (hl : PO X el (LO X.K X.mg G W lo)) (hh : PO X eh (LO X.K X.mg G W hi)) : PE X (.Subscript ea (.Slice el eh none p2) pos) (LE X.K X.mg G W (.sl a lo hi)) := by
  refine PE.imp (pe_slice sl_data ha hl hh) fun σ H Q ⟨ρ, Fz, Bz, f, re, wf, out⟩ => ?_
  simp only [evE] at out
  refine LE.one re (At.start wf) out ?_
  intro x ρ1 v H1 Fz1 fρ1 fd re1 rv s1 t1 out1
  refine LO.one re1 t1 out1 ?_
  intro l ρ2 H2 Fz2 fρ2 re2 s2 t2 out2
  refine LO.one re2 t2 out2 ?_
  intro u ρ3 H3 Fz3 fρ3 re3 s3 t3 out3
  cases hd : slV x l u with
  | none => rw [hd] at out3; exact out3.elim
  | some d =>
    rw [hd] at out3
    cases hz : x.fz with
    | none => simp [slV, hz] at hd
    | some w =>
      have n := ntr_of_own (own_of_fz hz)
      have rv2 := rv.frame (.inl n) s2 (t1.wf.cong fun b => by omega)
      have rv3 := rv2.frame (.inl n) s3 (t2.wf.cong fun b => by omega)
      have t' := t3.freeze (r1 := fun _ => 0) (g := fd) fun b => by omega
      refine ⟨_, w, d, rv3.freeze hz, by simpa [slV, hz, D.fz] using hd, fun v' H' m => ?_⟩
      exact out3.made (re3.monoF fun b h => .inl h) t' (fun h => by simpa [E.pure, Bool.and_assoc] using h) m fun _ h => h

/-- built-in functions -/
theorem biD_atom {b : Bi} {ps : List PyData} {d : PyData} {K : PySem.W.Frag} {H : Hp} {S S' : Addr → Prop} {v : V} (h : biD b ps = some d) (r : Rp K H S v d) : Rp K H S' v d := by
  have at_ : (∃ i, d = .int i) ∨ (∃ k, d = .bool k) ∨ ∃ x, d = .str x := by
    unfold biD at h
    split at h
    · unfold lenD at h; split at h <;> (try split at h) <;> (try cases h) <;> first | exact .inl ⟨_, rfl⟩ | skip
    · unfold sumD at h; split at h <;> (try cases h)
      obtain ⟨_, _, e⟩ := Option.map_eq_some_iff.mp h; subst e; exact .inl ⟨_, rfl⟩
    · unfold maxD at h
      split at h
      · obtain ⟨_, _, e⟩ := Option.bind_eq_some_iff.mp h
        obtain ⟨_, _, e⟩ := Option.map_eq_some_iff.mp e; subst e; exact .inl ⟨_, rfl⟩
      · cases h; exact .inl ⟨_, rfl⟩
      · cases h
    · unfold minD at h
      split at h
      · obtain ⟨_, _, e⟩ := Option.bind_eq_some_iff.mp h
        obtain ⟨_, _, e⟩ := Option.map_eq_some_iff.mp e; subst e; exact .inl ⟨_, rfl⟩
      · cases h; exact .inl ⟨_, rfl⟩
      · cases h
    · unfold absD at h; split at h <;> cases h; exact .inl ⟨_, rfl⟩
    · unfold intD at h; split at h <;> cases h <;> exact .inl ⟨_, rfl⟩
    · unfold strD at h; split at h <;> (try split at h) <;> cases h; exact .inr (.inr ⟨_, rfl⟩)
    · unfold allD at h; split at h <;> (try cases h)
      obtain ⟨_, _, e⟩ := Option.map_eq_some_iff.mp h; subst e; exact .inr (.inl ⟨_, rfl⟩)
    · unfold anyD at h; split at h <;> (try cases h)
      obtain ⟨_, _, e⟩ := Option.map_eq_some_iff.mp h; subst e; exact .inr (.inl ⟨_, rfl⟩)
    · unfold reprD at h; split at h <;> (try split at h) <;> cases h; exact .inr (.inr ⟨_, rfl⟩)
    · cases h
  rcases at_ with ⟨_, e⟩ | ⟨_, e⟩ | ⟨_, e⟩ <;> subst e
  · have := r.int_inv; subst this; exact .int _
  · have := r.bool_inv; subst this; exact .bl _
  · have := r.str_inv; subst this; exact .str _
theorem bi_impV {b : Bi} {es : Es} {σ : L2.St} {H : Hp} {Q : VK} (hb : b.makes = false) (h : LE X.K X.mg G W (.bi b es) σ H Q) : tCB (rBiV X.K (biD b)) (LEs X.K X.mg G W es) σ H Q := by
  obtain ⟨ρ, Fz, Bz, f, re, wf, out⟩ := h
  simp only [evE] at out
  refine LEs.one re (At.start wf) out ?_
  intro xs ρ1 vs H1 Fz1 fρ fd re1 rv s t out1
  unfold biV at out1
  rw [hb, if_neg (by decide)] at out1
  cases hv : D.viewL xs with
  | none => rw [hv] at out1; exact out1.elim
  | some ps =>
    rw [hv] at out1
    simp only [Option.bind_some] at out1
    cases hd : biD b ps with
    | none => rw [hd] at out1; exact out1.elim
    | some d =>
      rw [hd] at out1
      exact ⟨_, ps, d, rv.look hv, hd, fun v S' r => out1.made (S := Fz1) re1 t (fun h => by simpa [E.pure] using h) (.old (biD_atom hd r)) fun _ h => h⟩
theorem bi_impF {b : Bi} {es : Es} {σ : L2.St} {H : Hp} {Q : VK} (hb : b.makes = true) (h : LE X.K X.mg G W (.bi b es) σ H Q) : tCB (rBiF X.K (biF b)) (LEs X.K X.mg G W es) σ H Q := by
  obtain ⟨ρ, Fz, Bz, f, re, wf, out⟩ := h
  simp only [evE] at out
  refine LEs.one re (At.start wf) out ?_
  intro xs ρ1 vs H1 Fz1 fρ fd re1 rv s t out1
  unfold biV at out1
  rw [hb, if_pos rfl] at out1
  cases hv : D.fzL xs with
  | none => rw [hv] at out1; exact out1.elim
  | some ps =>
    rw [hv] at out1
    simp only [Option.bind_some] at out1
    cases hd : biF b ps with
    | none => rw [hd] at out1; exact out1.elim
    | some d =>
      rw [hd] at out1
      have t' := t.freeze (r1 := fun _ => 0) (g := fd) fun b => by omega
      exact ⟨_, ps, d, rv.freeze hv, hd, fun v H' m => out1.made (re1.monoF fun b h => .inl h) t' (fun h => by simpa [E.pure] using h) m fun _ h => h⟩
end
end DE
end

section
set_option Elab.async false
set_option linter.all false
/-! DE11: places, and what changes a list at a place. -/
namespace DE
open PySem PySem.Spec PyProof.Rows L2

theorem slot_lt {ρ : Env} {i : Nat} (h : slot ρ i ≠ .dead) : i < ρ.length := by
  by_cases l : i < ρ.length
  · exact l
  · exact absurd (by simp [slot, List.getD, List.getElem?_eq_none (Nat.le_of_not_lt l)]) h
theorem getS_nil (d : D) : getS d [] = some d := by cases d <;> rfl
theorem putS_nil (d y : D) : putS d [] y = some y := by cases d <;> rfl
theorem live_slot {ρ : Env} {i : Nat} {sel : List Sel} {x : D} (h : getS (slot ρ i) sel = some x) (hx : x ≠ .dead) : slot ρ i ≠ .dead := fun e => by
  rw [e] at h
  cases sel with
  | nil => rw [getS_nil] at h; cases h; exact hx rfl
  | cons a r => simp [getS] at h
section
variable {K : PySem.W.Frag} {mg : Str → Option Value} {G : List Fn} {W : WX} {σ : L2.St} {Bz Fz0 Fz Fz1 Fz2 : Addr → Prop} {pu p q : Bool} {H0 H H1 H2 : Hp} {f0 f r f1 r1 f2 g : Addr → Nat} {ρ ρ1 ρ2 : Env}
theorem Rv.lst_inv {v : V} {xs : List D} {f : Addr → Nat} (h : Rv K H Fz Bz v (.lst xs) f) : ∃ a vs g, v = .ref a ∧ H a = some (.lst vs) ∧ RvL K H Fz Bz vs xs g ∧ ∀ b, f b = g b + if b = a then 1 else 0 := by
  cases h with | lst h1 h2 h3 => exact ⟨_, _, _, rfl, h1, h2, h3⟩
theorem RvL.cons_inv {vs : List V} {d : D} {ds : List D} {f : Addr → Nat} (h : RvL K H Fz Bz vs (d :: ds) f) : ∃ v ws g g', vs = v :: ws ∧ Rv K H Fz Bz v d g ∧ RvL K H Fz Bz ws ds g' ∧ ∀ b, f b = g b + g' b := by
  cases h with | cons r t q => exact ⟨_, _, _, _, rfl, r, t, q⟩
theorem RvL.nil_inv {vs : List V} {f : Addr → Nat} (h : RvL K H Fz Bz vs [] f) : vs = [] ∧ ∀ b, f b = 0 := by
  cases h with | nil z => exact ⟨rfl, z⟩
theorem RvL.one_inv {vs : List V} {d : D} {f : Addr → Nat} (h : RvL K H Fz Bz vs [d] f) : ∃ v g, vs = [v] ∧ Rv K H Fz Bz v d g ∧ ∀ b, f b = g b := by
  obtain ⟨v, ws, g, g', rfl, r, t, q⟩ := h.cons_inv
  obtain ⟨rfl, z⟩ := t.nil_inv
  exact ⟨v, g, rfl, r, fun b => by rw [q, z]; omega⟩
/-- a live place stands in the heap -/
theorem Re.pathV {i : Nat} {sel : List Sel} {x : D} (re : Re K H Fz Bz σ ρ f) (hg : getS (slot ρ i) sel = some x) (hx : x ≠ .dead) : ∃ v u, σ[i]? = some (some v) ∧ PathV H v sel u := by
  have nd := live_slot hg hx
  obtain ⟨o, fi, g, eo, rs, hf, rest⟩ := re.split (slot_lt nd)
  rcases rs with ⟨e, _⟩ | ⟨v, e, n, rv⟩
  · exact (nd e).elim
  · subst e
    obtain ⟨u, fx, g', hp, _⟩ := rv.path sel hg n
    exact ⟨v, u, eo, hp⟩
/-- .. what it owns, what stands beside it -/
theorem Re.place {i : Nat} {sel : List Sel} {x : D} {v u : V} (re : Re K H Fz Bz σ ρ f) (hv : σ[i]? = some (some v)) (hp : PathV H v sel u) (hg : getS (slot ρ i) sel = some x) (hx : x ≠ .dead) :
    ∃ (fx g : Addr → Nat), Rv K H Fz Bz u x fx ∧ x.ntr = true ∧ (∀ b, f b = fx b + g b) ∧ i < ρ.length ∧
      ∀ (H' : Hp) (Fz' : Addr → Prop), (∀ b o, H b = some o → (Fz b ∨ Bz b ∨ ¬ Ow o) → H' b = some o) → (∀ b, Fz b → Fz' b) → (∀ b o, H b = some o → 1 ≤ g b → H' b = some o) →
        ∀ (x' : D) (fx' : Addr → Nat), Rv K H' Fz' Bz u x' fx' → x'.ntr = true → ∃ d', putS (slot ρ i) sel x' = some d' ∧ Re K H' Fz' Bz σ (ρ.set i d') (fun b => fx' b + g b) := by
  have nd := live_slot hg hx
  have l := slot_lt nd
  obtain ⟨o, fi, g0, eo, rs, hf, rest⟩ := re.split l
  rcases rs with ⟨e, _⟩ | ⟨w, e, n, rv⟩
  · exact (nd e).elim
  · subst e
    rw [hv] at eo
    cases eo
    obtain ⟨u', fx, g', hp', ru, nx, hs, ctx⟩ := rv.path sel hg n
    have eu := PathV.fun hp hp'
    subst eu
    refine ⟨fx, fun b => g' b + g0 b, ru, nx, fun b => by show f b = fx b + (g' b + g0 b); rw [hf, hs]; omega, l, fun H' Fz' k m kg x' fx' rx' nx' => ?_⟩
    obtain ⟨d', e', n', r'⟩ := ctx H' Fz' k m (fun b o e h => kg b o e (by show 1 ≤ g' b + g0 b; omega)) x' fx' rx' nx'
    refine ⟨d', e', ?_⟩
    have rest' := rest.keep k m fun b o e h => kg b o e (by show 1 ≤ g' b + g0 b; omega)
    exact Re.put' rest' l hv (.inr ⟨v, rfl, n', r'⟩) fun b => by show fx' b + (g' b + g0 b) = (fx' b + g' b) + g0 b; omega

/-- what must hold behind a place's run -/
def OutP (K : PySem.W.Frag) (mg : Str → Option Value) (Bz : Addr → Prop) (σ : L2.St) (pu : Bool) (H : Hp) (Fz : Addr → Prop) (f : Addr → Nat) (W : WX) (r : R (Nat × List Sel)) (Q : VK) : Prop :=
  match r with
  | .ok q ρ => ∀ u v x H' Fz' fρ, Re K H' Fz' Bz σ ρ fρ → At Bz pu H Fz f H' Fz' fρ (fun _ => 0) → σ[q.1]? = some (some v) → PathV H' v q.2 u → getS (slot ρ q.1) q.2 = some x → x ≠ .dead → Q u H'
  | .ex x ρ => ∀ cls dx H' Fz' fρ, Re K H' Fz' Bz σ ρ fρ → Ex mg H' x cls dx → At Bz false H Fz f H' Fz' fρ (fun _ => 0) → W cls dx σ H'
  | .no => False
def LP (K : PySem.W.Frag) (mg : Str → Option Value) (G : List Fn) (W : WX) (p : P) : TE := fun σ H Q => ∃ ρ Fz Bz f, Re K H Fz Bz σ ρ f ∧ Wf H Fz Bz f ∧ OutP K mg Bz σ p.pure H Fz f W (evP G p ρ) Q
theorem LP.sub {e : P} {Q : VK} (re : Re K H Fz Bz σ ρ f) (t : At Bz p H0 Fz0 f0 H Fz f r)
    (hx : ∀ x ρ', evP G e ρ = .ex x ρ' → ∀ cls dx H' Fz' fρ, Re K H' Fz' Bz σ ρ' fρ → Ex mg H' x cls dx → At Bz false H0 Fz0 f0 H' Fz' fρ (fun _ => 0) → W cls dx σ H')
    (hn : evP G e ρ ≠ .no)
    (hok : ∀ q ρ', evP G e ρ = .ok q ρ' → ∀ u v x H' Fz' fρ, Re K H' Fz' Bz σ ρ' fρ → Stp e.pure H Fz f H' Fz' fρ → At Bz (p && e.pure) H0 Fz0 f0 H' Fz' fρ r → σ[q.1]? = some (some v) → PathV H' v q.2 u → getS (slot ρ' q.1) q.2 = some x → x ≠ .dead → Q u H') :
    LP K mg G W e σ H Q := by
  refine ⟨ρ, Fz, Bz, f, re, t.env, ?_⟩
  cases h : evP G e ρ with
  | ok q ρ' =>
    intro u v x H' Fz' fρ re' a hv hp hg hx
    have a' := t.step a.stp a.wf
    exact hok q ρ' h u v x H' Fz' fρ re' (a.stp.cong (fun _ => rfl) fun b => by omega) (a'.cong fun b => by omega) hv hp hg hx
  | ex x ρ' =>
    intro cls dx H' Fz' fρ re' ex a
    refine hx x ρ' h cls dx H' Fz' fρ re' ex ?_
    have a' := t.step a.stp a.wf
    rw [Bool.and_false] at a'
    exact a'.less fun b => by omega
  | no => exact (hn h).elim
theorem LP.one {a : P} {k : Nat × List Sel → Env → R D} {Q : VK} {R1 : V → Hp → Prop} (re : Re K H Fz Bz σ ρ f) (t : At Bz p H0 Fz0 f0 H Fz f r) (out : Out K mg Bz σ pu H0 Fz0 f0 W ((evP G a ρ).bind k) Q)
    (fin : ∀ q ρ1 u v x H1 Fz1 fρ, Re K H1 Fz1 Bz σ ρ1 fρ → Stp a.pure H Fz f H1 Fz1 fρ → At Bz (p && a.pure) H0 Fz0 f0 H1 Fz1 fρ r → σ[q.1]? = some (some v) → PathV H1 v q.2 u → getS (slot ρ1 q.1) q.2 = some x → x ≠ .dead → Out K mg Bz σ pu H0 Fz0 f0 W (k q ρ1) Q → R1 u H1) :
    LP K mg G W a σ H R1 := by
  refine LP.sub re t ?_ ?_ ?_
  · intro x ρ' e; rw [e] at out; exact out
  · intro e; rw [e] at out; exact out
  · intro q ρ' e u v x H' Fz' fρ re' s a hv hp hg hx
    rw [e] at out
    exact fin q ρ' u v x H' Fz' fρ re' s a hv hp hg hx out
theorem isLive_some {o : Option D} (h : isLive o = true) : ∃ x, o = some x ∧ x ≠ .dead := by
  cases o with
  | none => cases h
  | some x => exact ⟨x, rfl, fun e => by subst e; cases h⟩
theorem PathV.last : ∀ {v w : V} {sel : List Sel} {k : Sel}, PathV H v (sel ++ [k]) w → ∃ a vs, PathV H v sel (.ref a) ∧ H a = some (.lst vs) ∧ L2.atI vs k = some w
  | _, _, [], _, .cons h1 h2 h3 => by cases h3; exact ⟨_, _, .nil, h1, h2⟩
  | _, _, i :: sel, k, .cons h1 h2 h3 => by
    obtain ⟨a, vs, p, e, z⟩ := PathV.last (sel := sel) h3
    exact ⟨a, vs, .cons h1 h2 p, e, z⟩
end

section
variable {X : Cx} {G : List Fn} {W : WX} {pos : Pos}
theorem lp_root {i : Nat} {x : Str} (h : PE X (.Name x pos) (tVar i)) : PE X (.Name x pos) (LP X.K X.mg G W (.root i)) := by
  refine PE.imp h fun σ H Q ⟨ρ, Fz, Bz, f, re, wf, out⟩ => ?_
  simp only [evP] at out
  have nd : slot ρ i ≠ .dead := fun e => by rw [e] at out; exact out
  obtain ⟨v, u, hv, hp⟩ := re.pathV (getS_nil (slot ρ i)) nd
  refine ⟨v, hv, ?_⟩
  have out' : OutP X.K X.mg Bz σ true H Fz f W (.ok (i, []) ρ) Q := by
    cases e : slot ρ i with
    | dead => exact (nd e).elim
    | _ => rw [e] at out; exact out
  exact out' v v (slot ρ i) H Fz f re (At.start wf) hv .nil (getS_nil _) nd
theorem lp_idx {p : P} {e : E} {ep ei : Expr} (ha : PE X ep (LP X.K X.mg G W p)) (hi : PE X ei (LE X.K X.mg G W e)) (hs : PlainIx ei) : PE X (.Subscript ep ei pos) (LP X.K X.mg G W (.idx p e)) := by
  refine PE.imp (pe_ix ix_own ha hi hs) fun σ H Q ⟨ρ, Fz, Bz, f, re, wf, out⟩ => ?_
  simp only [evP] at out
  refine LP.sub re (At.start wf) ?_ ?_ ?_
  · intro x ρ' e; rw [e] at out; exact out
  · intro e; rw [e] at out; exact out
  · intro q ρ1 e1 u v x H1 Fz1 fρ1 re1 s1 t1 hv hp hg hx
    rw [e1] at out
    simp only [R.bind] at out
    by_cases he : e.pure = true
    · rw [if_pos he] at out
      refine LE.sub (k := fun d ρ => R.ok d ρ) re1 t1 ?_ ?_ ?_
      · intro x ρ' e; rw [e] at out; exact out
      · intro e; rw [e] at out; exact out
      · intro y ρ2 e2 w H2 Fz2 fρ2 fd2 re2 rv2 s2 t2
        rw [e2] at out
        simp only at out
        split at out
        · rename_i k
          split at out
          · rename_i hl
            obtain ⟨z, ez, nz⟩ := isLive_some hl
            cases rv2 with
            | dat rp _ =>
              have e := rp.int_inv; subst e
              obtain ⟨v', w, hv', hpw⟩ := re2.pathV ez nz
              rw [hv] at hv'
              cases hv'
              obtain ⟨a, vs, hpa, ha, hk⟩ := hpw.last
              have hp2 : PathV H2 v q.2 u := hp.same fun b o e => s2.keep b o e (.inr he)
              have eu := PathV.fun hp2 hpa
              subst eu
              exact ⟨a, vs, k, w, rfl, rfl, ha, hk, out w v z H2 Fz2 fρ2 re2 ((t2.less fun b => by omega).weak fun h => by simpa [P.pure] using h) hv hpw ez nz⟩
          · exact out.elim
        · exact out.elim
    · rw [if_neg he] at out
      exact out.elim
theorem le_rd {p : P} {ep : Expr} (ha : PE X ep (LP X.K X.mg G W p)) : PE X ep (LE X.K X.mg G W (.rd p)) := by
  refine PE.imp ha fun σ H Q ⟨ρ, Fz, Bz, f, re, wf, out⟩ => ?_
  simp only [evE] at out
  refine LP.one re (At.start wf) out ?_
  intro q ρ1 u v x H1 Fz1 fρ re1 s1 t1 hv hp hg hx out1
  split at out1
  · rename_i d e
    rw [hg] at e
    cases e
    obtain ⟨fx, g, rv, nx, hs, l, ctx⟩ := re1.place hv hp hg hx
    cases rv with
    | dat rp z => exact out1.made (S := Fz1) re1 t1 (fun h => by simpa [E.pure] using h) (.old rp) fun _ h => h
  · exact out1.elim
theorem le_bp {p : P} {ep : Expr} (ha : PE X ep (LP X.K X.mg G W p)) : PE X ep (LE X.K X.mg G W (.bp p)) := by
  refine PE.imp ha fun σ H Q ⟨ρ, Fz, Bz, f, re, wf, out⟩ => ?_
  simp only [evE] at out
  refine LP.one re (At.start wf) out ?_
  intro q ρ1 u v x H1 Fz1 fρ re1 s1 t1 hv hp hg hx out1
  split at out1
  · rename_i x' e
    rw [hg] at e
    cases e
    cases hw : x.view with
    | none => rw [hw] at out1; exact out1.elim
    | some d =>
      rw [hw] at out1
      obtain ⟨fx, g, rv, nx, hs, l, ctx⟩ := re1.place hv hp hg hx
      exact out1 u H1 Fz1 fρ (fun _ => 0) re1 (.tr (rv.look hw) fun _ => rfl) (t1.weak fun h => by simpa [E.pure] using h)
  · exact out1.elim

theorem isLst_some {o : Option D} (h : isLst o = true) : ∃ xs, o = some (.lst xs) := by
  cases o with
  | none => cases h
  | some x => cases x <;> first | exact ⟨_, rfl⟩ | cases h
/-- a method that changes a list at a place; vR: the change of the values, as the rule has it -/
theorem pm_core {m : Pm} {p : P} {es : Es} {σ : L2.St} {H : Hp} {Q : VK} {R2' : V → List V → Hp → Prop} (h : LE X.K X.mg G W (.pm m p es) σ H Q)
    (fin : ∀ (a : Addr) (vs ys : List V) (xs ds xs' : List D) (y : D) (H2 : Hp) (Fz2 Bz : Addr → Prop) (fx fy : Addr → Nat), H2 a = some (.lst vs) → RvL X.K H2 Fz2 Bz vs xs fx → RvL X.K H2 Fz2 Bz ys ds fy → D.ntrL xs = true → pmD m xs ds = some (xs', y) →
      (∀ (vs' : List V) (v' : V) (fx' fd : Addr → Nat), RvL X.K H2 Fz2 Bz vs' xs' fx' → D.ntrL xs' = true → Rv X.K H2 Fz2 Bz v' y fd → y.ntr = true → (∀ b, fx' b + fd b ≤ fx b + fy b) → Q v' (upd H2 a (.lst vs'))) → R2' (.ref a) ys H2) :
    LP X.K X.mg G W p σ H fun u H1 => tyV X.K "list" u H1 ∧ LEs X.K X.mg G W es σ H1 fun ys H2 => R2' u ys H2 := by
  obtain ⟨ρ, Fz, Bz, f, re, wf, out⟩ := h
  simp only [evE] at out
  refine LP.one re (At.start wf) out ?_
  intro q ρ1 u v x H1 Fz1 fρ1 re1 s1 t1 hv hp hg hx out1
  by_cases hc : (isLst (getS (slot ρ1 q.1) q.2) && (q.2.isEmpty || es.pure)) = true
  · rw [if_pos hc] at out1
    rw [Bool.and_eq_true] at hc
    obtain ⟨xs1, e1⟩ := isLst_some hc.1
    rw [hg] at e1
    cases e1
    obtain ⟨fx1, g1, rv1, _, _, _, _⟩ := re1.place hv hp hg hx
    have ty : tyV X.K "list" u H1 := by
      cases rv1 with
      | lst h1 _ _ => exact .inl ⟨rfl, _, SqL.of h1⟩
    refine ⟨ty, LEs.one re1 t1 out1 ?_⟩
    intro ds ρ2 ys H2 Fz2 fρ2 fd2 re2 rvs s2 t2 out2
    split at out2
    · rename_i xs e2
      cases hd : pmD m xs ds with
      | none => rw [hd] at out2; exact out2.elim
      | some w =>
        obtain ⟨xs', y⟩ := w
        rw [hd] at out2
        simp only at out2
        have nd : D.lst xs ≠ .dead := fun z => by cases z
        have hp2 : PathV H2 v q.2 u := by
          rcases (Bool.or_eq_true _ _).mp hc.2 with z | z
          · have e : q.2 = [] := by simpa using z
            rw [e] at hp ⊢
            cases hp
            exact .nil
          · exact hp.same fun b o e => s2.keep b o e (.inr z)
        obtain ⟨fx, g, rv, nx, hs, l, ctx⟩ := re2.place hv hp2 e2 nd
        obtain ⟨a, vs, g0, rfl, h1, h2, h3⟩ := rv.lst_inv
        · simp only [D.ntr] at nx
          refine fin a vs ys xs ds xs' y H2 Fz2 Bz g0 fd2 h1 h2 rvs nx hd fun vs' v' fx' fd r' n' ry ny le => ?_
          -- the write
          have fxa : 1 ≤ fx a := by rw [h3, if_pos rfl]; omega
          have wf2 := t2.wf
          have own1 : ∀ b, fρ2 b + (0 + fd2 b) ≤ 1 := fun b => wf2.lin b
          have tot : ∀ b, fρ2 b = g0 b + (if b = a then 1 else 0) + g b := fun b => by rw [hs, h3]
          have na : ∀ b, 1 ≤ g b → b ≠ a := fun b z e => by subst e; have := own1 b; have := tot b; rw [if_pos rfl] at this; omega
          have nF : ∀ b o, H2 b = some o → (Fz2 b ∨ Bz b ∨ ¬ Ow o) → b ≠ a := fun b o eb z e => by
            subst e
            rcases z with z | z | z
            · have := (wf2.fz b z).1; have := tot b; rw [if_pos rfl] at this; omega
            · have := (wf2.bz b z).1; have := tot b; rw [if_pos rfl] at this; omega
            · rw [h1] at eb; cases eb; exact z trivial
          have nF' : ∀ b, 1 ≤ fx' b + fd b → b ≠ a := fun b z e => by
            subst e
            have := own1 b; have := tot b; rw [if_pos rfl] at this; have := le b; omega
          have up : ∀ b o, b ≠ a → H2 b = some o → (upd H2 a (.lst vs')) b = some o := fun b o n e => by rw [upd_ne n]; exact e
          have r2 : RvL X.K (upd H2 a (.lst vs')) Fz2 Bz vs' xs' fx' := r'.keep (fun b o e z => up b o (nF b o e z) e) (fun _ z => z) n' fun b o e z => up b o (nF' b (by omega)) e
          have ry2 : Rv X.K (upd H2 a (.lst vs')) Fz2 Bz v' y fd := ry.keep (fun b o e z => up b o (nF b o e z) e) (fun _ z => z) ny fun b o e z => up b o (nF' b (by omega)) e
          have nl : (D.lst xs').ntr = true := by simpa [D.ntr] using n'
          obtain ⟨d', ed, re3⟩ := ctx (upd H2 a (.lst vs')) Fz2 (fun b o e z => up b o (nF b o e z) e) (fun _ z => z) (fun b o e z => up b o (na b z) e) (.lst xs') (fun b => fx' b + if b = a then 1 else 0) (.lst upd_same r2 fun b => rfl) nl
          rw [ed] at out2
          simp only at out2
          have t3 := t2.write (o' := .lst vs') (g := fun b => fx' b + (if b = a then 1 else 0) + g b) (r1 := fd) h1 (by have := tot a; rw [if_pos rfl] at this; omega) trivial fun b => by have := le b; have := tot b; omega
          exact out2 v' _ Fz2 _ fd re3 ry2 (t3.weak fun h => by simp [E.pure] at h)
    · exact out2.elim
  · rw [if_neg hc] at out1
    exact out1.elim
theorem ntrL_append : ∀ {l m : List D}, D.ntrL l = true → D.ntrL m = true → D.ntrL (l ++ m) = true
  | [], _, _, h => h
  | c :: l, m, h, h' => by
    rw [D.ntrL, Bool.and_eq_true] at h
    rw [List.cons_append, D.ntrL, h.1, ntrL_append h.2 h']; rfl
theorem ntrL_erase : ∀ {l : List D} {i : Nat}, D.ntrL l = true → D.ntrL (l.eraseIdx i) = true
  | [], _, _ => rfl
  | c :: l, 0, h => by
    rw [D.ntrL, Bool.and_eq_true] at h
    exact h.2
  | c :: l, i + 1, h => by
    rw [D.ntrL, Bool.and_eq_true] at h
    rw [List.eraseIdx_cons_succ, D.ntrL, h.1, ntrL_erase h.2]; rfl
variable {apos cpos : Pos} {ep : Expr}
theorem le_append {p : P} {es : Es} {e : Expr} {as : List Expr} (hp : PE X ep (LP X.K X.mg G W p)) (ha : PA X (e :: as) (LEs X.K X.mg G W es)) (hbase : attributeBase ep "append" X.env (eval ep X.env) = eval ep X.env)
    (hfew : ((backTo cpos (starEach (e :: as) X.env)).all (fun x => !x.1) && (backToKw cpos (keywordEach [] X.env)).all (fun x => x.1.isSome)
      && decide ((e :: as).length + ([] : List Keyword).length + (if ([] : List Keyword).isEmpty then 0 else 1) < 30)) = true)
    (hline : (apos.endLine == cpos.line) = true) (hs : starEach (e :: as) X.env = (false, eval e X.env) :: starEach as X.env) (hplain : (backTo cpos (starEach as X.env)).any (·.1) = false) :
    PE X (.Call (.Attribute ep "append" apos) (e :: as) [] cpos) (LE X.K X.mg G W (.pm .append p es)) := by
  refine PE.imp (pe_bm PySem.F.plainAttrs_list PySem.F.slot_list_append PySem.F.type_list_append mt_append hp ha hbase hfew hline hs hplain) fun σ H Q h => ?_
  refine pm_core h fun a vs ys xs ds xs' y H2 Fz2 Bz fx fy ha rx ry nx hd k => ?_
  unfold pmD at hd
  split at hd <;> try first | contradiction | cases hd
  · split at hd
    · rename_i hl
      split at hd
      · rename_i ho
        cases hd
        obtain ⟨w, f0, rfl, r1, q1⟩ := ry.one_inv
        · · refine ⟨a, vs, w, rfl, rfl, ha, by rw [rx.length, sizeLine_eq]; exact of_decide_eq_true hl, k (vs ++ [w]) .non (fun b => fx b + f0 b) (fun _ => 0) (rx.append (.cons r1 (.nil fun _ => rfl) fun b => rfl) fun b => by show _ = fx b + (f0 b + 0); omega) ?_ (.dat .non fun _ => rfl) rfl fun b => ?_⟩
            · exact ntrL_append nx (by rw [D.ntrL, ntr_of_own ho]; rfl)
            · rw [q1]; omega
      · cases hd
    · cases hd
theorem le_extend {p : P} {es : Es} {e : Expr} {as : List Expr} (hp : PE X ep (LP X.K X.mg G W p)) (ha : PA X (e :: as) (LEs X.K X.mg G W es)) (hbase : attributeBase ep "extend" X.env (eval ep X.env) = eval ep X.env)
    (hfew : ((backTo cpos (starEach (e :: as) X.env)).all (fun x => !x.1) && (backToKw cpos (keywordEach [] X.env)).all (fun x => x.1.isSome)
      && decide ((e :: as).length + ([] : List Keyword).length + (if ([] : List Keyword).isEmpty then 0 else 1) < 30)) = true)
    (hline : (apos.endLine == cpos.line) = true) (hs : starEach (e :: as) X.env = (false, eval e X.env) :: starEach as X.env) (hplain : (backTo cpos (starEach as X.env)).any (·.1) = false) :
    PE X (.Call (.Attribute ep "extend" apos) (e :: as) [] cpos) (LE X.K X.mg G W (.pm .extend p es)) := by
  refine PE.imp (pe_bm PySem.F.plainAttrs_list PySem.F.slot_list_extend PySem.F.type_list_extend mt_extend hp ha hbase hfew hline hs hplain) fun σ H Q h => ?_
  refine pm_core h fun a vs ys xs ds xs' y H2 Fz2 Bz fx fy ha rx ry nx hd k => ?_
  unfold pmD at hd
  split at hd <;> try first | contradiction | cases hd
  · split at hd
    · rename_i ys0 hl
      cases hd
      rw [Bool.and_eq_true] at hl
      obtain ⟨w, f0, rfl, r1, q1⟩ := ry.one_inv
      obtain ⟨b, zs, g0, rfl, hb, rb, qb⟩ := r1.lst_inv
      · · · have len := fits_line hl.1
            rw [← rx.length, ← rb.length] at len
            refine ⟨a, b, vs, zs, rfl, rfl, ha, hb, len, k (vs ++ zs) .non (fun c => fx c + g0 c) (fun _ => 0) (rx.append rb fun c => rfl) (ntrL_append nx (ntrL_of_own hl.2)) (.dat .non fun _ => rfl) rfl fun c => ?_⟩
            rw [q1, qb]
            omega
    · cases hd
theorem le_popAt {p : P} {es : Es} {e : Expr} {as : List Expr} (hp : PE X ep (LP X.K X.mg G W p)) (ha : PA X (e :: as) (LEs X.K X.mg G W es)) (hbase : attributeBase ep "pop" X.env (eval ep X.env) = eval ep X.env)
    (hfew : ((backTo cpos (starEach (e :: as) X.env)).all (fun x => !x.1) && (backToKw cpos (keywordEach [] X.env)).all (fun x => x.1.isSome)
      && decide ((e :: as).length + ([] : List Keyword).length + (if ([] : List Keyword).isEmpty then 0 else 1) < 30)) = true)
    (hline : (apos.endLine == cpos.line) = true) (hs : starEach (e :: as) X.env = (false, eval e X.env) :: starEach as X.env) (hplain : (backTo cpos (starEach as X.env)).any (·.1) = false) :
    PE X (.Call (.Attribute ep "pop" apos) (e :: as) [] cpos) (LE X.K X.mg G W (.pm .popAt p es)) := by
  refine PE.imp (pe_bm PySem.F.plainAttrs_list PySem.F.slot_list_pop PySem.F.type_list_pop mt_popAt hp ha hbase hfew hline hs hplain) fun σ H Q h => ?_
  refine pm_core h fun a vs ys xs ds xs' y H2 Fz2 Bz fx fy ha rx ry nx hd k => ?_
  unfold pmD at hd
  split at hd <;> try first | contradiction | cases hd
  · split at hd
    · rename_i i _ hl
      rw [Bool.and_eq_true] at hl
      obtain ⟨j, ej, e1⟩ := Option.bind_eq_some_iff.mp hd
      obtain ⟨z, ez, e2⟩ := Option.map_eq_some_iff.mp e1
      cases e2
      obtain ⟨w, fi, g, hw, rw', q, _, er⟩ := rx.split ez
      obtain ⟨w1, f0, rfl, r1, q1⟩ := ry.one_inv
      · · cases r1 with
          | dat rp _ =>
            have e := rp.int_inv; subst e
            rw [← rx.length] at ej
            exact ⟨a, vs, i, j, w, rfl, rfl, ha, of_decide_eq_true hl.1, of_decide_eq_true hl.2, (ixN_seq ej).1, hw, k (vs.eraseIdx j) w g fi er (ntrL_erase nx) rw' (ntrL_get nx ez) fun b => by rw [q]; omega⟩
    · cases hd
theorem le_pop {p : P} (hp : PE X ep (LP X.K X.mg G W p)) (hbase : attributeBase ep "pop" X.env (eval ep X.env) = eval ep X.env)
    (hline : (apos.endLine == cpos.line) = true) :
    PE X (.Call (.Attribute ep "pop" apos) [] [] cpos) (LE X.K X.mg G W (.pm .pop p .nil)) := by
  refine PE.imp (pe_bm0 PySem.F.plainAttrs_list PySem.F.slot_list_pop PySem.F.type_list_pop mt_pop hp hbase hline) fun σ H Q h => ?_
  have h' := pm_core (R2' := fun u ys H2 => ys = [] ∧ rPop u [] H2 Q) h fun a vs ys xs ds xs' y H2 Fz2 Bz fx fy ha rx ry nx hd k => by
    unfold pmD at hd
    split at hd <;> try first | contradiction | cases hd
    · obtain ⟨z, ez, e2⟩ := Option.map_eq_some_iff.mp hd
      cases e2
      obtain ⟨rfl, _⟩ := ry.nil_inv
      obtain ⟨w, fi, g, hw, rw', q, _, er⟩ := rx.split ez
      have dl : ∀ {α : Type} (l : List α), l.eraseIdx (l.length - 1) = l.dropLast := fun l => by
        rw [List.eraseIdx_eq_take_drop_succ]
        rcases l with _ | ⟨c, l⟩
        · rfl
        · rw [List.dropLast_eq_take]
          simp
      rw [← rx.length] at er
      rw [dl vs] at er
      rw [rx.length, dl] at er
      exact ⟨rfl, a, vs, w, rfl, rfl, ha, by rw [rx.length]; exact hw, k vs.dropLast w g fi er (by rw [← dl]; exact ntrL_erase nx) rw' (ntrL_get nx ez) fun b => by rw [q]; omega⟩
  obtain ⟨ρ, Fz, Bz, f, re, wf, out⟩ := h'
  refine ⟨ρ, Fz, Bz, f, re, wf, ?_⟩
  revert out
  cases evP G p ρ with
  | no => exact id
  | ex x ρ' => exact id
  | ok q ρ' =>
    intro out u v x H' Fz' fρ re' t hv hp hg hx
    obtain ⟨ty, hl⟩ := out u v x H' Fz' fρ re' t hv hp hg hx
    exact ⟨ty, (nil_imp hl).2⟩
end
end DE
end

section
set_option Elab.async false
set_option linter.all false
/-! DE12: calls of own functions. -/
namespace DE
open PySem PySem.Spec PyProof.Rows L2

section
variable {K : PySem.W.Frag} {mg : Str → Option Value} {G : List Fn} {W : WX} {σ : L2.St} {Bz Bz' Fz0 Fz Fz1 Fz2 : Addr → Prop} {pu p q : Bool} {H0 H H1 H2 : Hp} {f0 f r f1 r1 f2 g : Addr → Nat} {ρ ρ1 ρ2 : Env}
mutual
theorem Rv.bmono (m : ∀ b, Bz b → Bz' b) : ∀ {v : V} {d : D} {f : Addr → Nat}, Rv K H Fz Bz v d f → Rv K H Fz Bz' v d f
  | _, _, _, .dat h z => .dat h z
  | _, _, _, .bor h z => .bor (h.mono fun b q => q.elim .inl fun q => .inr (m b q)) z
  | _, _, _, .tr h z => .tr h z
  | _, _, _, .lst h r q => .lst h (RvL.bmono m r) q
  | _, _, _, .dead z => .dead z
theorem RvL.bmono (m : ∀ b, Bz b → Bz' b) : ∀ {vs : List V} {ds : List D} {f : Addr → Nat}, RvL K H Fz Bz vs ds f → RvL K H Fz Bz' vs ds f
  | _, _, _, .nil z => .nil z
  | _, _, _, .cons r t q => .cons (Rv.bmono m r) (RvL.bmono m t) q
end
mutual
/-- a look, told where it leans on -/
theorem Rv.lookS : ∀ {v : V} {d : D} {f : Addr → Nat} {p : PyData}, Rv K H Fz Bz v d f → d.ntr = true → d.view = some p → Rp K H (fun a => Fz a ∨ Bz a ∨ 1 ≤ f a) v p
  | _, _, _, _, .dat h _, _, e => by simp only [D.view, Option.some.injEq] at e; subst e; exact h.mono fun _ q => .inl q
  | _, _, _, _, .bor h _, _, e => by simp only [D.view, Option.some.injEq] at e; subst e; exact h.mono fun _ q => q.elim .inl fun q => .inr (.inl q)
  | _, _, _, _, .tr h _, n, e => by simp [D.ntr] at n
  | _, _, _, _, .lst h r q, n, e => by
    simp only [D.view] at e
    obtain ⟨ps, e1, e2⟩ := Option.map_eq_some_iff.mp e
    subst e2
    exact .lst (.inl ⟨h, .inr (.inr (by rw [q, if_pos rfl]; omega))⟩) ((RvL.lookS r (by simpa [D.ntr] using n) e1).mono fun b z => z.imp id fun z => z.imp id fun z => by rw [q]; omega)
  | _, _, _, _, .dead _, _, e => by simp [D.view] at e
theorem RvL.lookS : ∀ {vs : List V} {ds : List D} {f : Addr → Nat} {ps : List PyData}, RvL K H Fz Bz vs ds f → D.ntrL ds = true → D.viewL ds = some ps → RpL K H (fun a => Fz a ∨ Bz a ∨ 1 ≤ f a) vs ps
  | _, _, _, _, .nil _, _, e => by simp only [D.viewL, Option.some.injEq] at e; subst e; exact .nil
  | _, _, _, _, .cons (d := d) (ds := ds) r t q, n, e => by
    rw [D.ntrL, Bool.and_eq_true] at n
    rw [D.viewL] at e
    cases h1 : d.view with
    | none => rw [h1] at e; simp at e
    | some a =>
      cases h2 : D.viewL ds with
      | none => rw [h1, h2] at e; simp at e
      | some b =>
        rw [h1, h2] at e
        simp only [Option.some.injEq] at e
        subst e
        exact .cons ((Rv.lookS r n.1 h1).mono fun b z => z.imp id fun z => z.imp id fun z => by rw [q]; omega) ((RvL.lookS t n.2 h2).mono fun b z => z.imp id fun z => z.imp id fun z => by rw [q]; omega)
end
theorem Rp.bor {v : V} {p : PyData} (h : Rp K H (fun a => Fz a ∨ Bz a) v p) : Rv K H Fz Bz v (borD p) (fun _ => 0) := by
  cases h with
  | non => exact .dat .non fun _ => rfl
  | bl b => exact .dat (.bl b) fun _ => rfl
  | int i => exact .dat (.int i) fun _ => rfl
  | str x => exact .dat (.str x) fun _ => rfl
  | lst h r => exact .bor (.lst h r) fun _ => rfl
  | tup h r => exact .bor (.tup h r) fun _ => rfl
theorem ntr_borD (p : PyData) : (borD p).ntr = true := by cases p <;> rfl
theorem flat_borD (p : PyData) : (borD p).flat = true := by cases p <;> rfl
theorem RvL.flat : ∀ {vs : List V} {ds : List D} {f : Addr → Nat}, RvL K H Fz Bz vs ds f → ds.all D.flat = true → ∀ b, f b = 0
  | _, _, _, .nil z, _, b => z b
  | _, _, _, .cons r t q, h, b => by
    rw [List.all_cons, Bool.and_eq_true] at h
    have ht := RvL.flat t h.2 b
    rw [q, ht]
    cases r with
    | dat _ z => rw [z]
    | bor _ z => rw [z]
    | tr _ z => simp [D.flat] at h
    | lst _ _ _ => simp [D.flat] at h
    | dead _ => simp [D.flat] at h

/-- arguments as they were looked at -/
inductive ArOk (K : PySem.W.Frag) (H : Hp) (Fz Bz : Addr → Prop) (σ : L2.St) : List Ar → List V → (Addr → Nat) → Prop
  | nil {f : Addr → Nat} : (∀ b, f b = 0) → ArOk K H Fz Bz σ [] [] f
  | val {v : V} {d : D} {vs : List V} {as : List Ar} {f g h : Addr → Nat} : Rv K H Fz Bz v d f → d.ntr = true → ArOk K H Fz Bz σ as vs g → (∀ b, h b = f b + g b) → ArOk K H Fz Bz σ (.val d :: as) (v :: vs) h
  | ref {v u : V} {i : Nat} {sel : List Sel} {vs : List V} {as : List Ar} {g : Addr → Nat} : σ[i]? = some (some v) → PathV H v sel u → ArOk K H Fz Bz σ as vs g → ArOk K H Fz Bz σ (.ref i sel :: as) (u :: vs) g
  | look {v u : V} {i : Nat} {sel : List Sel} {vs : List V} {as : List Ar} {g : Addr → Nat} : σ[i]? = some (some v) → PathV H v sel u → ArOk K H Fz Bz σ as vs g → ArOk K H Fz Bz σ (.look i sel :: as) (u :: vs) g

/-- the arguments are taken out of the env; behind the call what comes back is put in -/
theorem take_ok : ∀ {as : List Ar} {vs : List V} {g : Addr → Nat} {ρ : Env} {fρ : Addr → Nat} {ds : List D} {bs : List (Option Back)} {ρ1 : Env}, ArOk K H Fz Bz σ as vs g → Re K H Fz Bz σ ρ fρ → takeAs as ρ = some (ds, bs, ρ1) →
    ∃ f1 fa fb : Addr → Nat, Re K H Fz Bz σ ρ1 f1 ∧ RvL K H Fz (fun a => Bz a ∨ 1 ≤ f1 a) vs ds fa ∧ D.ntrL ds = true ∧ (∀ b, fρ b + g b = f1 b + fa b + fb b) ∧
      ∀ (H' : Hp) (Fz' : Addr → Prop), (∀ b o, H b = some o → (Fz b ∨ Bz b ∨ ¬ Ow o) → H' b = some o) → (∀ b, Fz b → Fz' b) → (∀ b o, H b = some o → 1 ≤ fb b → H' b = some o) →
        ∀ (outs : List D) (fo : Addr → Nat) (Bz'' : Addr → Prop), RvL K H' Fz' Bz'' vs outs fo → ∀ (ρ'' : Env) (f'' : Addr → Nat), Re K H' Fz' Bz σ ρ'' f'' → ∀ ρ2, putBack bs outs ρ'' = some ρ2 → ∃ f2 : Addr → Nat, Re K H' Fz' Bz σ ρ2 f2 ∧ ∀ b, f2 b ≤ f'' b + fb b + fo b
  | _, _, _, _, fρ, _, _, _, .nil z, re, e => by
    simp only [takeAs, Option.some.injEq, Prod.mk.injEq] at e
    obtain ⟨rfl, rfl, rfl⟩ := e
    refine ⟨fρ, fun _ => 0, fun _ => 0, re, .nil fun _ => rfl, rfl, fun b => by rw [z]; rfl, fun H' Fz' k m kg outs fo Bz'' ro ρ'' f'' re'' ρ2 e2 => ?_⟩
    cases ro with
    | nil z' =>
      simp only [putBack, Option.some.injEq] at e2
      subst e2
      exact ⟨f'', re'', fun b => by omega⟩
  | _, _, _, ρ, fρ, _, _, _, .val (d := d) (as := as) (f := fd) (g := g') rv n t q, re, e => by
    simp only [takeAs] at e
    split at e
    · rename_i ds' bs' ρ' e1
      simp only [Option.some.injEq, Prod.mk.injEq] at e
      obtain ⟨rfl, rfl, rfl⟩ := e
      obtain ⟨f1, fa, fb, re1, rvl, nl, hs, back⟩ := take_ok t re e1
      refine ⟨f1, fun b => fd b + fa b, fb, re1, .cons (rv.bmono fun _ h => .inl h) rvl fun _ => rfl, by rw [D.ntrL, n, nl]; rfl, fun b => by show _ = f1 b + (fd b + fa b) + fb b; have := hs b; rw [q]; omega, fun H' Fz' k m kg outs fo Bz'' ro ρ'' f'' re'' ρ2 e2 => ?_⟩
      cases ro with
      | cons r0 r1 q1 =>
        simp only [putBack] at e2
        obtain ⟨f2, re2, le⟩ := back H' Fz' k m kg _ _ Bz'' r1 ρ'' f'' re'' ρ2 e2
        exact ⟨f2, re2, fun b => by have := le b; rw [q1]; omega⟩
    · cases e
  | _, _, _, ρ, fρ, _, _, _, .look (v := v) (u := u) (i := i) (sel := sel) (as := as) (g := g') hv hp t, re, e => by
    simp only [takeAs] at e
    split at e
    · rename_i ds' bs' ρ' e1
      split at e
      · rename_i x ex
        split at e
        · rename_i d ed
          simp only [Option.some.injEq, Prod.mk.injEq] at e
          obtain ⟨rfl, rfl, rfl⟩ := e
          obtain ⟨f1, fa, fb, re1, rvl, nl, hs, back⟩ := take_ok t re e1
          have nx : x ≠ .dead := fun z => by subst z; simp [D.view] at ed
          obtain ⟨fx, g2, rx, ntx, sx, _, _⟩ := re1.place hv hp ex nx
          have rb : Rp K H (fun a => Fz a ∨ (Bz a ∨ 1 ≤ f1 a)) u d := (rx.lookS ntx ed).mono fun a h => h.imp id fun h => h.imp id fun h => by rw [sx]; omega
          refine ⟨f1, fa, fb, re1, .cons (f := fun _ => 0) rb.bor rvl (fun b => by simp), by rw [D.ntrL, ntr_borD, nl]; rfl, hs, fun H' Fz' k m kg outs fo Bz'' ro ρ'' f'' re'' ρ2 e2 => ?_⟩
          cases ro with
          | cons r0 r1 q1 =>
            simp only [putBack] at e2
            obtain ⟨f2, re2, le⟩ := back H' Fz' k m kg _ _ Bz'' r1 ρ'' f'' re'' ρ2 e2
            exact ⟨f2, re2, fun b => by have := le b; rw [q1]; omega⟩
        · cases e
      · cases e
    · cases e
  | _, _, _, ρ, fρ, _, _, _, .ref (v := v) (u := u) (i := i) (sel := sel) (as := as) (g := g') hv hp t, re, e => by
    simp only [takeAs] at e
    split at e
    · cases e
    · rename_i x nd0 ex
      split at e
      · rename_i ds' bs' ρ' e1
        simp only [Option.some.injEq, Prod.mk.injEq] at e
        obtain ⟨rfl, rfl, rfl⟩ := e
        have nx : x ≠ .dead := fun z => by subst z; exact nd0 rfl
        have ns := live_slot ex nx
        have l := slot_lt ns
        obtain ⟨o, fi, g0, eo, rs, hf, rest⟩ := re.split l
        rcases rs with ⟨z, _⟩ | ⟨w, z, n, rv⟩
        · exact (ns z).elim
        · subst z
          rw [hv] at eo
          cases eo
          obtain ⟨u', fx, gx, hp', ru, ntx, hsx, ctx⟩ := rv.path sel ex n
          have eu := PathV.fun hp hp'
          subst eu
          obtain ⟨f1, fa, fb, re1, rvl, nl, hs, back⟩ := take_ok t rest e1
          refine ⟨f1, fun b => fx b + fa b, fun b => gx b + fb b, re1, .cons (ru.bmono fun _ h => .inl h) rvl fun _ => rfl, by rw [D.ntrL, ntx, nl]; rfl, fun b => by show _ = f1 b + (fx b + fa b) + (gx b + fb b); have := hs b; rw [hf, hsx]; omega, fun H' Fz' k m kg outs fo Bz'' ro ρ'' f'' re'' ρ2 e2 => ?_⟩
          cases ro with
          | cons r0 r1 q1 =>
            rename_i o0 os fo0 fo1
            simp only [putBack] at e2
            split at e2
            · rename_i ho
              split at e2
              · rename_i d' ed
                split at e2
                · rename_i lr
                  obtain ⟨d2, ed2, n2, r2⟩ := ctx H' Fz' k m (fun b o e h => kg b o e (by show 1 ≤ gx b + fb b; omega)) o0 _ (r0.unbor ho) (ntr_of_own ho)
                  rw [ed] at ed2
                  cases ed2
                  obtain ⟨o', fi', g'', eo', _, hf', rest'⟩ := re''.split lr
                  have re3 : Re K H' Fz' Bz σ (ρ''.set i d') (fun b => (fo0 b + gx b) + g'' b) := Re.put' rest' lr hv (.inr ⟨v, rfl, n2, r2⟩) fun b => rfl
                  obtain ⟨f2, re2, le⟩ := back H' Fz' k m (fun b o e h => kg b o e (by show 1 ≤ gx b + fb b; omega)) _ _ Bz'' r1 _ _ re3 ρ2 e2
                  exact ⟨f2, re2, fun b => by have := le b; show _ ≤ f'' b + (gx b + fb b) + _; have := q1 b; have := hf' b; (try dsimp only at *); omega⟩
                · cases e2
              · cases e2
            · cases e2
      · cases e
    · cases e

/-- what must hold behind the arguments' run -/
def OutA (K : PySem.W.Frag) (mg : Str → Option Value) (Bz : Addr → Prop) (σ : L2.St) (pu : Bool) (H : Hp) (Fz : Addr → Prop) (f : Addr → Nat) (W : WX) (r : R (List Ar)) (Q : List V → Hp → Prop) : Prop :=
  match r with
  | .ok as ρ => ∀ vs H' Fz' fρ g, Re K H' Fz' Bz σ ρ fρ → ArOk K H' Fz' Bz σ as vs g → At Bz pu H Fz f H' Fz' fρ g → Q vs H'
  | .ex x ρ => ∀ cls dx H' Fz' fρ, Re K H' Fz' Bz σ ρ fρ → Ex mg H' x cls dx → At Bz false H Fz f H' Fz' fρ (fun _ => 0) → W cls dx σ H'
  | .no => False
def LA (K : PySem.W.Frag) (mg : Str → Option Value) (G : List Fn) (W : WX) (as : As) : TA := fun σ H Q => ∃ ρ Fz Bz f, Re K H Fz Bz σ ρ f ∧ Wf H Fz Bz f ∧ OutA K mg Bz σ as.pure H Fz f W (evAs G as ρ) Q
theorem LA.sub {e : As} {Q : List V → Hp → Prop} (re : Re K H Fz Bz σ ρ f) (t : At Bz p H0 Fz0 f0 H Fz f r)
    (hx : ∀ x ρ', evAs G e ρ = .ex x ρ' → ∀ cls dx H' Fz' fρ, Re K H' Fz' Bz σ ρ' fρ → Ex mg H' x cls dx → At Bz false H0 Fz0 f0 H' Fz' fρ (fun _ => 0) → W cls dx σ H')
    (hn : evAs G e ρ ≠ .no)
    (hok : ∀ as ρ', evAs G e ρ = .ok as ρ' → ∀ vs H' Fz' fρ g, Re K H' Fz' Bz σ ρ' fρ → ArOk K H' Fz' Bz σ as vs g → Stp e.pure H Fz f H' Fz' (fun b => fρ b + g b) → At Bz (p && e.pure) H0 Fz0 f0 H' Fz' fρ (fun b => r b + g b) → Q vs H') :
    LA K mg G W e σ H Q := by
  refine ⟨ρ, Fz, Bz, f, re, t.env, ?_⟩
  cases h : evAs G e ρ with
  | ok d ρ' =>
    intro vs H' Fz' fρ g re' rv a
    have a' := t.step a.stp a.wf
    exact hok d ρ' h vs H' Fz' fρ g re' rv a.stp (a'.cong fun b => by omega)
  | ex x ρ' =>
    intro cls dx H' Fz' fρ re' ex a
    refine hx x ρ' h cls dx H' Fz' fρ re' ex ?_
    have a' := t.step a.stp a.wf
    rw [Bool.and_false] at a'
    exact a'.less fun b => by omega
  | no => exact (hn h).elim
theorem la_nil_imp {Q : List V → Hp → Prop} (h : LA K mg G W .nil σ H Q) : tNil σ H Q := by
  obtain ⟨ρ, Fz, Bz, f, re, wf, out⟩ := h
  simp only [evAs] at out
  exact out [] H Fz f (fun _ => 0) re (.nil fun _ => rfl) (At.start wf)
theorem la_val_imp {e : E} {es : As} {Q : List V → Hp → Prop} (h : LA K mg G W (.val e es) σ H Q) : tCons (LE K mg G W e) (LA K mg G W es) σ H Q := by
  obtain ⟨ρ, Fz, Bz, f, re, wf, out⟩ := h
  simp only [evAs] at out
  refine LE.sub (k := fun d ρ => R.ok d ρ) re (At.start wf) ?_ ?_ ?_
  · intro x ρ' e; rw [e] at out; exact out
  · intro e; rw [e] at out; exact out
  · intro x ρ1 e1 v H1 Fz1 fρ1 fd1 re1 rv1 s1 t1
    rw [e1] at out
    simp only [R.bind] at out
    by_cases hs : x.ntr = true
    · rw [if_pos hs] at out
      refine LA.sub re1 t1 ?_ ?_ ?_
      · intro x ρ' e; rw [e] at out; exact out
      · intro e; rw [e] at out; exact out
      · intro xs ρ2 e2 vs H2 Fz2 fρ2 g2 re2 ao s2 t2
        rw [e2] at out
        have rv1' := rv1.frame (.inl hs) s2 (t1.wf.cong fun b => by omega)
        exact out (v :: vs) H2 Fz2 fρ2 (fun b => fd1 b + g2 b) re2 (.val rv1' hs ao fun _ => rfl) ((t2.weak fun h => by simpa [As.pure] using h).cong fun b => by omega)
    · rw [if_neg hs] at out
      exact out.elim
theorem path_on {q : Nat × List Sel} {b : Bool} {v u : V} (hp : PathV H v q.2 u) (hc : (q.2.isEmpty || b) = true) (s : Stp b H Fz f H1 Fz1 f1) : PathV H1 v q.2 u := by
  rcases (Bool.or_eq_true _ _).mp hc with z | z
  · have e : q.2 = [] := by simpa using z
    rw [e] at hp ⊢
    cases hp
    exact .nil
  · exact hp.same fun b o e => s.keep b o e (.inr z)
theorem la_ref_imp {e : P} {es : As} {Q : List V → Hp → Prop} (h : LA K mg G W (.ref e es) σ H Q) : tCons (LP K mg G W e) (LA K mg G W es) σ H Q := by
  obtain ⟨ρ, Fz, Bz, f, re, wf, out⟩ := h
  simp only [evAs] at out
  refine LP.sub re (At.start wf) ?_ ?_ ?_
  · intro x ρ' e; rw [e] at out; exact out
  · intro e; rw [e] at out; exact out
  · intro q ρ1 e1 u v x H1 Fz1 fρ1 re1 s1 t1 hv hp hg hx
    rw [e1] at out
    simp only [R.bind] at out
    by_cases hs : (q.2.isEmpty || es.pure) = true
    · rw [if_pos hs] at out
      refine LA.sub re1 t1 ?_ ?_ ?_
      · intro x ρ' e; rw [e] at out; exact out
      · intro e; rw [e] at out; exact out
      · intro xs ρ2 e2 vs H2 Fz2 fρ2 g2 re2 ao s2 t2
        rw [e2] at out
        exact out (u :: vs) H2 Fz2 fρ2 g2 re2 (.ref hv (path_on hp hs s2) ao) ((t2.weak fun h => by simp [As.pure] at h).cong fun b => by omega)
    · rw [if_neg hs] at out
      exact out.elim
theorem la_look_imp {e : P} {es : As} {Q : List V → Hp → Prop} (h : LA K mg G W (.look e es) σ H Q) : tCons (LP K mg G W e) (LA K mg G W es) σ H Q := by
  obtain ⟨ρ, Fz, Bz, f, re, wf, out⟩ := h
  simp only [evAs] at out
  refine LP.sub re (At.start wf) ?_ ?_ ?_
  · intro x ρ' e; rw [e] at out; exact out
  · intro e; rw [e] at out; exact out
  · intro q ρ1 e1 u v x H1 Fz1 fρ1 re1 s1 t1 hv hp hg hx
    rw [e1] at out
    simp only [R.bind] at out
    by_cases hs : (q.2.isEmpty || es.pure) = true
    · rw [if_pos hs] at out
      refine LA.sub re1 t1 ?_ ?_ ?_
      · intro x ρ' e; rw [e] at out; exact out
      · intro e; rw [e] at out; exact out
      · intro xs ρ2 e2 vs H2 Fz2 fρ2 g2 re2 ao s2 t2
        rw [e2] at out
        exact out (u :: vs) H2 Fz2 fρ2 g2 re2 (.look hv (path_on hp hs s2) ao) ((t2.weak fun h => by simpa [As.pure] using h).cong fun b => by omega)
    · rw [if_neg hs] at out
      exact out.elim

/-- what must hold behind a def's run -/
def OutF (K : PySem.W.Frag) (mg : Str → Option Value) (Bz : Addr → Prop) (H : Hp) (Fz : Addr → Prop) (f : Addr → Nat) (r : FR) (vs : List V) (Q : VK) (E : XK) : Prop :=
  match r with
  | .ret d outs => ∀ v H' Fz' fo fd, RvL K H' Fz' Bz vs outs fo → d.own = true → Rv K H' Fz' Bz v d fd → At Bz false H Fz f H' Fz' fo fd → Q v H'
  | .ex x outs => ∀ cls dx H' Fz' fo, RvL K H' Fz' Bz vs outs fo → Ex mg H' x cls dx → At Bz false H Fz f H' Fz' fo (fun _ => 0) → E cls dx H'
  | .no => False
/-- a def's promise by its run -/
def spF (K : PySem.W.Frag) (mg : Str → Option Value) (n : Nat) (F : Fn) : Sp := fun vs H Q E => vs.length = n ∧ ∃ ds Fz Bz f, RvL K H Fz Bz vs ds f ∧ D.ntrL ds = true ∧ Wf H Fz Bz f ∧ OutF K mg Bz H Fz f (F ds) vs Q E
theorem call_imp {n m : Nat} {fn : Str} {pu : Bool} {as : As} {Q : VK} (h : LE K mg G W (.call n fn pu as) σ H Q) (hm : ∀ ds, fnAt G n ds ≠ .no → ds.length = m) : LA K mg G W as σ H fun vs H1 => spF K mg m (fnAt G n) vs H1 Q (WE W σ) := by
  obtain ⟨ρ, Fz, Bz, f, re, wf, out⟩ := h
  simp only [evE] at out
  refine LA.sub re (At.start wf) ?_ ?_ ?_
  · intro x ρ' e; rw [e] at out; exact out
  · intro e; rw [e] at out; exact out
  · intro xs ρ1 e1 vs H1 Fz1 fρ g re1 ao s1 t1
    rw [e1] at out
    simp only [R.bind] at out
    unfold callF at out
    split at out
    · exact out.elim
    · rename_i ds bs ρ2 et
      obtain ⟨f1, fa, fb, re2, rvl, nl, hs, back⟩ := take_ok ao re1 et
      split at out
      · exact out.elim
      · rename_i hpu
        have wf1 : Wf H1 Fz1 Bz (fun b => fa b + (f1 b + fb b)) := t1.wf.cong fun b => by have := hs b; (try dsimp only); omega
        -- the callee's ground
        generalize hB : (fun b => (∃ o, H1 b = some o) ∧ fa b = 0) = Bc
        have bIn : ∀ b, Bz b → Bc b := fun b h => by
          rw [← hB]
          exact ⟨(wf1.bz b h).2, by have := (wf1.bz b h).1; (try dsimp only at this); omega⟩
        have fIn : ∀ b, 1 ≤ f1 b → Bc b := fun b h => by
          rw [← hB]
          obtain ⟨o, e, _⟩ := wf1.own b (by (try dsimp only); omega)
          exact ⟨⟨o, e⟩, by have := wf1.lin b; (try dsimp only at this); omega⟩
        have wfc : Wf H1 Fz1 Bc fa := ⟨fun b => by have := wf1.lin b; (try dsimp only at this); omega, fun b h => wf1.own b (by (try dsimp only); omega), fun b h => ⟨by have := (wf1.fz b h).1; (try dsimp only at this); omega, (wf1.fz b h).2⟩, fun b h => by rw [← hB] at h; exact ⟨h.2, h.1⟩⟩
        have rvc : RvL K H1 Fz1 Bc vs ds fa := rvl.bmono fun b h => h.elim (bIn b) (fIn b)
        have hlen : vs.length = m := by
          rw [rvc.length]
          refine hm ds fun z => ?_
          rw [z] at out; exact out
        refine ⟨hlen, ds, Fz1, Bc, fa, rvc, nl, wfc, ?_⟩
        -- behind it
        have fin : ∀ {H' : Hp} {Fz' : Addr → Prop} {fo fd : Addr → Nat} {outs : List D} {ρ3 : Env}, RvL K H' Fz' Bc vs outs fo → At Bc false H1 Fz1 fa H' Fz' fo fd → putBack bs outs ρ2 = some ρ3 →
            ∃ f2, Re K H' Fz' Bz σ ρ3 f2 ∧ At Bz (pu && as.pure) H Fz f H' Fz' f2 fd := fun {H' Fz' fo fd outs ρ3} ro tc eb => by
          have pst : Stp (pu && as.pure) H1 Fz1 fa H' Fz' (fun b => fo b + fd b) := by
            cases hp : (pu && as.pure) with
            | false => exact tc.stp
            | true =>
              have z : ∀ b, fa b = 0 := rvc.flat (by
                rw [hp] at hpu
                cases hz : ds.all D.flat with
                | true => rfl
                | false => rw [hz] at hpu; exact absurd rfl hpu)
              exact ⟨fun b o e _ => tc.stp.keep b o e (.inl (z b)), tc.stp.there, tc.stp.own, tc.stp.fz, tc.stp.mono⟩
          have wfo : Wf H' Fz' Bz (fun b => fo b + fd b) := ⟨tc.wf.lin, tc.wf.own, tc.wf.fz, fun b h => tc.wf.bz b (bIn b h)⟩
          have t1' : At Bz (true && as.pure) H Fz f H1 Fz1 fa (fun b => f1 b + fb b) := t1.cong fun b => by have := hs b; (try dsimp only); omega
          have t2 := t1'.step pst wfo
          have wfr : Wf H1 Fz1 Bz (fun b => fa b + f1 b) := wf1.le fun b => by (try dsimp only); omega
          have re3 := re2.frame tc.stp wfr
          have kk : ∀ b o, H1 b = some o → (Fz1 b ∨ Bz b ∨ ¬ Ow o) → H' b = some o := fun b o e z => tc.stp.keep b o e (.inl (by
            rcases z with z | z | z
            · exact (wfc.fz b z).1
            · exact (wfc.bz b (bIn b z)).1
            · by_cases y : 1 ≤ fa b
              · obtain ⟨o', e', ow⟩ := wfc.own b y
                rw [e] at e'; cases e'
                exact absurd ow z
              · omega))
          obtain ⟨f2, re4, le⟩ := back H' Fz' kk tc.stp.mono (fun b o e z => tc.stp.keep b o e (.inl (by have := wf1.lin b; (try dsimp only at this); omega))) outs fo Bc ro ρ2 f1 re3 ρ3 eb
          exact ⟨f2, re4, (t2.less fun b => by have := le b; (try dsimp only); omega).weak fun h => by simp only [Bool.and_eq_true] at h ⊢; exact ⟨⟨trivial, h.2⟩, h⟩⟩
        cases hF : fnAt G n ds with
        | ret d outs =>
          rw [hF] at out
          simp only at out
          intro v H' Fz' fo fd ro own rd tc
          cases eb : putBack bs outs ρ2 with
          | none => rw [eb] at out; exact out.elim
          | some ρ3 =>
            rw [eb] at out
            obtain ⟨f2, re4, t4⟩ := fin ro tc eb
            exact out v H' Fz' f2 fd re4 (rd.unbor own) t4
        | ex x outs =>
          rw [hF] at out
          simp only at out
          intro cls dx H' Fz' fo ro ex tc
          cases eb : putBack bs outs ρ2 with
          | none => rw [eb] at out; exact out.elim
          | some ρ3 =>
            rw [eb] at out
            obtain ⟨f2, re4, t4⟩ := fin ro tc eb
            exact out cls dx H' Fz' f2 re4 ex (t4.weak fun h => by cases h)
        | no => rw [hF] at out; exact out.elim
end

/-- a def's promise where no repr is under way -/
structure FnG (P : Program) (w : World) (K : PySem.W.Frag) (mg : Str → Option Value) (base : Heap) (CX : CXT) (k : Nat) (f : Addr) (fd : FuncData) (ps : List Str) (sp : Sp) : Prop where
  len : ∀ vs H Q E, sp vs H Q E → vs.length = ps.length
  run : ∀ (A : Around) (outer : List PySem.Env) (s : Shared) (H : Hp) (args : Args) (us : List Value) (vs : List V) (Q : VK) (E : XK), A.guards = some [] → Room k A → Env0 P w K mg base A outer s H → BindsTo s fd args (ps.zip us) → Vals vs us →
    sp vs H Q E → codeAny (model P w) A (.call (.ref f) args) (CR CX outer P w H s Q E) s
section
variable {X : Cx} {G : List Fn} {W : WX} {pos : Pos}
theorem la_nil : PA X [] (LA X.K X.mg G W .nil) := PA.imp pa_nil fun σ H Q h => la_nil_imp h
theorem la_val {e : Expr} {es : List Expr} {a : E} {as : As} (ha : PE X e (LE X.K X.mg G W a)) (hr : PA X es (LA X.K X.mg G W as)) (hs : starEach (e :: es) X.env = (false, eval e X.env) :: starEach es X.env) : PA X (e :: es) (LA X.K X.mg G W (.val a as)) :=
  PA.imp (pa_cons ha hr hs) fun σ H Q h => la_val_imp h
theorem la_ref {e : Expr} {es : List Expr} {p : P} {as : As} (ha : PE X e (LP X.K X.mg G W p)) (hr : PA X es (LA X.K X.mg G W as)) (hs : starEach (e :: es) X.env = (false, eval e X.env) :: starEach es X.env) : PA X (e :: es) (LA X.K X.mg G W (.ref p as)) :=
  PA.imp (pa_cons ha hr hs) fun σ H Q h => la_ref_imp h
theorem la_look {e : Expr} {es : List Expr} {p : P} {as : As} (ha : PE X e (LP X.K X.mg G W p)) (hr : PA X es (LA X.K X.mg G W as)) (hs : starEach (e :: es) X.env = (false, eval e X.env) :: starEach es X.env) : PA X (e :: es) (LA X.K X.mg G W (.look p as)) :=
  PA.imp (pa_cons ha hr hs) fun σ H Q h => la_look_imp h
/-- the callee runs -/
theorem run_G {CX : CXT} {k : Nat} {f : Addr} {fd : FuncData} {ps : List Str} {sp : Sp} {E : XK} {pins : List (Addr × Obj)} {σ : L2.St} {H : Hp} {s : Shared} {Q : VK} {us : List Value} {vs : List V} (F : FnG X.prog X.w X.K X.mg X.base CX k f fd ps sp) (gd : X.A.guards = some [])
    (hr : Room k X.A) (hb : Binds X.K fd ps []) (hx : PassesAt CX X σ E) (I : Inv X pins σ H s) (rv : Vals vs us) (h : sp vs H Q E) : wpAny (model X.prog X.w) X.A (call (.ref f) us) (EP X pins σ Q) X.xe s := by
  have bd := hb s us I.kIn (by rw [List.append_nil, ← rv.length]; exact F.len _ _ _ _ h)
  rw [List.append_nil] at bd
  have ends : ∀ (r : Result) (s' : Shared), CR CX X.stack X.prog X.w H s Q E r s' → match r with
      | .ok (.ret u) => EP X pins σ Q u s'
      | .ok _ => False
      | .error e => X.xe e s' := fun r s' hq => by
    match r, hq with
    | .ok (.ret u), hq => exact I.after hq
    | .error e, hq => exact hx pins H s e s' I hq
  refine wpAny_call (codeAny_mono (F.run X.A X.stack s H ⟨us, []⟩ us vs Q E gd hr I.env0 bd rv h) fun r s' hq => ?_)
  have z := ends r s' hq
  match r, z with
  | .ok (.ret u), z => exact z
  | .error e, z => exact z
theorem pe_callG {CX : CXT} {k : Nat} {f : Addr} {fd : FuncData} {ps : List Str} {sp : Sp} {E : L2.St → XK} {x : Str} {p : Pos} {e : Expr} {es : List Expr} {t : TA} (F : FnG X.prog X.w X.K X.mg X.base CX k f fd ps sp) (gd : X.A.guards = some []) (hr : Room k X.A) (hg : Gl X x)
    (hm : X.mg x = some (.ref f)) (hk : PySem.W.keepIn X.K (.ref f) = true) (hb : Binds X.K fd ps []) (hx : ∀ σ, PassesAt CX X σ (E σ)) (ha : PA X (e :: es) t) (hdb : (x == ("__debug__" : Str)) = false)
    (he : starEach (e :: es) X.env = (false, eval e X.env) :: starEach es X.env) (hpl : (backTo pos (starEach es X.env)).any (·.1) = false) :
    PE X (.Call (.Name x p) (e :: es) [] pos) (fun σ H Q => t σ H fun vs H1 => sp vs H1 Q (E σ)) :=
  ⟨fun pins s σ H Q I h => wpAny_Call_Name_kw (ld_glob I hg hm (PySem.W.callWith_K (h₀ := X.base) I.ok.mod.kin hk (thn (ha.run pos pins s σ H _ I h) fun us s1 ⟨vs, H1, I1, r, q⟩ => ⟨I1.kIn, run_G F gd hr hb (hx σ) I1 r q⟩) he hpl) hdb)⟩
end
end DE
end

section
set_option Elab.async false
set_option linter.all false
/-! DE13: targets, what is walked, comprehensions. -/
namespace DE
open PySem PySem.Spec PyProof.Rows L2

section
variable {K : PySem.W.Frag} {mg : Str → Option Value} {G : List Fn} {W : WX} {σ : L2.St} {Bz Bz' Fz0 Fz Fz1 Fz2 : Addr → Prop} {pu p q : Bool} {H0 H H1 H2 : Hp} {f0 f r f1 r1 f2 g : Addr → Nat} {ρ ρ1 ρ2 : Env}
/-- the slots set to a value -/
theorem Re.store {i : Nat} {x : D} {v : V} {fx : Addr → Nat} (re : Re K H Fz Bz σ ρ f) (l : i < ρ.length) (rv : Rv K H Fz Bz v x fx) (n : x.ntr = true) : ∃ f', Re K H Fz Bz (σ.set i (some v)) (ρ.set i x) f' ∧ ∀ b, f' b ≤ f b + fx b := by
  obtain ⟨o, fi, g, eo, rs, hf, rest⟩ := re.split l
  exact ⟨fun b => fx b + g b, rest.put l (.inr ⟨v, rfl, n, rv⟩) fun b => rfl, fun b => by show fx b + g b ≤ _; rw [hf]; omega⟩
/-- the reading of targets -/
def gNames : List Nat → TGs
  | [] => gNil
  | i :: r => gCons (gName i) (gNames r)
def TGt (K : PySem.W.Frag) : T → TG
  | .nm i => gName i
  | .tp is => gTup K is.length (gNames is)
theorem storeL_ok : ∀ {is : List Nat} {ds : List D} {vs : List V} {ρ ρ1 : Env} {σ : L2.St} {f : Addr → Nat}, storeT.storeL is ds ρ = some ρ1 → (∀ d ∈ ds, d.ntr = true) → (RvL K H Fz Bz vs ds fun _ => 0) → Re K H Fz Bz σ ρ f →
    ∀ Q : L2.St → Hp → Prop, (∀ σ1 f1, Re K H Fz Bz σ1 ρ1 f1 → (∀ b, f1 b ≤ f b) → (∀ j, j ∉ is → σ1[j]? = σ[j]?) → Q σ1 H) → gNames is vs σ H Q
  | [], [], _, _, _, σ, f, e, _, rv, re, Q, q => by
    simp only [storeT.storeL, Option.some.injEq] at e
    subst e
    obtain ⟨rfl, _⟩ := rv.nil_inv
    exact ⟨rfl, q σ f re (fun b => Nat.le_refl _) fun _ _ => rfl⟩
  | [], _ :: _, _, _, _, _, _, e, _, _, _, _, _ => by simp [storeT.storeL] at e
  | _ :: _, [], _, _, _, _, _, e, _, _, _, _, _ => by simp [storeT.storeL] at e
  | i :: is, d :: ds, _, ρ, ρ1, σ, f, e, n, rv, re, Q, q => by
    simp only [storeT.storeL] at e
    split at e
    · rename_i l
      obtain ⟨v, ws, g, g', rfl, r1, rt, q1⟩ := rv.cons_inv
      have zg : ∀ b, g b = 0 := fun b => by have := q1 b; omega
      have zg' : g' = fun _ => 0 := funext fun b => by have := q1 b; omega
      subst zg'
      obtain ⟨f', re', le⟩ := re.store l r1 (n d List.mem_cons_self)
      refine ⟨v, ws, rfl, ?_⟩
      refine storeL_ok e (fun d hd => n d (List.mem_cons_of_mem _ hd)) rt re' Q fun σ1 f1 re1 le1 out => ?_
      refine q σ1 f1 re1 (fun b => by have := le1 b; have := le b; have := zg b; omega) fun j hj => ?_
      simp only [List.mem_cons, not_or] at hj
      rw [out j hj.2, List.getElem?_set_ne (fun e => hj.1 e.symm)]
    · cases e
theorem RpL.bors {S : Addr → Prop} (hS : ∀ a, S a → Fz a ∨ Bz a) : ∀ {vs : List V} {ds : List PyData}, RpL K H S vs ds → RvL K H Fz Bz vs (ds.map borD) fun _ => 0
  | _, _, .nil => .nil fun _ => rfl
  | _, _, .cons r t => .cons (f := fun _ => 0) (g := fun _ => 0) (r.mono hS).bor (RpL.bors hS t) fun _ => rfl
/-- a value is stored -/
theorem store_ok' {t : T} {x : D} {v : V} {fx : Addr → Nat} {Q : L2.St → Hp → Prop} (e : storeT t x ρ = some ρ1) (rv : Rv K H Fz Bz v x fx) (re : Re K H Fz Bz σ ρ f)
    (q : ∀ σ1 f1, Re K H Fz Bz σ1 ρ1 f1 → (∀ b, f1 b ≤ f b + fx b) → (∀ j, j ∉ t.slots → σ1[j]? = σ[j]?) → Q σ1 H) : TGt K t v σ H Q := by
  cases t with
  | nm i =>
    simp only [storeT] at e
    split at e
    · rename_i l
      split at e
      · rename_i n
        cases e
        obtain ⟨f', re', le⟩ := re.store l rv n
        refine q _ f' re' le fun j hj => ?_
        rw [List.getElem?_set_ne (fun e => hj (by simp [T.slots, e]))]
      · cases e
    · cases e
  | tp is =>
    simp only [storeT] at e
    have len : ∀ {ds : List D} {ρ ρ1 : Env} {is : List Nat}, storeT.storeL is ds ρ = some ρ1 → ds.length = is.length := fun {ds ρ ρ1 is} => by
      induction is generalizing ds ρ with
      | nil => intro e; cases ds with
        | nil => rfl
        | cons _ _ => simp [storeT.storeL] at e
      | cons i is ih => intro e; cases ds with
        | nil => simp [storeT.storeL] at e
        | cons d ds =>
          simp only [storeT.storeL] at e
          split at e
          · rw [List.length_cons, List.length_cons, ih e]
          · cases e
    split at e
    · rename_i xs
      cases rv with
      | dat rp z =>
        obtain ⟨a, vs, rfl, ha, ra⟩ := rp.tuple_inv
        refine ⟨a, vs, rfl, ha, by rw [ra.length]; simpa using len e, storeL_ok e (fun d hd => ?_) (RvL.dats ra) re Q fun σ1 f1 re1 le out => q σ1 f1 re1 (fun b => by have := le b; omega) out⟩
        obtain ⟨y, _, rfl⟩ := List.mem_map.mp hd
        rfl
    · rename_i xs
      cases rv with
      | bor rp z =>
        obtain ⟨a, vs, rfl, ha, ra⟩ := rp.tuple_inv
        refine ⟨a, vs, rfl, ha, by rw [ra.length]; simpa using len e, storeL_ok e (fun d hd => ?_) (RpL.bors (fun _ h => h) ra) re Q fun σ1 f1 re1 le out => q σ1 f1 re1 (fun b => by have := le b; omega) out⟩
        obtain ⟨y, _, rfl⟩ := List.mem_map.mp hd
        exact ntr_borD y
    · cases e

/-! what is walked -/
/-- the items, as the iterator yields them in every later heap -/
def ItOk (K : PySem.W.Frag) (Bz : Addr → Prop) (J : It) (items : List D) (H1 : Hp) (Fz1 : Addr → Prop) (ra : Addr → Nat) : Prop :=
  ∀ (H' : Hp) (Fz' : Addr → Prop), (∀ b o, H1 b = some o → (Fz1 b ∨ Bz b ∨ ¬ Ow o ∨ 1 ≤ ra b) → H' b = some o) → (∀ b, Fz1 b → Fz' b) → ∀ i, (items.length ≤ i → J.stop i H') ∧
    ∀ x, items[i]? = some x → J.go i H' ∧ x.ntr = true ∧ ∀ v H'', J.yld i H' v H'' → (H'' = H' ∨ ∃ q o, H' q = none ∧ ¬ Ow o ∧ H'' = upd H' q o) ∧ Rv K H'' Fz' Bz v x (fun _ => 0)
/-- a slot that is shut -/
def Lk (K : PySem.W.Frag) (H : Hp) (Fz Bz : Addr → Prop) (σ : L2.St) (ρ : Env) (w : Option (Nat × D)) (ra : Addr → Nat) : Prop :=
  match w with
  | none => True
  | some (i, d) => i < ρ.length ∧ d.ntr = true ∧ ∃ v, σ[i]? = some (some v) ∧ Rv K H Fz Bz v d ra
def OutI (K : PySem.W.Frag) (mg : Str → Option Value) (Bz : Addr → Prop) (σ : L2.St) (H : Hp) (Fz : Addr → Prop) (f : Addr → Nat) (W : WX) (r : R (List D × Option (Nat × D))) (Q : It → Hp → Prop) : Prop :=
  match r with
  | .ok w ρ => ∀ J H' Fz' fρ ra, Re K H' Fz' Bz σ ρ fρ → At Bz false H Fz f H' Fz' fρ ra → ItOk K Bz J w.1 H' Fz' ra → Lk K H' Fz' Bz σ ρ w.2 ra → Q J H'
  | .ex x ρ => ∀ cls dx H' Fz' fρ, Re K H' Fz' Bz σ ρ fρ → Ex mg H' x cls dx → At Bz false H Fz f H' Fz' fρ (fun _ => 0) → W cls dx σ H'
  | .no => False
def LI (K : PySem.W.Frag) (mg : Str → Option Value) (G : List Fn) (W : WX) (it : I) : TI := fun σ H Q => ∃ ρ Fz Bz f, Re K H Fz Bz σ ρ f ∧ Wf H Fz Bz f ∧ OutI K mg Bz σ H Fz f W (evI G it ρ) Q
end

section
variable {X : Cx} {G : List Fn} {W : WX} {pos : Pos} {tg : Expr}
/-- a list or a tuple, as it comes -/
def iSeq (K : PySem.W.Frag) (tl : TE) : TI := fun σ H R => tl σ H fun x H1 => ∃ a, x = .ref a ∧ ((∃ xs, SqL K H1 a xs ∧ R (Itl K a) H1) ∨ (∃ xs, SqT K H1 a xs ∧ R (Itt K a) H1))
theorem pi_seq {l : Expr} {tl : TE} (hl : PE X l tl) : PI X tg l (iSeq X.K tl) := by
  refine ⟨fun pins s σ H R I h => thn (hl.run pins s σ H _ I h) ?_⟩
  intro v s1 ⟨x, H1, I1, r1, a, e, hq⟩
  subst e
  cases r1
  have new : ∀ {o : Obj}, Inv X pins σ H1 { s1 with heap := s1.heap.push o } := fun {o} => I1.kept (t' := s1.toks) fun b o e => Heap.get?_push_of_some _ e
  have fp : ∀ b ∈ [s1.heap.objs.size], FpOk X pins H1 b := fun b hb => by
    rw [List.mem_singleton.mp hb]
    exact I1.fpOk (Nat.le_refl _) (I1.hok.fresh (Nat.le_refl _))
  rcases hq with ⟨xs, hs, q⟩ | ⟨xs, hs, q⟩
  · obtain ⟨its, _, pl, _⟩ := I1.list hs
    exact wpAny_pyIter_list pl.isList ⟨_, _, _, _, H1, rfl, new, turn_list a _, ⟨_, Heap.get?_push_size _ rfl, rfl, rfl⟩, fp, q⟩
  · obtain ⟨its, _, pl, _⟩ := I1.tuple hs
    exact wpAny_pyIter_tuple (show s1.heap.IsTuple a its.toArray from pl) ⟨_, _, _, _, H1, rfl, new, turn_tuple a _, ⟨_, Heap.get?_push_size _ rfl, rfl, rfl⟩, fp, q⟩
theorem PI.imp {e : Expr} {t t' : TI} (h : PI X tg e t) (i : ∀ σ H Q, t' σ H Q → t σ H Q) : PI X tg e t' := ⟨fun pins s σ H Q I z => h.run pins s σ H Q I (i _ _ _ z)⟩
theorem dats_map : ∀ {xs : List D} {ds : List PyData}, D.dats xs = some ds → xs = ds.map .dat
  | [], _, e => by simp only [D.dats, Option.some.injEq] at e; subst e; rfl
  | x :: r, ds, e => by
    cases x <;> simp only [D.dats] at e <;> try cases e
    obtain ⟨es, h1, h2⟩ := Option.map_eq_some_iff.mp e
    subst h2
    rw [dats_map h1]; rfl
theorem RvL.rp {K : PySem.W.Frag} {H : Hp} {Fz Bz : Addr → Prop} : ∀ {vs : List V} {ds : List PyData} {f : Addr → Nat}, RvL K H Fz Bz vs (ds.map .dat) f → RpL K H Fz vs ds
  | _, [], _, h => by obtain ⟨rfl, _⟩ := h.nil_inv; exact .nil
  | _, d :: ds, _, h => by
    rw [List.map_cons] at h
    obtain ⟨v, ws, g, g', rfl, r, t, _⟩ := h.cons_inv
    cases r with
    | dat rp _ => exact .cons rp (RvL.rp t)
theorem RvL.get0 {K : PySem.W.Frag} {H : Hp} {Fz Bz : Addr → Prop} : ∀ {vs : List V} {ds : List D} {i : Nat} {d : D}, RvL K H Fz Bz vs ds (fun _ => 0) → ds[i]? = some d → ∃ v, vs[i]? = some v ∧ Rv K H Fz Bz v d fun _ => 0
  | vs, ds, i, d, h, e => by
    obtain ⟨v, fi, g, h1, h2, h3, _, _⟩ := h.split e
    have z : fi = fun _ => 0 := funext fun b => by have := h3 b; omega
    rw [z] at h2
    exact ⟨v, h1, h2⟩
theorem ItOk.list {K : PySem.W.Frag} {Bz : Addr → Prop} {a : Addr} {vs : List V} {items : List D} {H1 : Hp} {Fz1 : Addr → Prop} {ra : Addr → Nat} (n : D.ntrL items = true)
    (h : ∀ (H' : Hp) (Fz' : Addr → Prop), (∀ b o, H1 b = some o → (Fz1 b ∨ Bz b ∨ ¬ Ow o ∨ 1 ≤ ra b) → H' b = some o) → (∀ b, Fz1 b → Fz' b) → SqL K H' a vs ∧ RvL K H' Fz' Bz vs items fun _ => 0) : ItOk K Bz (Itl K a) items H1 Fz1 ra := by
  intro H' Fz' k m i
  obtain ⟨hs, hr⟩ := h H' Fz' k m
  refine ⟨fun l => ⟨vs, hs, by rw [hr.length]; exact l⟩, fun x hx => ?_⟩
  obtain ⟨v, hv, rv⟩ := hr.get0 hx
  refine ⟨⟨vs, v, hs, hv⟩, ntrL_get n hx, fun w H'' ⟨e, y⟩ => ⟨.inl e, ?_⟩⟩
  subst e
  have := y vs hs
  rw [hv] at this
  cases this
  exact rv
theorem ItOk.tup {K : PySem.W.Frag} {Bz : Addr → Prop} {a : Addr} {vs : List V} {items : List D} {H1 : Hp} {Fz1 : Addr → Prop} {ra : Addr → Nat} (n : D.ntrL items = true)
    (h : ∀ (H' : Hp) (Fz' : Addr → Prop), (∀ b o, H1 b = some o → (Fz1 b ∨ Bz b ∨ ¬ Ow o ∨ 1 ≤ ra b) → H' b = some o) → (∀ b, Fz1 b → Fz' b) → SqT K H' a vs ∧ RvL K H' Fz' Bz vs items fun _ => 0) : ItOk K Bz (Itt K a) items H1 Fz1 ra := by
  intro H' Fz' k m i
  obtain ⟨hs, hr⟩ := h H' Fz' k m
  refine ⟨fun l => ⟨vs, hs, by rw [hr.length]; exact l⟩, fun x hx => ?_⟩
  obtain ⟨v, hv, rv⟩ := hr.get0 hx
  refine ⟨⟨vs, v, hs, hv⟩, ntrL_get n hx, fun w H'' ⟨e, y⟩ => ⟨.inl e, ?_⟩⟩
  subst e
  have := y vs hs
  rw [hv] at this
  cases this
  exact rv
theorem ntrL_dats (ds : List PyData) : D.ntrL (ds.map .dat) = true := ntrL_of_own (ownL_dats ds)
theorem ntrL_bors : ∀ ds : List PyData, D.ntrL (ds.map borD) = true
  | [] => rfl
  | d :: ds => by rw [List.map_cons, D.ntrL, ntr_borD, ntrL_bors ds]; rfl
theorem li_val {e : E} {ee : Expr} (he : PE X ee (LE X.K X.mg G W e)) : PI X tg ee (LI X.K X.mg G W (.val e)) := by
  refine PI.imp (pi_seq he) fun σ H Q ⟨ρ, Fz, Bz, f, re, wf, out⟩ => ?_
  simp only [evI] at out
  refine LE.sub (k := fun d ρ => R.ok d ρ) re (At.start wf) ?_ ?_ ?_
  · intro x ρ' e; rw [e] at out; exact out
  · intro e; rw [e] at out; exact out
  · intro x ρ1 e1 v H1 Fz1 fρ fd re1 rv s t
    rw [e1] at out
    simp only [R.bind] at out
    have t' : At Bz false H Fz f H1 Fz1 fρ fd := (t.cong fun b => by omega).weak fun h => by cases h
    cases hi : itemsV x with
    | none => rw [hi] at out; exact out.elim
    | some xs =>
      rw [hi] at out
      have out' := fun J hI => out J H1 Fz1 fρ fd re1 t' hI trivial
      have seqs : ∀ {d : PyData} {ds : List PyData} {S : Addr → Prop} (fI : PyData → D), itemsD d = some ds → Rp X.K H1 S v d → (∀ b, S b → Fz1 b ∨ Bz b) → D.ntrL (ds.map fI) = true →
          (∀ (H' : Hp) (Fz' : Addr → Prop), (∀ b, Fz1 b → Fz' b) → ∀ vs, (RpL X.K H' (fun b => S b) vs ds) → RvL X.K H' Fz' Bz vs (ds.map fI) fun _ => 0) → xs = ds.map fI →
          ∃ a, v = .ref a ∧ ((∃ xs, SqL X.K H1 a xs ∧ Q (Itl X.K a) H1) ∨ (∃ xs, SqT X.K H1 a xs ∧ Q (Itt X.K a) H1)) := fun {d ds S} fI hd rp hS n mk ex => by
        subst ex
        cases rp with
        | lst h r =>
          rename_i a vs es
          simp only [itemsD, Option.some.injEq] at hd
          subst hd
          refine ⟨a, rfl, .inl ⟨vs, h.seq, out' _ (ItOk.list (vs := vs) n fun H' Fz' k m => ?_)⟩⟩
          have kk : ∀ b o, H1 b = some o → (S b ∨ ¬ Ow o) → H' b = some o := fun b o e z => k b o e (z.elim (fun z => (hS b z).elim .inl fun z => .inr (.inl z)) fun z => .inr (.inr (.inl z)))
          exact ⟨(h.keep kk fun _ z => z).seq, mk H' Fz' m _ (r.keep kk fun _ z => z)⟩
        | tup h r =>
          rename_i a vs es
          simp only [itemsD, Option.some.injEq] at hd
          subst hd
          refine ⟨a, rfl, .inr ⟨vs, h, out' _ (ItOk.tup (vs := vs) n fun H' Fz' k m => ?_)⟩⟩
          have kk : ∀ b o, H1 b = some o → (S b ∨ ¬ Ow o) → H' b = some o := fun b o e z => k b o e (z.elim (fun z => (hS b z).elim .inl fun z => .inr (.inl z)) fun z => .inr (.inr (.inl z)))
          exact ⟨SqT.keep h fun b o e z => kk b o e (.inr z), mk H' Fz' m _ (r.keep kk fun _ z => z)⟩
        | _ => simp [itemsD] at hd
      unfold itemsV at hi
      split at hi
      · rename_i d
        obtain ⟨ds, h1, h2⟩ := Option.map_eq_some_iff.mp hi
        cases rv with
        | dat rp z => exact seqs .dat h1 rp (fun b h => .inl h) (ntrL_dats ds) (fun H' Fz' m vs r => RvL.dats (r.mono m)) h2.symm
      · rename_i d
        obtain ⟨ds, h1, h2⟩ := Option.map_eq_some_iff.mp hi
        cases rv with
        | bor rp z => exact seqs borD h1 rp (fun b h => h) (ntrL_bors ds) (fun H' Fz' m vs r => RpL.bors (fun b h => h.imp (m b) id) r) h2.symm
      · rename_i ys
        obtain ⟨ds, h1, h2⟩ := Option.map_eq_some_iff.mp hi
        subst h2
        have ey := dats_map h1
        subst ey
        obtain ⟨a, vs, g0, rfl, h3, h4, h5⟩ := rv.lst_inv
        refine ⟨a, rfl, .inl ⟨vs, SqL.of h3, out' _ (ItOk.list (ntrL_dats ds) fun H' Fz' k m => ⟨SqL.of (k a _ h3 (.inr (.inr (.inr (by rw [h5, if_pos rfl]; omega))))), RvL.dats (h4.rp.keep (fun b o e z => k b o e (z.elim .inl fun z => .inr (.inr (.inl z)))) m)⟩)⟩⟩
      · cases hi
theorem li_ref {p : P} {ee : Expr} (he : PE X ee (LP X.K X.mg G W p)) : PI X tg ee (LI X.K X.mg G W (.ref p)) := by
  refine PI.imp (pi_seq he) fun σ H Q ⟨ρ, Fz, Bz, f, re, wf, out⟩ => ?_
  simp only [evI] at out
  refine LP.sub re (At.start wf) ?_ ?_ ?_
  · intro x ρ' e; rw [e] at out; exact out
  · intro e; rw [e] at out; exact out
  · intro q ρ1 e1 u v x H1 Fz1 fρ re1 s t hv hp hg hx
    rw [e1] at out
    simp only [R.bind] at out
    rw [hg] at out
    cases x with
    | lst xs =>
      simp only at out
      cases hd : D.dats xs with
      | none => rw [hd] at out; exact out.elim
      | some ds =>
        rw [hd] at out
        have ex := dats_map hd
        subst ex
        have ns := live_slot hg hx
        have l := slot_lt ns
        obtain ⟨o, fi, g0, eo, rs, hf, rest⟩ := re1.split l
        rcases rs with ⟨z, _⟩ | ⟨w, z, n, rv⟩
        · exact (ns z).elim
        · subst z
          rw [hv] at eo
          cases eo
          obtain ⟨u', fx, gx, hp', ru, ntx, hsx, _⟩ := rv.path q.2 hg n
          have eu := PathV.fun hp hp'
          subst eu
          obtain ⟨a, vs, g2, rfl, h3, h4, h5⟩ := ru.lst_inv
          refine ⟨a, rfl, .inl ⟨vs, SqL.of h3, out _ H1 Fz1 g0 fi rest ((t.cong fun b => by rw [hf]; omega).weak fun h => by cases h) (ItOk.list (ntrL_dats ds) fun H' Fz' k m => ⟨SqL.of (k a _ h3 (.inr (.inr (.inr (by rw [hsx, h5, if_pos rfl]; omega))))), RvL.dats (h4.rp.keep (fun b o e z => k b o e (z.elim .inl fun z => .inr (.inr (.inl z)))) m)⟩) ⟨by simpa using l, n, v, hv, rv⟩⟩⟩
    | _ => exact out.elim
theorem rngL_get {lo : Int} {n i : Nat} {x : D} (h : (rngL lo n)[i]? = some x) : i < n ∧ x = .dat (.int (lo + (i : Int))) := by
  unfold rngL at h
  rw [List.getElem?_map] at h
  obtain ⟨k, e1, e2⟩ := Option.map_eq_some_iff.mp h
  have z : i < n := by
    by_cases z : i < n
    · exact z
    · rw [List.getElem?_eq_none (by simpa using z)] at e1; cases e1
  rw [List.getElem?_range z] at e1
  cases e1
  exact ⟨z, e2.symm⟩
theorem ItOk.rng {K : PySem.W.Frag} {Bz : Addr → Prop} {lo : Int} {n : Nat} {H1 : Hp} {Fz1 : Addr → Prop} {ra : Addr → Nat} : ItOk K Bz (Itr lo n) (rngL lo n) H1 Fz1 ra := by
  intro H' Fz' k m i
  refine ⟨fun l => by show n ≤ i; simpa [rngL] using l, fun x hx => ?_⟩
  obtain ⟨l, rfl⟩ := rngL_get hx
  exact ⟨l, rfl, fun v H'' ⟨e1, e2⟩ => ⟨.inl e1, by subst e2; exact .dat (.int _) fun _ => rfl⟩⟩
theorem rngOk_b {i : Int} (h : rngOk i = true) : -(2 ^ 62) ≤ i ∧ i < 2 ^ 62 := by
  unfold rngOk at h
  rw [Bool.and_eq_true] at h
  exact ⟨of_decide_eq_true h.1, of_decide_eq_true h.2⟩
theorem li_rng1 {e : E} {ee : Expr} {p : Pos} (hg : Gl X "range") (hm : X.mg "range" = none) (he : PE X ee (LE X.K X.mg G W e)) (hs : starEach [ee] X.env = [(false, eval ee X.env)]) : PI X tg (.Call (.Name "range" p) [ee] [] pos) (LI X.K X.mg G W (.rng1 e)) := by
  refine PI.imp (pi_range1 hg hm (pa_cons he pa_nil hs) hs) fun σ H Q ⟨ρ, Fz, Bz, f, re, wf, out⟩ => ?_
  simp only [evI] at out
  refine LE.sub (k := fun d ρ => R.ok d ρ) re (At.start wf) ?_ ?_ ?_
  · intro x ρ' e; rw [e] at out; exact out
  · intro e; rw [e] at out; exact out
  · intro x ρ1 e1 v H1 Fz1 fρ fd re1 rv s t
    rw [e1] at out
    simp only [R.bind] at out
    split at out
    · split at out
      · rename_i j hj
        cases rv with
        | dat rp z =>
          have e := rp.int_inv; subst e
          obtain ⟨h1, h2⟩ := rngOk_b hj
          exact ⟨j, rfl, h1, h2, out _ H1 Fz1 fρ (fun _ => 0) re1 ((t.less fun b => by omega).weak fun h => by cases h) ItOk.rng trivial⟩
      · exact out.elim
    · exact out.elim
theorem li_rng2 {a b : E} {ea eb : Expr} {p : Pos} (hg : Gl X "range") (hm : X.mg "range" = none) (ha : PE X ea (LE X.K X.mg G W a)) (hb : PE X eb (LE X.K X.mg G W b)) (hs : starEach [ea, eb] X.env = [(false, eval ea X.env), (false, eval eb X.env)]) (hs2 : starEach [eb] X.env = [(false, eval eb X.env)]) :
    PI X tg (.Call (.Name "range" p) [ea, eb] [] pos) (LI X.K X.mg G W (.rng2 a b)) := by
  refine PI.imp (pi_range2 hg hm (pa_cons ha (pa_cons hb pa_nil hs2) (by rw [hs, hs2])) hs hs2) fun σ H Q ⟨ρ, Fz, Bz, f, re, wf, out⟩ => ?_
  simp only [evI] at out
  refine LE.sub (k := fun d ρ => R.ok d ρ) re (At.start wf) ?_ ?_ ?_
  · intro x ρ' e; rw [e] at out; exact out
  · intro e; rw [e] at out; exact out
  · intro x ρ1 e1 v H1 Fz1 fρ fd re1 rv s t
    rw [e1] at out
    simp only [R.bind] at out
    refine LE.sub (k := fun d ρ => R.ok d ρ) re1 t ?_ ?_ ?_
    · intro x ρ' e; rw [e] at out; exact out
    · intro e; rw [e] at out; exact out
    · intro y ρ2 e2 w H2 Fz2 fρ2 fd2 re2 rv2 s2 t2
      rw [e2] at out
      simp only at out
      split at out
      · rename_i i j
        split at out
        · rename_i hj
          rw [Bool.and_eq_true] at hj
          cases rv with
          | dat rp z =>
            cases rv2 with
            | dat rp2 z2 =>
              have e := rp.int_inv; subst e
              have e := rp2.int_inv; subst e
              obtain ⟨h1, h2⟩ := rngOk_b hj.1
              obtain ⟨h3, h4⟩ := rngOk_b hj.2
              exact ⟨i, j, rfl, ⟨h1, h2, h3, h4⟩, out _ H2 Fz2 fρ2 (fun _ => 0) re2 ((t2.less fun b => by omega).weak fun h => by cases h) ItOk.rng trivial⟩
        · exact out.elim
      · exact out.elim
theorem li_rrng1 {e : E} {ee : Expr} {p p2 pos2 : Pos} (hg : Gl X "range") (hm : X.mg "range" = none) (hg2 : Gl X "reversed") (hm2 : X.mg "reversed" = none) (he : PE X ee (LE X.K X.mg G W e)) (hs : starEach [ee] X.env = (false, eval ee X.env) :: starEach [] X.env)
    (hs2 : starEach [.Call (.Name "range" p) [ee] [] pos] X.env = (false, eval (.Call (.Name "range" p) [ee] [] pos) X.env) :: starEach [] X.env) :
    PI X tg (.Call (.Name "reversed" p2) [.Call (.Name "range" p) [ee] [] pos] [] pos2) (LI X.K X.mg G W (.rrng1 e)) := by
  refine PI.imp (pi_revR hg2 hm2 (prg_1 hg hm he hs) hs2) fun σ H Q ⟨ρ, Fz, Bz, f, re, wf, out⟩ => ?_
  simp only [evI] at out
  refine LE.sub (k := fun d ρ => R.ok d ρ) re (At.start wf) ?_ ?_ ?_
  · intro x ρ' e; rw [e] at out; exact out
  · intro e; rw [e] at out; exact out
  · intro x ρ1 e1 v H1 Fz1 fρ fd re1 rv s t
    rw [e1] at out
    simp only [R.bind] at out
    split at out
    · split at out
      · rename_i j hj
        cases rv with
        | dat rp z =>
          have e := rp.int_inv; subst e
          obtain ⟨h1, h2⟩ := rngOk_b hj
          refine ⟨j, rfl, by omega, by omega, h1, h2, out _ H1 Fz1 fρ (fun _ => 0) re1 ((t.less fun b => by omega).weak fun h => by cases h) ?_ trivial⟩
          intro H' Fz' k m i
          have ej : (j - 0).toNat = j.toNat := by rw [Int.sub_zero]
          rw [ej]
          refine ⟨fun l => by show j.toNat ≤ i; simpa [rrngL] using l, fun x hx => ?_⟩
          have hl : i < j.toNat ∧ x = .dat (.int ((j.toNat : Int) - 1 - (i : Int))) := by
            unfold rrngL at hx
            rw [List.getElem?_map] at hx
            obtain ⟨k, e1, e2⟩ := Option.map_eq_some_iff.mp hx
            have z : i < j.toNat := by
              by_cases z : i < j.toNat
              · exact z
              · rw [List.getElem?_eq_none (by simpa using z)] at e1; cases e1
            rw [List.getElem?_range z] at e1
            cases e1
            exact ⟨z, e2.symm⟩
          obtain ⟨l, rfl⟩ := hl
          refine ⟨l, rfl, fun v H'' ⟨e1, e2⟩ => ⟨.inl e1, ?_⟩⟩
          subst e2
          have e3 : (0 : Int) + ((j.toNat : Nat) : Int) - 1 + (i : Nat) * (-1) = (j.toNat : Int) - 1 - (i : Int) := by omega
          rw [e3]
          exact .dat (.int _) fun _ => rfl
      · exact out.elim
    · exact out.elim
end
end DE
end

section
set_option Elab.async false
set_option linter.all false
/-! DE14: comprehensions. -/
namespace DE
open PySem PySem.Spec PyProof.Rows L2

section
variable {K : PySem.W.Frag} {mg : Str → Option Value} {G : List Fn} {W : WX} {σ : L2.St} {Bz Bz' Fz0 Fz Fz1 Fz2 : Addr → Prop} {pu p q : Bool} {H0 H H1 H2 : Hp} {f0 f r f1 r1 f2 g : Addr → Nat} {ρ ρ1 ρ2 : Env}

theorem wipeE_length (ρ : Env) : ∀ vs : List Nat, (wipeE ρ vs).length = ρ.length
  | [] => rfl
  | v :: vs => by rw [wipeE, List.length_set, wipeE_length ρ vs]
theorem backE_length (ρ0 ρ : Env) : ∀ vs : List Nat, (backE ρ0 ρ vs).length = ρ.length
  | [] => rfl
  | v :: vs => by rw [backE, List.length_set, backE_length ρ0 ρ vs]
theorem wipeE_set {ρ : Env} {v : Nat} {d : D} : ∀ {vs : List Nat}, v ∉ vs → wipeE (ρ.set v d) vs = (wipeE ρ vs).set v d
  | [], _ => rfl
  | w :: vs, h => by
    simp only [List.mem_cons, not_or] at h
    rw [wipeE, wipeE, wipeE_set h.2, List.set_comm _ _ h.1]
theorem backE_set {ρ0 ρ : Env} {v : Nat} {d : D} : ∀ {vs : List Nat}, v ∉ vs → backE ρ0 (ρ.set v d) vs = (backE ρ0 ρ vs).set v d
  | [], _ => rfl
  | w :: vs, h => by
    simp only [List.mem_cons, not_or] at h
    rw [backE, backE, backE_set h.2, List.set_comm _ _ h.1]
theorem slot_set_ne {ρ : Env} {v w : Nat} {d : D} (h : w ≠ v) : slot (ρ.set w d) v = slot ρ v := by
  simp [slot, List.getD, List.getElem?_set_ne h]
theorem slot_wipeE {ρ : Env} {v : Nat} : ∀ {vs : List Nat}, v ∉ vs → slot (wipeE ρ vs) v = slot ρ v
  | [], _ => rfl
  | w :: vs, h => by
    simp only [List.mem_cons, not_or] at h
    rw [wipeE, slot_set_ne (fun e => h.1 e.symm), slot_wipeE h.2]
theorem wipe_out {σ : L2.St} {v : Nat} : ∀ {vs : List Nat}, v ∉ vs → (wipe σ vs)[v]? = σ[v]?
  | [], _ => rfl
  | w :: vs, h => by
    simp only [List.mem_cons, not_or] at h
    rw [wipe, List.getElem?_set_ne (fun e => h.1 e.symm), wipe_out h.2]
theorem wipe_in {σ : L2.St} {v : Nat} : ∀ {vs : List Nat}, v ∈ vs → v < σ.length → (wipe σ vs)[v]? = some none
  | [], h, _ => by cases h
  | w :: vs, h, l => by
    by_cases e : w = v
    · subst e
      rw [wipe, List.getElem?_set_self (by rw [wipe_length]; exact l)]
    · rw [wipe, List.getElem?_set_ne e]
      exact wipe_in ((List.mem_cons.mp h).resolve_left fun z => e z.symm) l
theorem wipe_eq {σ1 σ : L2.St} {vs : List Nat} (hl : σ1.length = σ.length) (h : ∀ j, j ∉ vs → σ1[j]? = (wipe σ vs)[j]?) : wipe σ1 vs = wipe σ vs := by
  apply List.ext_getElem?
  intro j
  by_cases hj : j ∈ vs
  · by_cases l : j < σ.length
    · rw [wipe_in hj l, wipe_in hj (by omega)]
    · rw [List.getElem?_eq_none (by rw [wipe_length]; omega), List.getElem?_eq_none (by rw [wipe_length]; omega)]
  · rw [wipe_out hj, h j hj]
theorem Rs.deadAny {o : Option V} : Rs K H Fz Bz o .dead (fun _ => 0) := .inl ⟨rfl, fun _ => rfl⟩
/-- the block's own slots forgotten, and given back -/
theorem wipe_ok : ∀ {vs : List Nat} {σ : L2.St} {ρ : Env} {f : Addr → Nat}, vs.Nodup → Re K H Fz Bz σ ρ f →
    ∃ fw g : Addr → Nat, Re K H Fz Bz (wipe σ vs) (wipeE ρ vs) g ∧ (∀ b, f b = fw b + g b) ∧
      ∀ (H' : Hp) (Fz' : Addr → Prop), (∀ b o, H b = some o → (Fz b ∨ Bz b ∨ ¬ Ow o) → H' b = some o) → (∀ b, Fz b → Fz' b) → (∀ b o, H b = some o → 1 ≤ fw b → H' b = some o) →
        ∀ (ρ' : Env) (g' : Addr → Nat), ρ'.length = ρ.length → Re K H' Fz' Bz (wipe σ vs) (wipeE ρ' vs) g' → Re K H' Fz' Bz σ (backE ρ ρ' vs) (fun b => fw b + g' b)
  | [], σ, ρ, f, _, re => ⟨fun _ => 0, f, re, fun b => by simp, fun H' Fz' k m kw ρ' g' _ re' => by
      have z : (fun b => 0 + g' b) = g' := funext fun b => by omega
      rw [z]; exact re'⟩
  | v :: vs, σ, ρ, f, nd, re => by
    obtain ⟨nv, nd'⟩ := List.nodup_cons.mp nd
    obtain ⟨fw0, g0, re0, hf0, back0⟩ := wipe_ok nd' re
    by_cases l : v < ρ.length
    · have l1 : v < (wipeE ρ vs).length := by rw [wipeE_length]; exact l
      obtain ⟨o, fi, g1, eo, rs, hs, rest⟩ := re0.split l1
      refine ⟨fun b => fw0 b + fi b, g1, ?_, fun b => by show f b = fw0 b + fi b + g1 b; rw [hf0, hs]; omega, fun H' Fz' k m kw ρ' g' hl re' => ?_⟩
      · have := rest.put (o := none) l1 Rs.deadAny (f := g1) fun b => by simp
        exact this
      · have l2 : v < (wipeE ρ' vs).length := by rw [wipeE_length, hl]; exact l
        have re1 : Re K H' Fz' Bz (wipe σ vs) (wipeE (ρ'.set v .dead) vs) g' := by
          have := Re.put (o := o) (d := .dead) (fi := fun _ => 0) (f := g') (show Re K H' Fz' Bz ((wipe σ vs).set v none) ((wipeE ρ' vs).set v .dead) g' from re') l2 Rs.deadAny fun b => by simp
          rw [List.set_set, set_get eo] at this
          rw [wipeE_set nv]
          exact this
        have re2 := back0 H' Fz' k m (fun b o e h => kw b o e (by show 1 ≤ fw0 b + fi b; omega)) (ρ'.set v .dead) g' (by rw [List.length_set]; exact hl) re1
        rw [backE_set nv] at re2
        have rs' : Rs K H' Fz' Bz o (slot ρ v) fi := by
          rw [slot_wipeE nv] at rs
          exact rs.keep k m fun b o e h => kw b o e (by show 1 ≤ fw0 b + fi b; omega)
        have eo' : σ[v]? = some o := by rw [← wipe_out nv]; exact eo
        exact re2.put' (by rw [backE_length, hl]; exact l) eo' rs' fun b => by show fw0 b + fi b + g' b = fi b + (fw0 b + g' b); omega
    · have hσ : σ.length = ρ.length := re.length
      have e1 : wipe σ (v :: vs) = wipe σ vs := List.set_eq_of_length_le (by rw [wipe_length]; omega)
      have e2 : ∀ ρ' : Env, ρ'.length = ρ.length → wipeE ρ' (v :: vs) = wipeE ρ' vs := fun ρ' h => List.set_eq_of_length_le (by rw [wipeE_length]; omega)
      refine ⟨fw0, g0, by rw [e1, e2 ρ rfl]; exact re0, hf0, fun H' Fz' k m kw ρ' g' hl re' => ?_⟩
      rw [e1, e2 ρ' hl] at re'
      have e3 : backE ρ ρ' (v :: vs) = backE ρ ρ' vs := List.set_eq_of_length_le (by rw [backE_length]; omega)
      rw [e3]
      exact back0 H' Fz' k m kw ρ' g' hl re'
theorem set_dead {ρ : Env} {j : Nat} (h : slot ρ j = .dead) : ρ.set j .dead = ρ := by
  apply List.ext_getElem?
  intro i
  by_cases e : j = i
  · subst e
    by_cases l : j < ρ.length
    · rw [List.getElem?_set_self l]
      unfold slot at h
      rw [List.getD_eq_getElem?_getD] at h
      rw [List.getElem?_eq_getElem l] at h ⊢
      simp only [Option.getD_some] at h
      rw [h]
    · rw [List.getElem?_eq_none (by rw [List.length_set]; omega), List.getElem?_eq_none (by omega)]
  · rw [List.getElem?_set_ne e]
/-- a shut slot is opened -/
theorem unlock_ok {w : Option (Nat × D)} {ra : Addr → Nat} {ρ' ρ3 : Env} (hL : Lk K H Fz Bz σ ρ w ra) (re : Re K H Fz Bz σ ρ' f) (hl : ρ'.length = ρ.length) (e : unlock w ρ' = some ρ3) : ∃ f3 : Addr → Nat, Re K H Fz Bz σ ρ3 f3 ∧ ∀ b, f3 b ≤ ra b + f b := by
  unfold unlock at e
  split at e
  · cases e; exact ⟨f, re, fun b => by omega⟩
  · rename_i j d
    obtain ⟨l, n, v, hv, rv⟩ := hL
    split at e
    · rename_i hd
      cases e
      have re' : Re K H Fz Bz σ (ρ'.set j .dead) f := by rw [set_dead hd]; exact re
      exact ⟨fun b => ra b + f b, re'.put' (by rw [hl]; exact l) hv (.inr ⟨v, rfl, n, rv⟩) fun b => rfl, fun b => Nat.le_refl _⟩
    · cases e
theorem compL_ex {own : List Nat} {t : T} {c e : Env → R D} : ∀ {items : List D} {ρ ρ' : Env} {x : D}, compL own t c e items ρ ≠ .ex x ρ'
  | [], _, _, _, h => by simp [compL] at h
  | y :: r, ρ, ρ', x, h => by
    rw [compL] at h
    split at h
    · cases h
    · rename_i ρ1 e1
      cases hc : (c ρ1).nox with
      | ex => cases h2 : c ρ1 <;> rw [h2] at hc <;> cases hc
      | no => rw [hc] at h; cases h
      | ok k ρ2 =>
        rw [hc] at h
        simp only [R.bind] at h
        split at h
        · cases he : (e ρ2).nox with
          | ex => cases h2 : e ρ2 <;> rw [h2] at he <;> cases he
          | no => rw [he] at h; cases h
          | ok z ρ3 =>
            rw [he] at h
            simp only at h
            split at h
            · cases hr : compL own t c e r ρ3 with
              | ok a b => rw [hr] at h; cases h
              | ex a b => exact compL_ex hr
              | no => rw [hr] at h; cases h
            · cases h
        · exact compL_ex h
        · cases h
theorem storeL_length : ∀ {is : List Nat} {ds : List D} {ρ ρ1 : Env}, storeT.storeL is ds ρ = some ρ1 → ρ1.length = ρ.length
  | [], [], _, _, e => by simp only [storeT.storeL, Option.some.injEq] at e; rw [e]
  | [], _ :: _, _, _, e => by simp [storeT.storeL] at e
  | _ :: _, [], _, _, e => by simp [storeT.storeL] at e
  | i :: is, d :: ds, ρ, _, e => by
    simp only [storeT.storeL] at e
    split at e
    · rw [storeL_length e, List.length_set]
    · cases e
theorem storeT_length {t : T} {x : D} {ρ ρ1 : Env} (e : storeT t x ρ = some ρ1) : ρ1.length = ρ.length := by
  cases t with
  | nm i =>
    simp only [storeT] at e
    split at e
    · split at e
      · cases e; rw [List.length_set]
      · cases e
    · cases e
  | tp is =>
    simp only [storeT] at e
    split at e
    · exact storeL_length e
    · exact storeL_length e
    · cases e
/-- a test's part, with its step -/
theorem LT.subS {e : E} {Q : Bool → Hp → Prop} (re : Re K H Fz Bz σ ρ f) (t : At Bz p H0 Fz0 f0 H Fz f r)
    (hn : ∀ x ρ', evE G e ρ ≠ .no ∧ evE G e ρ ≠ .ex x ρ' ∧ (evE G e ρ = .ok x ρ' → ∃ k, x = .dat (.bool k)))
    (hok : ∀ k ρ', evE G e ρ = .ok (.dat (.bool k)) ρ' → ∀ H' Fz' fρ, Re K H' Fz' Bz σ ρ' fρ → Stp e.pure H Fz f H' Fz' fρ → At Bz (p && e.pure) H0 Fz0 f0 H' Fz' fρ r → Q k H') :
    LT K mg G W e σ H Q := by
  refine ⟨ρ, Fz, Bz, f, re, t.env, ?_⟩
  cases h : evE G e ρ with
  | ok d ρ' =>
    obtain ⟨k, rfl⟩ := (hn d ρ').2.2 h
    intro H' Fz' fρ re' a
    have a' := t.step a.stp a.wf
    exact hok k ρ' h H' Fz' fρ re' (a.stp.cong (fun _ => rfl) fun b => by omega) (a'.cong fun b => by omega)
  | ex x ρ' => exact ((hn x ρ').2.1 h).elim
  | no => exact ((hn .dead ρ).1 h).elim
/-- a comprehension's test -/
def LC (K : PySem.W.Frag) (mg : Str → Option Value) (G : List Fn) (W : WX) : O → TT
  | .none => tYes
  | .some e => LT K mg G W e
theorem LC.sub {c : O} {Q : Bool → Hp → Prop} (re : Re K H Fz Bz σ ρ f) (t : At Bz p H0 Fz0 f0 H Fz f r)
    (hn : ∀ x ρ', evC G c ρ ≠ .no ∧ evC G c ρ ≠ .ex x ρ' ∧ (evC G c ρ = .ok x ρ' → ∃ k, x = .dat (.bool k)))
    (hok : ∀ k ρ', evC G c ρ = .ok (.dat (.bool k)) ρ' → ∀ H' Fz' fρ, Re K H' Fz' Bz σ ρ' fρ → Stp false H Fz f H' Fz' fρ → At Bz false H0 Fz0 f0 H' Fz' fρ r → Q k H') :
    LC K mg G W c σ H Q := by
  cases c with
  | none =>
    simp only [evC] at hok
    exact hok true ρ rfl H Fz f re Stp.refl (t.weak fun h => by cases h)
  | some e =>
    simp only [evC] at hn hok
    exact LT.subS re t hn fun k ρ' e H' Fz' fρ re' s a => hok k ρ' e H' Fz' fρ re' (s.weak fun h => by cases h) (a.weak fun h => by cases h)
end
end DE
end

section
set_option Elab.async false
set_option linter.all false
/-! DE15: comprehensions as expressions. -/
namespace DE
open PySem PySem.Spec PyProof.Rows L2

abbrev Wn : WX := fun _ _ _ _ => False
section
variable {X : Cx} {G : List Fn} {W : WX} {pos : Pos} {tg : Expr}
/-- behind the items -/
def finL (vs : List Nat) (w : Option (Nat × D)) (ρ1 : Env) (ds : List PyData) (ρ2 : Env) : R D :=
  if fits ds.length then (match unlock w (backE ρ1 ρ2 vs) with
    | some ρ3 => .ok (dl ds) ρ3
    | none => .no) else .no
theorem comp_imp {elt : E} {t : T} {it : I} {c : O} {vs : List Nat} {σ : L2.St} {H : Hp} {Q : VK} (nd : vs.Nodup) (hsub : ∀ i ∈ t.slots, i ∈ vs) (h : LE X.K X.mg G W (.comp elt t it c vs) σ H Q) :
    tLc (LI X.K X.mg G W it) (TGt X.K t) (LC X.K X.mg G Wn c) (LE X.K X.mg G Wn elt) vs σ H Q := by
  obtain ⟨ρ, Fz, Bz, f, re, wf, out⟩ := h
  simp only [evE] at out
  refine ⟨ρ, Fz, Bz, f, re, wf, ?_⟩
  cases hI0 : evI G it ρ with
  | no => rw [hI0] at out; exact out.elim
  | ex x ρ' => rw [hI0] at out; exact out
  | ok w ρ1 =>
    rw [hI0] at out
    have out : Out X.K X.mg Bz σ false H Fz f W ((compL vs t (fun r => evC G c r) (fun r => evE G elt r) w.1 ρ1).bind fun ds ρ2 => finL vs w.2 ρ1 ds ρ2) Q := out
    intro J H1 Fz1 fρ ra re1 t1 hI hL D hD
    obtain ⟨fw, g1, re1w, hfw, back⟩ := wipe_ok nd re1
    have wf1 := t1.wf
    have hlen : σ.length = ρ1.length := re1.length
    -- the invariant
    generalize hcl : compL vs t (fun r => evC G c r) (fun r => evE G elt r) = CL at out
    let Wv : Nat → Nat → Hp → Prop := fun i m Hc => m = w.1.length - i ∧ i ≤ w.1.length ∧ ∃ (ρc : Env) (Fzc : Addr → Prop) (fc : Addr → Nat) (acc : List V) (ds : List PyData), ρc.length = ρ1.length ∧ Re X.K Hc Fzc Bz (wipe σ vs) (wipeE ρc vs) fc ∧ Hc D = some (.lst acc) ∧
      RpL X.K Hc Fzc acc ds ∧ At Bz false H Fz f Hc Fzc fc (fun b => ra b + fw b + if b = D then 1 else 0) ∧ (∀ b o, H1 b = some o → (Fz1 b ∨ Bz b ∨ ¬ Ow o ∨ 1 ≤ ra b ∨ 1 ≤ fw b) → Hc b = some o) ∧ (∀ b, Fz1 b → Fzc b) ∧
      Out X.K X.mg Bz σ false H Fz f W ((CL (w.1.drop i) ρc).bind fun ds2 ρ2 => finL vs w.2 ρ1 (ds ++ ds2) ρ2) Q
    refine ⟨Wv, ⟨w.1.length, ?_⟩, ?_⟩
    · refine ⟨by simp, Nat.zero_le _, ρ1, Fz1, g1, [], [], rfl, ?_, upd_same, .nil, ?_, ?_, fun _ h => h, ?_⟩
      · exact re1w.keep (fun b o e _ => by rw [upd_ne (ne_of_none e hD)]; exact e) (fun _ z => z) fun b o e _ => by rw [upd_ne (ne_of_none e hD)]; exact e
      · exact (t1.cong (g := g1) (r1 := fun b => ra b + fw b) fun b => by have := hfw b; omega).new hD trivial fun b => rfl
      · exact fun b o e _ => by rw [upd_ne (ne_of_none e hD)]; exact e
      · rw [List.drop_zero]
        exact out
    · rintro i m Hc ⟨rfl, hi, ρc, Fzc, fc, acc, ds, lc, reC, hDc, rpC, tC, kC, mC, outC⟩
      have kI : ∀ b o, H1 b = some o → (Fz1 b ∨ Bz b ∨ ¬ Ow o ∨ 1 ≤ ra b) → Hc b = some o := fun b o e z => kC b o e (by rcases z with z | z | z | z <;> simp [z])
      by_cases hlt : i < w.1.length
      · refine .inr ?_
        obtain ⟨x, hx⟩ : ∃ x, w.1[i]? = some x := ⟨w.1[i], List.getElem?_eq_getElem hlt⟩
        obtain ⟨go, nx, yl⟩ := (hI Hc Fzc kI mC i).2 x hx
        refine ⟨go, fun Hn => ∃ m', m' < w.1.length - i ∧ Wv (i + 1) m' Hn, fun H' z => z, fun v Hy y => ?_⟩
        obtain ⟨ext, rv⟩ := yl v Hy y
        have kY : ∀ b o, Hc b = some o → Hy b = some o := fun b o e => by
          rcases ext with rfl | ⟨q, o', hq, _, rfl⟩
          · exact e
          · rw [upd_ne (ne_of_none e hq)]; exact e
        have tY : At Bz false H Fz f Hy Fzc fc (fun b => ra b + fw b + if b = D then 1 else 0) := by
          rcases ext with rfl | ⟨q, o', hq, _, rfl⟩
          · exact tC
          · exact tC.lay hq
        have reY : Re X.K Hy Fzc Bz (wipe σ vs) (wipeE ρc vs) fc := reC.keep (fun b o e _ => kY b o e) (fun _ z => z) fun b o e _ => kY b o e
        have hDy : Hy D = some (.lst acc) := kY _ _ hDc
        have rpY : RpL X.K Hy Fzc acc ds := rpC.keep (fun b o e _ => kY b o e) fun _ z => z
        have dr : w.1.drop i = x :: w.1.drop (i + 1) := by
          rw [List.drop_eq_getElem_cons hlt]
          rw [List.getElem?_eq_getElem hlt] at hx
          cases hx; rfl
        rw [dr, ← hcl] at outC
        rw [compL] at outC
        cases hs : storeT t x (wipeE ρc vs) with
        | none => rw [hs] at outC; exact outC.elim
        | some ρs =>
          rw [hs] at outC
          simp only at outC
          refine store_ok' hs rv reY fun σ1 f1 re2 le1 same => ?_
          have l1 : σ1.length = σ.length := by rw [re2.length, storeT_length hs, wipeE_length, lc, hlen]
          have wq : wipe σ1 vs = wipe σ vs := wipe_eq l1 fun j hj => same j fun z => hj (hsub j z)
          refine ⟨wq, ?_⟩
          have tS : At Bz false H Fz f Hy Fzc f1 (fun b => ra b + fw b + if b = D then 1 else 0) := tY.less fun b => by have := le1 b; omega
          -- the test
          refine LC.sub re2 tS ?_ ?_
          · intro x' ρ'
            refine ⟨fun e => ?_, fun e => ?_, fun e => ?_⟩
            · rw [e] at outC; exact outC
            · rw [e] at outC; exact outC
            · rw [e] at outC
              cases x' with
              | dat d => cases d with
                | bool b => exact ⟨b, rfl⟩
                | _ => exact False.elim outC
              | _ => exact False.elim outC
          · intro k ρ2 ek H3 Fz3 f3 re3 s3 t3
            rw [ek] at outC
            simp only [R.nox, R.bind] at outC
            have keep3 : ∀ b o, Hy b = some o → f1 b = 0 → H3 b = some o := fun b o e z => s3.keep b o e (.inl z)
            have notF : ∀ b o, Hy b = some o → (Fzc b ∨ Bz b ∨ ¬ Ow o ∨ 1 ≤ ra b ∨ 1 ≤ fw b ∨ b = D) → f1 b = 0 := fun b o e z => by
              have w1 := tS.wf.lin b
              (try dsimp only at w1)
              rcases z with z | z | z | z | z | z
              · have := (tS.wf.fz b z).1; (try dsimp only at this); omega
              · have := (tS.wf.bz b z).1; (try dsimp only at this); omega
              · by_cases y : 1 ≤ f1 b
                · obtain ⟨o', e', ow⟩ := tS.wf.own b (by (try dsimp only); omega)
                  rw [e] at e'; cases e'; exact absurd ow z
                · omega
              · omega
              · omega
              · rw [if_pos z] at w1; omega
            have hD3 : H3 D = some (.lst acc) := keep3 _ _ hDy (notF _ _ hDy (by simp))
            have rp3 : RpL X.K H3 Fz3 acc ds := rpY.keep (fun b o e z => keep3 b o e (notF b o e (by rcases z with z | z <;> simp [z]))) s3.mono
            have k3 : ∀ b o, H1 b = some o → (Fz1 b ∨ Bz b ∨ ¬ Ow o ∨ 1 ≤ ra b ∨ 1 ≤ fw b) → H3 b = some o := fun b o e z => by
              have e' := kY b o (kC b o e z)
              refine keep3 b o e' (notF b o e' ?_)
              rcases z with z | z | z | z | z
              · exact .inl (mC b z)
              all_goals simp [z]
            have m3 : ∀ b, Fz1 b → Fz3 b := fun b z => s3.mono b (mC b z)
            have l2 : ρ2.length = ρ1.length := by have := re3.length; omega
            cases k with
            | false =>
              rw [if_neg (by decide)]
              refine ⟨w.1.length - (i + 1), by omega, rfl, hlt, ρ2, Fz3, ?_⟩
              obtain ⟨fw3, g3, re3w, hf3, _⟩ := wipe_ok nd re3
              rw [wq] at re3w
              refine ⟨g3, acc, ds, l2, re3w, hD3, rp3, t3.less fun b => by have := hf3 b; omega, k3, m3, ?_⟩
              rw [← hcl]
              exact outC
            | true =>
              rw [if_pos rfl]
              refine LE.sub (k := fun d ρ => R.ok d ρ) re3 t3 ?_ ?_ ?_
              · intro x' ρ' e; rw [e] at outC; exact outC.elim
              · intro e; rw [e] at outC; exact outC.elim
              · intro z ρ3 ez yv H4 Fz4 f4 fd re4 rv4 s4 t4
                rw [ez] at outC
                simp only at outC
                cases hz : z.fz with
                | none => rw [hz] at outC; exact outC.elim
                | some d =>
                  rw [hz] at outC
                  simp only at outC
                  have keep4 : ∀ b o, H3 b = some o → f3 b = 0 → H4 b = some o := fun b o e z => s4.keep b o e (.inl z)
                  have notF4 : ∀ b o, H3 b = some o → (Fz3 b ∨ Bz b ∨ ¬ Ow o ∨ 1 ≤ ra b ∨ 1 ≤ fw b ∨ b = D) → f3 b = 0 := fun b o e z => by
                    have w1 := t3.wf.lin b
                    (try dsimp only at w1)
                    rcases z with z | z | z | z | z | z
                    · have := (t3.wf.fz b z).1; (try dsimp only at this); omega
                    · have := (t3.wf.bz b z).1; (try dsimp only at this); omega
                    · by_cases y : 1 ≤ f3 b
                      · obtain ⟨o', e', ow⟩ := t3.wf.own b (by (try dsimp only); omega)
                        rw [e] at e'; cases e'; exact absurd ow z
                      · omega
                    · omega
                    · omega
                    · rw [if_pos z] at w1; omega
                  have hD4 : H4 D = some (.lst acc) := keep4 _ _ hD3 (notF4 _ _ hD3 (by simp))
                  -- the rest of the run ends well
                  have fitN : acc.length < sizeLine := by
                    revert outC
                    cases hr : compL vs t (fun r => evC G c r) (fun r => evE G elt r) (w.1.drop (i + 1)) ρ3 with
                    | no => intro o; exact o.elim
                    | ex a b => exact (compL_ex hr).elim
                    | ok ds2 ρ4 =>
                      intro o
                      simp only [R.bind, finL] at o
                      split at o
                      · rename_i hf
                        have := fits_line hf
                        rw [rpC.length]
                        simp only [List.length_append, List.length_cons] at this
                        omega
                      · exact o.elim
                  refine ⟨acc, hD4, fitN, w.1.length - (i + 1), by omega, rfl, hlt, ρ3, fun b => Fz4 b ∨ 1 ≤ fd b, ?_⟩
                  obtain ⟨fw4, g4, re4w, hf4, _⟩ := wipe_ok nd re4
                  rw [wq] at re4w
                  have rp4 : RpL X.K H4 (fun b => Fz4 b ∨ 1 ≤ fd b) acc ds := rp3.keep (fun b o e z => keep4 b o e (notF4 b o e (by rcases z with z | z <;> simp [z]))) fun b z => .inl (s4.mono b z)
                  have t5 := t4.freeze (r1 := fun b => ra b + fw b + if b = D then 1 else 0) (g := fd) fun b => rfl
                  -- the write
                  have w5 := t5.wf
                  have lin5 : ∀ b, f4 b + (ra b + fw b + if b = D then 1 else 0) ≤ 1 := fun b => w5.lin b
                  have up : ∀ b o, b ≠ D → H4 b = some o → (upd H4 D (.lst (acc ++ [yv]))) b = some o := fun b o n e => by rw [upd_ne n]; exact e
                  have nD : ∀ b o, H4 b = some o → ((Fz4 b ∨ 1 ≤ fd b) ∨ Bz b ∨ ¬ Ow o) → b ≠ D := fun b o e z eq => by
                    subst eq
                    rcases z with z | z | z
                    · have := (w5.fz b z).1; (try dsimp only at this); rw [if_pos rfl] at this; omega
                    · have := (w5.bz b z).1; (try dsimp only at this); rw [if_pos rfl] at this; omega
                    · rw [hD4] at e; cases e; exact z trivial
                  have re5 : Re X.K (upd H4 D (.lst (acc ++ [yv]))) (fun b => Fz4 b ∨ 1 ≤ fd b) Bz (wipe σ vs) (wipeE ρ3 vs) g4 :=
                    (re4w.monoF fun b h => .inl h).keep (fun b o e z => up b o (nD b o e z) e) (fun _ z => z) fun b o e z => up b o (fun eq => by subst eq; have := lin5 b; rw [if_pos rfl] at this; have := hf4 b; omega) e
                  refine ⟨g4, acc ++ [yv], ds ++ [d], by have := re4.length; omega, re5, upd_same, ?_, ?_, ?_, fun b z => .inl (s4.mono b (m3 b z)), ?_⟩
                  · exact (rp4.append (.cons (rv4.freeze hz) .nil)).keep (fun b o e z => up b o (nD b o e (z.elim .inl fun z => .inr (.inr z))) e) fun _ z => z
                  · exact t5.write hD4 (by (try dsimp only); rw [if_pos rfl]; omega) trivial fun b => by have := hf4 b; (try dsimp only); omega
                  · intro b o e z
                    have e3 := k3 b o e z
                    have e4 : H4 b = some o := keep4 b o e3 (notF4 b o e3 (by
                      rcases z with z | z | z | z | z
                      · exact .inl (m3 b z)
                      all_goals simp [z]))
                    refine up b o (fun eq => ?_) e4
                    subst eq
                    rw [hD] at e; cases e
                  · rw [← hcl]
                    have z : ∀ r : R (List PyData), ((r.bind fun ds2 ρ4 => R.ok (d :: ds2) ρ4).bind fun ds2 ρ4 => finL vs w.2 ρ1 (ds ++ ds2) ρ4) = r.bind fun ds2 ρ4 => finL vs w.2 ρ1 (ds ++ [d] ++ ds2) ρ4 := fun r => by
                      cases r with
                      | ok a b => simp only [R.bind, List.append_assoc, List.singleton_append]
                      | ex a b => rfl
                      | no => rfl
                    rw [← z]
                    exact outC
      · have ei : i = w.1.length := by omega
        subst ei
        refine .inl ⟨(hI Hc Fzc kI mC _).1 (Nat.le_refl _), ?_⟩
        rw [List.drop_length, ← hcl] at outC
        simp only [compL, R.bind, List.append_nil, finL] at outC
        split at outC
        · rename_i hf
          cases hu : unlock w.2 (backE ρ1 ρc vs) with
          | none => rw [hu] at outC; exact outC.elim
          | some ρ3 =>
            rw [hu] at outC
            have reB := back Hc Fzc (fun b o e z => kC b o e (by rcases z with z | z | z <;> simp [z])) mC (fun b o e z => kC b o e (by simp [z])) ρc fc lc reC
            have hL' : Lk X.K Hc Fzc Bz σ ρ1 w.2 ra := by
              unfold Lk at hL ⊢
              split
              · trivial
              · rename_i j d hw
                rw [hw] at hL
                obtain ⟨l, n, v, hv, rv⟩ := hL
                exact ⟨l, n, v, hv, rv.keep (fun b o e z => kC b o e (by rcases z with z | z | z <;> simp [z])) mC n fun b o e z => kC b o e (by simp [z])⟩
            obtain ⟨f3, re3, le3⟩ := unlock_ok hL' reB (by rw [backE_length]; exact lc) hu
            exact outC (.ref D) Hc Fzc f3 (fun b => if b = D then 1 else 0) re3 (.lst hDc (RvL.dats rpC) fun b => by simp) (tC.less fun b => by have := le3 b; (try dsimp only); (try dsimp only at this); omega)
        · exact outC.elim
theorem le_comp {elt : E} {t : T} {it : I} {c : O} {eelt iter : Expr} {ifs : List Expr} {scope : Scope} {own : List (Str × Nat)} (hc : X.calm = true) (hN : X.N.Nodup) (hi : PI X tg iter (LI X.K X.mg G W it)) (ok : BlkOk X.N X.env.scope scope own)
    (hg : ∀ (s : Shared) (H : Hp) (C : Addr) (cl : List (Str × Addr)) (fp : List Addr), PG (X.blk s H scope (compEnvC scope cl C X.env) fp) tg (TGt X.K t)) (ht : ∀ (s : Shared) (H : Hp) (C : Addr) (cl : List (Str × Addr)) (fp : List Addr), PTs (X.blk s H scope (compEnvC scope cl C X.env) fp) ifs (LC X.K X.mg G Wn c))
    (he : ∀ (s : Shared) (H : Hp) (C : Addr) (cl : List (Str × Addr)) (fp : List Addr), PE (X.blk s H scope (compEnvC scope cl C X.env) fp) eelt (LE X.K X.mg G Wn elt)) (hs : ∀ x, foldedSetIterable iter X.env x = pure x)
    (nd : (own.map (·.2)).Nodup) (hsub : ∀ i ∈ t.slots, i ∈ own.map (·.2)) : PE X (.ListComp eelt [⟨tg, iter, ifs, 0⟩] scope pos) (LE X.K X.mg G W (.comp elt t it c (own.map (·.2)))) :=
  PE.imp (pe_lc hc hN hi ok hg ht he hs) fun σ H Q h => comp_imp nd hsub h
end
end DE
end

section
set_option Elab.async false
set_option linter.all false
/-! DE16: statements. -/
namespace DE
open PySem PySem.Spec PyProof.Rows L2

/-- what must hold behind a statement's run; asg: the slots that it may store to -/
def OutS (K : PySem.W.Frag) (mg : Str → Option Value) (Bz : Addr → Prop) (σ0 : L2.St) (asg : List Nat) (H : Hp) (Fz : Addr → Prop) (f : Addr → Nat) (W : WX) (r : SR) (D : Ends) : Prop :=
  match r with
  | .nx ρ => ∀ σ' H' Fz' fρ, Re K H' Fz' Bz σ' ρ fρ → At Bz false H Fz f H' Fz' fρ (fun _ => 0) → (∀ j, j ∉ asg → σ'[j]? = σ0[j]?) → D.nx σ' H'
  | .rt d ρ => ∀ v σ' H' Fz' fρ fd, Re K H' Fz' Bz σ' ρ fρ → d.own = true → Rv K H' Fz' Bz v d fd → At Bz false H Fz f H' Fz' fρ fd → (∀ j, j ∉ asg → σ'[j]? = σ0[j]?) → D.rt v H'
  | .ex x ρ => ∀ cls dx σ' H' Fz' fρ, Re K H' Fz' Bz σ' ρ fρ → Ex mg H' x cls dx → At Bz false H Fz f H' Fz' fρ (fun _ => 0) → (∀ j, j ∉ asg → σ'[j]? = σ0[j]?) → W cls dx σ' H'
  | .no => False
def LS (K : PySem.W.Frag) (mg : Str → Option Value) (G : List Fn) (W : WX) (s : S) : TS := fun D σ H => ∃ ρ Fz Bz f, Re K H Fz Bz σ ρ f ∧ Wf H Fz Bz f ∧ OutS K mg Bz σ s.asgs H Fz f W (exS G s ρ) D
def LSs (K : PySem.W.Frag) (mg : Str → Option Value) (G : List Fn) (W : WX) (s : Ss) : TS := fun D σ H => ∃ ρ Fz Bz f, Re K H Fz Bz σ ρ f ∧ Wf H Fz Bz f ∧ OutS K mg Bz σ s.asgs H Fz f W (exSs G s ρ) D

section
variable {K : PySem.W.Frag} {mg : Str → Option Value} {G : List Fn} {W : WX} {σ σ0 σ1 : L2.St} {Bz Bz' Fz0 Fz Fz1 Fz2 : Addr → Prop} {pu p q : Bool} {H0 H H1 H2 : Hp} {f0 f r f1 r1 f2 g : Addr → Nat} {ρ ρ1 ρ2 : Env} {D : Ends} {asg asg1 : List Nat}
theorem At.comp (t : At Bz p H Fz f H1 Fz1 f1 (fun _ => 0)) (a : At Bz q H1 Fz1 f1 H2 Fz2 f2 r) : At Bz (p && q) H Fz f H2 Fz2 f2 r := (t.step a.stp a.wf).cong fun b => by omega
/-- from a later state -/
theorem OutS.on {rs : SR} (t : At Bz false H Fz f H1 Fz1 f1 (fun _ => 0)) (same : ∀ j, j ∉ asg → σ1[j]? = σ0[j]?) (sub : ∀ j, j ∈ asg1 → j ∈ asg) (out : OutS K mg Bz σ0 asg H Fz f W rs D) : OutS K mg Bz σ1 asg1 H1 Fz1 f1 W rs D := by
  cases rs with
  | nx ρ => exact fun σ' H' Fz' fρ re a s => out σ' H' Fz' fρ re (t.comp a) fun j hj => (s j fun z => hj (sub j z)).trans (same j hj)
  | rt d ρ => exact fun v σ' H' Fz' fρ fd re own rv a s => out v σ' H' Fz' fρ fd re own rv (t.comp a) fun j hj => (s j fun z => hj (sub j z)).trans (same j hj)
  | ex x ρ => exact fun cls dx σ' H' Fz' fρ re ex a s => out cls dx σ' H' Fz' fρ re ex (t.comp a) fun j hj => (s j fun z => hj (sub j z)).trans (same j hj)
  | no => exact out
theorem asg_imp {t : T} {e : E} (h : LS K mg G W (.asg t e) D σ H) : tAsg (LE K mg G W e) (TGt K t) D σ H := by
  obtain ⟨ρ, Fz, Bz, f, re, wf, out⟩ := h
  simp only [exS] at out
  refine LE.sub (k := fun d ρ => R.ok d ρ) re (At.start wf) ?_ ?_ ?_
  · intro x ρ' e; rw [e] at out; exact fun cls dx H' Fz' fρ re' ex a => out cls dx σ H' Fz' fρ re' ex a fun _ _ => rfl
  · intro e; rw [e] at out; exact out
  · intro x ρ1 e1 v H1 Fz1 fρ fd re1 rv s t1
    rw [e1] at out
    simp only [R.sbind] at out
    split at out
    · cases hs : storeT t x ρ1 with
      | none => rw [hs] at out; exact out.elim
      | some ρ2 =>
        rw [hs] at out
        exact store_ok' hs rv re1 fun σ1 f1 re2 le same => out σ1 H1 Fz1 f1 re2 ((t1.less fun b => by have := le b; omega).weak fun h => by cases h) same
    · exact out.elim
theorem par2_imp {i j : Nat} {es : Es} (hij : i ≠ j) (h : LS K mg G W (.par [i, j] es) D σ H) : tPar i j (LEs K mg G W es) D σ H := by
  obtain ⟨ρ, Fz, Bz, f, re, wf, out⟩ := h
  simp only [exS] at out
  refine LEs.sub re (At.start wf) ?_ ?_ ?_
  · intro x ρ' e; rw [e] at out; exact fun cls dx H' Fz' fρ re' ex a => out cls dx σ H' Fz' fρ re' ex a fun _ _ => rfl
  · intro e; rw [e] at out; exact out
  · intro xs ρ1 e1 vs H1 Fz1 fρ fd re1 rv s t1
    rw [e1] at out
    simp only [R.sbind] at out
    split at out
    · rename_i ho
      cases hs : storeT.storeL [i, j] xs ρ1 with
      | none => rw [hs] at out; exact out.elim
      | some ρ2 =>
        rw [hs] at out
        match xs, hs, ho, rv with
        | [], hs, _, _ => simp [storeT.storeL] at hs
        | [_], hs, _, _ =>
          simp only [storeT.storeL] at hs
          split at hs <;> cases hs
        | _ :: _ :: _ :: _, hs, _, _ =>
          simp only [storeT.storeL] at hs
          split at hs
          · split at hs <;> cases hs
          · cases hs
        | [x, y], hs, ho, rv =>
          simp only [DE.D.ownL, Bool.and_eq_true] at ho
          simp only [storeT.storeL] at hs
          split at hs
          · rename_i l1
            split at hs
            · rename_i l2
              cases hs
              obtain ⟨v, ws, g, g', rfl, r1, rt, q1⟩ := rv.cons_inv
              obtain ⟨w, g2, rfl, r2, q2⟩ := rt.one_inv
              obtain ⟨f3, re3, le3⟩ := re1.store l1 r1 (ntr_of_own ho.1)
              obtain ⟨f4, re4, le4⟩ := re3.store l2 r2 (ntr_of_own ho.2.1)
              refine ⟨v, w, rfl, out _ H1 Fz1 f4 re4 ((t1.less fun b => by have := le3 b; have := le4 b; have := q1 b; have := q2 b; omega).weak fun h => by cases h) fun k hk => ?_⟩
              simp only [S.asgs, List.mem_cons, not_or] at hk
              rw [List.getElem?_set_ne (fun e => hk.2.1 e.symm), List.getElem?_set_ne (fun e => hk.1 e.symm)]
            · cases hs
          · cases hs
    · exact out.elim
theorem ret_imp {e : E} (h : LS K mg G W (.ret e) D σ H) : tRet (LE K mg G W e) D σ H := by
  obtain ⟨ρ, Fz, Bz, f, re, wf, out⟩ := h
  simp only [exS] at out
  refine LE.sub (k := fun d ρ => R.ok d ρ) re (At.start wf) ?_ ?_ ?_
  · intro x ρ' e; rw [e] at out; exact fun cls dx H' Fz' fρ re' ex a => out cls dx σ H' Fz' fρ re' ex a fun _ _ => rfl
  · intro e; rw [e] at out; exact out
  · intro x ρ1 e1 v H1 Fz1 fρ fd re1 rv s t1
    rw [e1] at out
    simp only [R.sbind] at out
    split at out
    · rename_i ho
      exact out v σ H1 Fz1 fρ fd re1 ho rv ((t1.cong fun b => by omega).weak fun h => by cases h) fun _ _ => rfl
    · exact out.elim
theorem retN_imp (h : LS K mg G W .retN D σ H) : tRetN D σ H := by
  obtain ⟨ρ, Fz, Bz, f, re, wf, out⟩ := h
  simp only [exS] at out
  exact out .non σ H Fz f (fun _ => 0) re rfl (.dat .non fun _ => rfl) ((At.start wf).weak fun h => by cases h) fun _ _ => rfl
theorem ex_imp {e : E} (h : LS K mg G W (.ex e) D σ H) : tDrop (LE K mg G W e) D σ H := by
  obtain ⟨ρ, Fz, Bz, f, re, wf, out⟩ := h
  simp only [exS] at out
  refine LE.sub (k := fun d ρ => R.ok d ρ) re (At.start wf) ?_ ?_ ?_
  · intro x ρ' e; rw [e] at out; exact fun cls dx H' Fz' fρ re' ex a => out cls dx σ H' Fz' fρ re' ex a fun _ _ => rfl
  · intro e; rw [e] at out; exact out
  · intro x ρ1 e1 v H1 Fz1 fρ fd re1 rv s t1
    rw [e1] at out
    exact out σ H1 Fz1 fρ re1 ((t1.less fun b => by omega).weak fun h => by cases h) fun _ _ => rfl
theorem nil_impS (h : LSs K mg G W .nil D σ H) : tNext D σ H := by
  obtain ⟨ρ, Fz, Bz, f, re, wf, out⟩ := h
  simp only [exSs] at out
  exact out σ H Fz f re ((At.start wf).weak fun h => by cases h) fun _ _ => rfl
theorem cons_impS {s : S} {rs : Ss} (h : LSs K mg G W (.cons s rs) D σ H) : tSeq (LS K mg G W s) (LSs K mg G W rs) D σ H := by
  obtain ⟨ρ, Fz, Bz, f, re, wf, out⟩ := h
  simp only [exSs] at out
  have inL : ∀ j, j ∈ s.asgs → j ∈ (Ss.cons s rs).asgs := fun j h => by simp [Ss.asgs, h]
  refine ⟨ρ, Fz, Bz, f, re, wf, ?_⟩
  cases hr : exS G s ρ with
  | nx ρ' =>
    rw [hr] at out
    intro σ' H' Fz' fρ re' t same
    exact ⟨ρ', Fz', Bz, fρ, re', t.env, OutS.on t (fun j hj => same j fun z => hj (inL j z)) (fun j h => by simp [Ss.asgs, h]) out⟩
  | rt d ρ' =>
    rw [hr] at out
    exact fun v σ' H' Fz' fρ fd re' own rv t same => out v σ' H' Fz' fρ fd re' own rv t fun j hj => same j fun z => hj (inL j z)
  | ex x ρ' =>
    rw [hr] at out
    exact fun cls dx σ' H' Fz' fρ re' ex t same => out cls dx σ' H' Fz' fρ re' ex t fun j hj => same j fun z => hj (inL j z)
  | no => rw [hr] at out; exact out
theorem freeze_imp {i : Nat} {rs : Ss} (h : LSs K mg G W (.cons (.freeze i) rs) D σ H) : LSs K mg G W rs D σ H := by
  obtain ⟨ρ, Fz, Bz, f, re, wf, out⟩ := h
  simp only [exSs, exS] at out
  cases hz : (slot ρ i).fz with
  | none => rw [hz] at out; exact out.elim
  | some d =>
    rw [hz] at out
    simp only at out
    split at out
    · rename_i l
      obtain ⟨o, fi, g, eo, rs', hf, rest⟩ := re.split l
      rcases rs' with ⟨e, _⟩ | ⟨v, e, n, rv⟩
      · rw [e] at hz; simp [DE.D.fz] at hz
      · subst e
        have t := ((At.start wf).cong (g := g) (r1 := fi) fun b => by rw [hf]; omega).freeze (r1 := fun _ => 0) (g := fi) fun b => by omega
        have re' : Re K H (fun b => Fz b ∨ 1 ≤ fi b) Bz σ (ρ.set i (.dat d)) g := (rest.monoF fun b h => .inl h).put' l eo (.inr ⟨v, rfl, rfl, .dat (rv.freeze hz) fun _ => rfl⟩) (fi := fun _ => 0) fun b => by simp
        exact ⟨_, _, Bz, g, re', t.env, OutS.on (t.weak fun h => by cases h) (fun _ _ => rfl) (fun j h => by simp [Ss.asgs, S.asgs, h]) out⟩
    · exact out.elim
theorem ifs_imp {c : E} {a b : Ss} (h : LS K mg G W (.ifs c a b) D σ H) : tIfS (LT K mg G W c) (LSs K mg G W a) (LSs K mg G W b) D σ H := by
  obtain ⟨ρ, Fz, Bz, f, re, wf, out⟩ := h
  simp only [exS] at out
  refine LT.sub re (At.start wf) ?_ ?_ ?_
  · intro x ρ' e; rw [e] at out; exact fun cls dx H' Fz' fρ re' ex a => out cls dx σ H' Fz' fρ re' ex a fun _ _ => rfl
  · intro x ρ'
    refine ⟨fun e => by rw [e] at out; exact out, fun e => ?_⟩
    rw [e] at out
    simp only [R.sbind] at out
    split at out
    · exact ⟨_, rfl⟩
    · exact ⟨_, rfl⟩
    · exact out.elim
  · intro k ρ' e H' Fz' fρ re' t
    rw [e] at out
    cases k with
    | true => rw [if_pos rfl]; exact ⟨ρ', Fz', Bz, fρ, re', t.env, OutS.on (t.weak fun h => by cases h) (fun _ _ => rfl) (fun j h => by simp [S.asgs, h]) out⟩
    | false => rw [if_neg (by decide)]; exact ⟨ρ', Fz', Bz, fρ, re', t.env, OutS.on (t.weak fun h => by cases h) (fun _ _ => rfl) (fun j h => by simp [S.asgs, h]) out⟩
theorem set_imp {p : P} {i e : E} (h : LS K mg G W (.set p i e) D σ H) : tAsg (LE K mg G W e) (gSub (LP K mg G W p) (LE K mg G W i) rSetL) D σ H := by
  obtain ⟨ρ, Fz, Bz, f, re, wf, out⟩ := h
  simp only [exS] at out
  refine LE.sub (k := fun d ρ => R.ok d ρ) re (At.start wf) ?_ ?_ ?_
  · intro x ρ' e; rw [e] at out; exact fun cls dx H' Fz' fρ re' ex a => out cls dx σ H' Fz' fρ re' ex a fun _ _ => rfl
  · intro e; rw [e] at out; exact out
  · intro x ρ1 e1 vx H1 Fz1 fρ1 fx re1 rvx s1 t1
    rw [e1] at out
    simp only [R.sbind] at out
    refine LP.sub re1 t1 ?_ ?_ ?_
    · intro x ρ' e; rw [e] at out; exact fun cls dx H' Fz' fρ re' ex a => out cls dx σ H' Fz' fρ re' ex a fun _ _ => rfl
    · intro e; rw [e] at out; exact out
    · intro q ρ2 e2 u v z H2 Fz2 fρ2 re2 s2 t2 hv hp hg hz
      rw [e2] at out
      simp only at out
      by_cases hc : (i.pure && x.own) = true
      · rw [if_pos hc] at out
        rw [Bool.and_eq_true] at hc
        have nx := ntr_of_own hc.2
        have rvx2 := rvx.frame (.inl nx) s2 (t1.wf.cong fun b => by omega)
        refine LE.sub (k := fun d ρ => R.ok d ρ) re2 t2 ?_ ?_ ?_
        · intro x ρ' e; rw [e] at out; exact fun cls dx H' Fz' fρ re' ex a => out cls dx σ H' Fz' fρ re' ex a fun _ _ => rfl
        · intro e; rw [e] at out; exact out
        · intro y ρ3 e3 vy H3 Fz3 fρ3 fy re3 rvy s3 t3
          rw [e3] at out
          simp only at out
          have rvx3 := rvx2.frame (.inl nx) s3 (t2.wf.cong fun b => by omega)
          split at out
          · rename_i xs k e4
            cases hj : L2.ixN xs.length k with
            | none => rw [hj] at out; exact out.elim
            | some j =>
              rw [hj] at out
              simp only at out
              have hp3 : PathV H3 v q.2 u := hp.same fun b o e => s3.keep b o e (.inr hc.1)
              obtain ⟨fl, g, rl, nl, hs, l, ctx⟩ := re3.place hv hp3 e4 fun z => by cases z
              obtain ⟨a, vs, g0, rfl, h3, h4, h5⟩ := rl.lst_inv
              simp only [DE.D.ntr] at nl
              cases rvy with
              | dat rp _ =>
                have e := rp.int_inv; subst e
                have lj : j < xs.length := by
                  have := (ixN_seq hj).2.1
                  exact this
                obtain ⟨w, fi, g1, hw, ro, q1, dead, _⟩ := h4.split (List.getElem?_eq_getElem lj)
                refine ⟨a, vs, k, j, rfl, rfl, h3, by rw [h4.length]; exact hj, ?_⟩
                have wf3 := t3.wf
                have lin : ∀ b, fρ3 b + (0 + fx b + fy b) ≤ 1 := fun b => wf3.lin b
                have tot : ∀ b, fρ3 b = g0 b + (if b = a then 1 else 0) + g b := fun b => by rw [hs, h5]
                have q1' : ∀ b, g0 b = fi b + g1 b := q1
                have nF : ∀ b o, H3 b = some o → (Fz3 b ∨ Bz b ∨ ¬ Ow o) → b ≠ a := fun b o eb z e => by
                  subst e
                  rcases z with z | z | z
                  · have := (wf3.fz b z).1; have := tot b; rw [if_pos rfl] at this; omega
                  · have := (wf3.bz b z).1; have := tot b; rw [if_pos rfl] at this; omega
                  · rw [h3] at eb; cases eb; exact z trivial
                have up : ∀ b o, b ≠ a → H3 b = some o → (upd H3 a (.lst (vs.set j vx))) b = some o := fun b o n e => by rw [upd_ne n]; exact e
                have full : RvL K H3 Fz3 Bz (vs.set j vx) (xs.set j x) (fun b => fx b + g1 b) := RvL.put dead lj rvx3 fun b => rfl
                have full' : RvL K (upd H3 a (.lst (vs.set j vx))) Fz3 Bz (vs.set j vx) (xs.set j x) (fun b => fx b + g1 b) :=
                  full.keep (fun b o e z => up b o (nF b o e z) e) (fun _ z => z) (ntrL_set nl nx) fun b o e z => up b o (fun eq => by subst eq; have := lin b; have := tot b; rw [if_pos rfl] at this; have := q1' b; (try dsimp only at z); omega) e
                obtain ⟨d', ed, re4⟩ := ctx (upd H3 a (.lst (vs.set j vx))) Fz3 (fun b o e z => up b o (nF b o e z) e) (fun _ z => z) (fun b o e z => up b o (fun eq => by subst eq; have := lin b; have := tot b; rw [if_pos rfl] at this; omega) e)
                  (.lst (xs.set j x)) (fun b => (fx b + g1 b) + if b = a then 1 else 0) (.lst upd_same full' fun b => rfl) (by simpa [DE.D.ntr] using ntrL_set nl nx)
                rw [ed] at out
                simp only at out
                have t4 := t3.write (o' := .lst (vs.set j vx)) (g := fun b => (fx b + g1 b) + (if b = a then 1 else 0) + g b) (r1 := fun _ => 0) h3 (by have := tot a; rw [if_pos rfl] at this; (try dsimp only); omega) trivial fun b => by have := tot b; have := q1' b; (try dsimp only); omega
                exact out σ _ Fz3 _ re4 t4 fun _ _ => rfl
          · exact out.elim
      · rw [if_neg hc] at out
        exact out.elim
end
end DE
end

section
set_option Elab.async false
set_option linter.all false
/-! DE17: loops; defs. -/
namespace DE
open PySem PySem.Spec PyProof.Rows L2

section
variable {K : PySem.W.Frag} {mg : Str → Option Value} {G : List Fn} {W : WX} {σ σ0 σ1 : L2.St} {Bz Bz' Fz0 Fz Fz1 Fz2 : Addr → Prop} {pu p q : Bool} {H0 H H1 H2 : Hp} {f0 f r f1 r1 f2 g : Addr → Nat} {ρ ρ1 ρ2 : Env} {D : Ends} {asg asg1 : List Nat}
theorem Lk.keep {w : Option (Nat × DE.D)} {ra : Addr → Nat} {ρ' : Env} (h : Lk K H Fz Bz σ ρ w ra) (k : ∀ b o, H b = some o → (Fz b ∨ Bz b ∨ ¬ Ow o ∨ 1 ≤ ra b) → H1 b = some o) (m : ∀ b, Fz b → Fz1 b) (l : σ1.length = ρ'.length) (same : ∀ i d, w = some (i, d) → σ1[i]? = σ[i]?) : Lk K H1 Fz1 Bz σ1 ρ' w ra := by
  cases w with
  | none => trivial
  | some w =>
    obtain ⟨j, d⟩ := w
    obtain ⟨l0, n, v, hv, rv⟩ := h
    have e := same j d rfl
    rw [hv] at e
    refine ⟨by rw [← l]; exact (List.getElem?_eq_some_iff.mp e).1, n, v, e, rv.keep (fun b o e z => k b o e (by rcases z with z | z | z <;> simp [z])) m n fun b o e z => k b o e (by simp [z])⟩
theorem fors_imp {t : T} {it : I} {b : Ss} (h : LS K mg G W (.fors t it b) D σ H) : tFor (LI K mg G W it) (TGt K t) (LSs K mg G W b) D σ H := by
  obtain ⟨ρ, Fz, Bz, f, re, wf, out⟩ := h
  simp only [exS] at out
  refine ⟨ρ, Fz, Bz, f, re, wf, ?_⟩
  cases hI0 : evI G it ρ with
  | no => rw [hI0] at out; exact out.elim
  | ex x ρ' => rw [hI0] at out; exact fun cls dx H' Fz' fρ re' ex a => out cls dx σ H' Fz' fρ re' ex a fun _ _ => rfl
  | ok w ρ1 =>
    rw [hI0] at out
    simp only [R.sbind] at out
    split at out
    · rename_i hw
      intro J H1 Fz1 fρ ra re1 t1 hI hL
      have nolock : ∀ j d, w.2 = some (j, d) → j ∉ t.slots ++ b.asgs := fun j d e hj => by
        rw [e] at hw
        simp only [Option.all_some, Bool.not_eq_true'] at hw
        rw [List.contains_iff_mem.mpr hj] at hw
        cases hw
      let Wv : Nat → Nat → L2.St → Hp → Prop := fun i m σc Hc => m = w.1.length - i ∧ i ≤ w.1.length ∧ ∃ (ρc : Env) (Fzc : Addr → Prop) (fc : Addr → Nat), Re K Hc Fzc Bz σc ρc fc ∧ At Bz false H Fz f Hc Fzc fc ra ∧
        (∀ b o, H1 b = some o → (Fz1 b ∨ Bz b ∨ ¬ Ow o ∨ 1 ≤ ra b) → Hc b = some o) ∧ (∀ b, Fz1 b → Fzc b) ∧ (∀ j, j ∉ t.slots ++ b.asgs → σc[j]? = σ[j]?) ∧
        OutS K mg Bz σ (t.slots ++ b.asgs) H Fz f W ((forL t (exSs G b) (w.1.drop i) ρc).unlock w.2) D
      refine ⟨Wv, ⟨w.1.length, by simp, Nat.zero_le _, ρ1, Fz1, fρ, re1, t1, fun b o e _ => e, fun _ h => h, fun _ _ => rfl, by rw [List.drop_zero]; exact out⟩, ?_⟩
      rintro i m σc Hc ⟨rfl, hi, ρc, Fzc, fc, reC, tC, kC, mC, sC, outC⟩
      by_cases hlt : i < w.1.length
      · refine .inr ?_
        obtain ⟨x, hx⟩ : ∃ x, w.1[i]? = some x := ⟨w.1[i], List.getElem?_eq_getElem hlt⟩
        obtain ⟨go, nx, yl⟩ := (hI Hc Fzc kC mC i).2 x hx
        refine ⟨go, fun σn Hn => ∃ m', m' < w.1.length - i ∧ Wv (i + 1) m' σn Hn, fun _ _ z => z, fun v Hy y => ?_⟩
        obtain ⟨ext, rv⟩ := yl v Hy y
        have kY : ∀ b o, Hc b = some o → Hy b = some o := fun b o e => by
          rcases ext with rfl | ⟨q, o', hq, _, rfl⟩
          · exact e
          · rw [upd_ne (ne_of_none e hq)]; exact e
        have tY : At Bz false H Fz f Hy Fzc fc ra := by
          rcases ext with rfl | ⟨q, o', hq, _, rfl⟩
          · exact tC
          · exact tC.lay hq
        have reY : Re K Hy Fzc Bz σc ρc fc := reC.keep (fun b o e _ => kY b o e) (fun _ z => z) fun b o e _ => kY b o e
        have dr : w.1.drop i = x :: w.1.drop (i + 1) := by
          rw [List.drop_eq_getElem_cons hlt]
          rw [List.getElem?_eq_getElem hlt] at hx
          cases hx; rfl
        rw [dr, forL] at outC
        cases hs : storeT t x ρc with
        | none => rw [hs] at outC; exact outC.elim
        | some ρs =>
          rw [hs] at outC
          simp only at outC
          refine store_ok' hs rv reY fun σ1 f1 re2 le1 same => ?_
          have tS : At Bz false H Fz f Hy Fzc f1 ra := tY.less fun b => by have := le1 b; omega
          have sS : ∀ j, j ∉ t.slots ++ b.asgs → σ1[j]? = σ[j]? := fun j hj => (same j fun z => hj (List.mem_append_left _ z)).trans (sC j hj)
          refine ⟨ρs, Fzc, Bz, f1, re2, tS.env, ?_⟩
          -- behind the body
          have go : ∀ {σ' : L2.St} {H' : Hp} {Fz' : Addr → Prop} {fρ rr : Addr → Nat}, At Bz false Hy Fzc f1 H' Fz' fρ rr → (∀ j, j ∉ b.asgs → σ'[j]? = σ1[j]?) →
              At Bz false H Fz f H' Fz' fρ (fun b => ra b + rr b) ∧ (∀ b o, H1 b = some o → (Fz1 b ∨ Bz b ∨ ¬ Ow o ∨ 1 ≤ ra b) → H' b = some o) ∧ (∀ b, Fz1 b → Fz' b) ∧ (∀ j, j ∉ t.slots ++ b.asgs → σ'[j]? = σ[j]?) := fun {σ' H' Fz' fρ rr} a s => by
            refine ⟨(tS.step a.stp a.wf).cong fun b => by omega, fun b o e z => ?_, fun b z => a.stp.mono b (mC b z), fun j hj => (s j fun z => hj (List.mem_append_right _ z)).trans (sS j hj)⟩
            have e' := kY b o (kC b o e z)
            refine a.stp.keep b o e' (.inl ?_)
            have w1 := tS.wf.lin b
            (try dsimp only at w1)
            rcases z with z | z | z | z
            · have := (tS.wf.fz b (mC b z)).1; (try dsimp only at this); omega
            · have := (tS.wf.bz b z).1; (try dsimp only at this); omega
            · by_cases y : 1 ≤ f1 b
              · obtain ⟨o', e2, ow⟩ := tS.wf.own b (by (try dsimp only); omega)
                rw [e'] at e2; cases e2; exact absurd ow z
              · omega
            · omega
          have opn : ∀ {σ' : L2.St} {H' : Hp} {Fz' : Addr → Prop} {fρ rr : Addr → Nat} {ρ' ρ3 : Env}, Re K H' Fz' Bz σ' ρ' fρ → At Bz false Hy Fzc f1 H' Fz' fρ rr → (∀ j, j ∉ b.asgs → σ'[j]? = σ1[j]?) → unlock w.2 ρ' = some ρ3 →
              ∃ f3 : Addr → Nat, Re K H' Fz' Bz σ' ρ3 f3 ∧ At Bz false H Fz f H' Fz' f3 rr ∧ (∀ j, j ∉ t.slots ++ b.asgs → σ'[j]? = σ[j]?) := fun {σ' H' Fz' fρ rr ρ' ρ3} re' a s hu => by
            obtain ⟨t', k', m', s'⟩ := go a s
            have hL' : Lk K H' Fz' Bz σ' ρ' w.2 ra := hL.keep k' m' re'.length fun j d e => s' j (nolock j d e)
            obtain ⟨f3, re3, le3⟩ := unlock_ok hL' re' rfl hu
            exact ⟨f3, re3, t'.less fun b => by have := le3 b; omega, s'⟩
          cases hb : exSs G b ρs with
          | no => rw [hb] at outC; exact outC.elim
          | nx ρ' =>
            rw [hb] at outC
            intro σ' H' Fz' fρ re' a s
            obtain ⟨t', k', m', s'⟩ := go a s
            exact ⟨w.1.length - (i + 1), by omega, rfl, hlt, ρ', Fz', fρ, re', t'.cong fun b => by omega, k', m', s', outC⟩
          | rt d ρ' =>
            rw [hb] at outC
            intro v σ' H' Fz' fρ fd re' own rv' a s
            simp only [SR.bind, SR.unlock] at outC
            cases hu : unlock w.2 ρ' with
            | none => rw [hu] at outC; exact outC.elim
            | some ρ3 =>
              rw [hu] at outC
              obtain ⟨f3, re3, t3, s3⟩ := opn re' a s hu
              exact outC v σ' H' Fz' f3 fd re3 own rv' t3 s3
          | ex x ρ' =>
            rw [hb] at outC
            intro cls dx σ' H' Fz' fρ re' ex a s
            simp only [SR.bind, SR.unlock] at outC
            cases hu : unlock w.2 ρ' with
            | none => rw [hu] at outC; exact outC.elim
            | some ρ3 =>
              rw [hu] at outC
              obtain ⟨f3, re3, t3, s3⟩ := opn re' a s hu
              exact outC cls dx σ' H' Fz' f3 re3 ex t3 s3
      · have ei : i = w.1.length := by omega
        subst ei
        refine .inl ⟨(hI Hc Fzc kC mC _).1 (Nat.le_refl _), ?_⟩
        rw [List.drop_length, forL] at outC
        simp only [SR.unlock] at outC
        cases hu : unlock w.2 ρc with
        | none => rw [hu] at outC; exact outC.elim
        | some ρ3 =>
          rw [hu] at outC
          have hL' : Lk K Hc Fzc Bz σc ρc w.2 ra := hL.keep kC mC reC.length fun j d e => sC j (nolock j d e)
          obtain ⟨f3, re3, le3⟩ := unlock_ok hL' reC rfl hu
          exact outC σc Hc Fzc f3 re3 (tC.less fun b => by have := le3 b; omega) sC
    · exact out.elim
theorem whileU_spec {c : Env → R DE.D} {b : Env → SR} {ρ : Env} (h : whileU c b ρ ≠ .no) : ∃ n, whileN c b n ρ = some (whileU c b ρ) := by
  unfold whileU at h ⊢
  split
  · rename_i hx
    exact ⟨_, Classical.choose_spec (Classical.choose_spec hx)⟩
  · rename_i hx
    rw [dif_neg hx] at h
    exact absurd rfl h
theorem whl_imp {c : E} {b : Ss} (h : LS K mg G W (.whl c b) D σ H) : tWhile (LT K mg G W c) (LSs K mg G W b) D σ H := by
  obtain ⟨ρ, Fz, Bz, f, re, wf, out⟩ := h
  simp only [exS] at out
  obtain ⟨n, hn⟩ := whileU_spec (c := evE G c) (b := exSs G b) (ρ := ρ) fun e => by rw [e] at out; exact out
  let Wv : Nat → L2.St → Hp → Prop := fun m σc Hc => ∃ (ρc : Env) (Fzc : Addr → Prop) (fc : Addr → Nat) (rr : SR), Re K Hc Fzc Bz σc ρc fc ∧ At Bz false H Fz f Hc Fzc fc (fun _ => 0) ∧ (∀ j, j ∉ b.asgs → σc[j]? = σ[j]?) ∧ whileN (evE G c) (exSs G b) m ρc = some rr ∧ OutS K mg Bz σ b.asgs H Fz f W rr D
  refine ⟨Wv, ⟨n, ρ, Fz, f, whileU (evE G c) (exSs G b) ρ, re, (At.start wf).weak (fun h => by cases h), fun _ _ => rfl, hn, out⟩, ?_⟩
  rintro m σc Hc ⟨ρc, Fzc, fc, rr, reC, tC, sC, hw, outC⟩
  cases m with
  | zero => simp [whileN] at hw
  | succ m =>
    rw [whileN] at hw
    refine LT.sub reC tC ?_ ?_ ?_
    · intro x ρ' e
      rw [e] at hw
      simp only [Option.some.injEq] at hw
      subst hw
      exact fun cls dx H' Fz' fρ re' ex a => outC cls dx σc H' Fz' fρ re' ex a sC
    · intro x ρ'
      refine ⟨fun e => ?_, fun e => ?_⟩
      · rw [e] at hw
        simp only [Option.some.injEq] at hw
        subst hw
        exact outC
      · rw [e] at hw
        cases x with
        | dat d => cases d with
          | bool k => exact ⟨k, rfl⟩
          | _ => simp only [Option.some.injEq] at hw; subst hw; exact False.elim outC
        | _ => simp only [Option.some.injEq] at hw; subst hw; exact False.elim outC
    · intro k ρ1 e H1 Fz1 f1 re1 t1
      rw [e] at hw
      have t1' : At Bz false H Fz f H1 Fz1 f1 (fun _ => 0) := t1.weak fun h => by cases h
      cases k with
      | false =>
        rw [if_neg (by decide)]
        simp only [Option.some.injEq] at hw
        subst hw
        exact outC σc H1 Fz1 f1 re1 t1' sC
      | true =>
        rw [if_pos rfl]
        refine ⟨fun σ' H' => ∃ m', m' < m + 1 ∧ Wv m' σ' H', fun _ _ z => z, ρ1, Fz1, Bz, f1, re1, t1'.env, ?_⟩
        simp only at hw
        cases hb : exSs G b ρ1 with
        | nx ρ2 =>
          rw [hb] at hw
          intro σ' H' Fz' fρ re' a s
          exact ⟨m, by omega, ρ2, Fz', fρ, rr, re', t1'.comp a, fun j hj => (s j hj).trans (sC j hj), hw, outC⟩
        | rt d ρ2 =>
          rw [hb] at hw
          simp only [Option.some.injEq] at hw
          subst hw
          exact OutS.on (D := D) t1' sC (fun _ h => h) outC
        | ex x ρ2 =>
          rw [hb] at hw
          simp only [Option.some.injEq] at hw
          subst hw
          exact OutS.on (D := D) t1' sC (fun _ h => h) outC
        | no =>
          rw [hb] at hw
          simp only [Option.some.injEq] at hw
          subst hw
          exact False.elim outC

/-! defs -/
theorem outs_ok : ∀ {io : List Bool} {vs : List V} {σ : L2.St} {ρ : Env} {f : Addr → Nat}, vs.length = io.length → Re K H Fz Bz σ ρ f → (∀ (j : Nat) (v : V), io[j]? = some true → vs[j]? = some v → σ[j]? = some (some v)) →
    ∃ fo : Addr → Nat, RvL K H Fz Bz vs (outsOf io ρ) fo ∧ ∀ b, fo b ≤ f b
  | [], [], _, _, _, _, _, _ => ⟨fun _ => 0, .nil fun _ => rfl, fun b => Nat.zero_le _⟩
  | [], _ :: _, _, _, _, h, _, _ => by simp at h
  | _ :: _, [], _, _, _, h, _, _ => by simp at h
  | b :: io, v :: vs, _, [], f, hl, .nil z, hs => by
    obtain ⟨fo, r, le⟩ := outs_ok (io := io) (vs := vs) (σ := []) (ρ := []) (f := f) (by simpa using hl) (.nil z) fun j w h1 h2 => by
      have := hs (j + 1) w (by simpa using h1) (by simpa using h2)
      simp at this
    exact ⟨fo, .cons (f := fun _ => 0) (.dead fun _ => rfl) r (fun b => by simp), le⟩
  | b :: io, v :: vs, _, d :: ρ, f, hl, .cons (o := o) (s := s) (f := f0) (g := g0) rs t q, hs => by
    obtain ⟨fo, r, le⟩ := outs_ok (io := io) (vs := vs) (by simpa using hl) t fun j w h1 h2 => by simpa using hs (j + 1) w (by simpa using h1) (by simpa using h2)
    rw [outsOf]
    cases b with
    | false => exact ⟨fo, .cons (f := fun _ => 0) (.dead fun _ => rfl) r (fun b => by simp), fun b => by have := le b; rw [q]; omega⟩
    | true =>
      have e := hs 0 v rfl rfl
      simp only [List.getElem?_cons_zero, Option.some.injEq] at e
      subst e
      rcases rs with ⟨e, z⟩ | ⟨w, e, n, rv⟩
      · subst e
        exact ⟨fo, .cons (f := fun _ => 0) (.dead fun _ => rfl) r (fun b => by simp), fun b => by have := le b; rw [q]; omega⟩
      · cases e
        exact ⟨fun b => f0 b + fo b, .cons rv r fun b => rfl, fun b => by have := le b; rw [q]; (try dsimp only); omega⟩
theorem start_ok : ∀ {vs : List V} {ds : List DE.D} {f : Addr → Nat} (n : Nat), RvL K H Fz Bz vs ds f → DE.D.ntrL ds = true → Re K H Fz Bz (vs.map some ++ List.replicate n none) (ds ++ List.replicate n .dead) f
  | _, _, f, 0, .nil z, _ => .nil z
  | _, _, f, n + 1, .nil z, h => .cons (f := fun _ => 0) (g := f) Rs.deadAny (start_ok (vs := []) (ds := []) n (.nil z) h) fun b => by simp
  | _, _, f, n, .cons r t q, h => by
    rw [DE.D.ntrL, Bool.and_eq_true] at h
    exact .cons (.inr ⟨_, rfl, h.1, r⟩) (start_ok n t h.2) q
end
/-- a def's check: parameters that come back are not stored to -/
def FnIR.ioOk (f : FnIR) : Bool := (List.range f.io.length).all fun j => !(f.io.getD j false) || !(f.body.asgs.contains j)

/-- THE RULE of a def -/
theorem fnG_of {P : Program} {w : World} {K : PySem.W.Frag} {mg : Str → Option Value} {base : Heap} {k : Nat} {f : Addr} {fd : FuncData} {x qual : Str} {params : Arguments} {body : List Stmt} {scope : Scope} {kws : List (Str × V)} {N ps : List Str} {G : List Fn} {ir : FnIR}
    (F : FunD K x qual params body scope [] kws f fd) (S : FnScope N ps scope) (hn : ir.n = N.length) (hio : ir.io.length = ps.length) (hok : ir.ioOk = true)
    (hbody : ∀ (cdv : Value) (A : Around) (outer : List PySem.Env) (s : Shared) (H : Hp) (E : XK), A.guards = some [] → Room k (A.deeper (envOfC qual scope s.heap.objs.size f cdv)) →
      PSs (cxOf (L2.CX P w) P w K mg base N qual scope f cdv A outer s H E) body (LSs K mg G (fun cls d _ H => E cls d H) ir.body)) :
    FnG P w K mg base (L2.CX P w) (k + 1) f fd ps (spF K mg ps.length (runF G ir)) := by
  obtain ⟨oc, od, dV, kV, doc, pm, an, cdv, ct, osl, rfl, lk, hcd, _, _⟩ := F.ex
  refine ⟨fun vs H Q E h => h.1, fun A outer s H args us vs Q E gd hr e0 hb r hsp => ?_⟩
  obtain ⟨hl, ds, Fz, Bz, fa, rv, nt, wf, out⟩ := hsp
  have KX : K.In s.heap := e0.mod.kin.keeps fun b o e => (e0.bs b o e).1
  have lim : s.heap.NoLimit := e0.mod.nolimit.keeps fun b o e => (e0.bs b o e).1
  have kinds : ∀ y ∈ ps.zip us, scope.names.lookup y.1 = some .local ∨ (scope.names.lookup y.1 = some .cell ∧ ((cellsFrom (s.heap.objs.size + 1) scope.names []).lookup y.1).isSome = true) := fun y hy => by
    obtain ⟨n, v⟩ := y
    exact (S.par n (List.of_mem_zip hy).1).imp id fun q => ⟨q, PySem.W.cellsFrom_some _ _ _ (.inl q)⟩
  refine codeAny_call_function hr.depth (KX _ _ lk) rfl S.co S.gen rfl (PySem.W.codeRec_of KX hcd) (hb _ _ _ _ (wpAny_newFunctionEnv_cells S.kind kinds ?_))
  intro env he s1 ic
  subst he
  refine ⟨lim.keeps ic.toInCall.keep, codeAny_func ?_⟩
  have I : Inv (cxOf (L2.CX P w) P w K mg base N qual scope f cdv A outer s H E) [] (L2.start N vs) H s1 := inv_start S hr.hd e0 hl r ic
  have hpl : ps.length ≤ N.length := by have := congrArg List.length S.pre; rw [List.length_take] at this; omega
  have dl : ds.length = ps.length := by rw [← rv.length]; exact hl
  -- the body's run
  have reading : LSs K mg G (fun cls d _ H => E cls d H) ir.body { nx := fun _ H' => Q .non H', rt := Q } (L2.start N vs) H := by
    have re0 : Re K H Fz Bz (L2.start N vs) (ds ++ List.replicate (ir.n - ds.length) .dead) fa := by
      unfold L2.start
      rw [hn, dl, ← hl]
      exact start_ok _ rv nt
    refine ⟨_, Fz, Bz, fa, re0, wf, ?_⟩
    have hrun : runF G ir ds = match exSs G ir.body (ds ++ List.replicate (ir.n - ds.length) .dead) with
        | .rt d ρ => .ret d (outsOf ir.io ρ)
        | .nx ρ => .ret (.dat .none) (outsOf ir.io ρ)
        | .ex x ρ => .ex x (outsOf ir.io ρ)
        | .no => .no := by
      unfold runF
      rw [if_pos ⟨by rw [dl, hio], by rw [hio, hn]; exact hpl⟩]
      all_goals (cases exSs G ir.body (ds ++ List.replicate (ir.n - ds.length) .dead) <;> rfl)
    rw [hrun] at out
    have outs : ∀ {H' : Hp} {Fz' : Addr → Prop} {σ' : L2.St} {ρ : Env} {fρ : Addr → Nat}, Re K H' Fz' Bz σ' ρ fρ → (∀ j, j ∉ ir.body.asgs → σ'[j]? = (L2.start N vs)[j]?) → ∃ fo : Addr → Nat, RvL K H' Fz' Bz vs (outsOf ir.io ρ) fo ∧ ∀ b, fo b ≤ fρ b := fun {H' Fz' σ' ρ fρ} re' same => by
      have stl : ∀ j v, vs[j]? = some v → (L2.start N vs)[j]? = some (some v) := fun j v h => by
        have l : j < vs.length := (List.getElem?_eq_some_iff.mp h).1
        unfold L2.start
        rw [List.getElem?_append_left (by simpa using l), List.getElem?_map, h]; rfl
      have io' : ∀ j v, ir.io[j]? = some true → vs[j]? = some v → σ'[j]? = some (some v) := fun j v h1 h2 => by
        have lj : j < ir.io.length := (List.getElem?_eq_some_iff.mp h1).1
        have z := List.all_eq_true.mp hok j (List.mem_range.mpr lj)
        rw [List.getD_eq_getElem?_getD, h1] at z
        have nj : j ∉ ir.body.asgs := fun hj => by
          rw [List.contains_iff_mem.mpr hj] at z
          simp at z
        rw [same j nj]
        exact stl j v h2
      exact outs_ok (by rw [hio]; exact hl) re' io'
    cases hx : exSs G ir.body (ds ++ List.replicate (ir.n - ds.length) .dead) with
    | nx ρ =>
      rw [hx] at out
      intro σ' H' Fz' fρ re' a same
      obtain ⟨fo, ro, le⟩ := outs re' same
      exact out .non H' Fz' fo (fun _ => 0) ro rfl (.dat .non fun _ => rfl) (a.less fun b => by have := le b; omega)
    | rt d ρ =>
      rw [hx] at out
      intro v σ' H' Fz' fρ fd re' own rv' a same
      obtain ⟨fo, ro, le⟩ := outs re' same
      exact out v H' Fz' fo fd ro own rv' (a.less fun b => by have := le b; omega)
    | ex x ρ =>
      rw [hx] at out
      intro cls dx σ' H' Fz' fρ re' ex a same
      obtain ⟨fo, ro, le⟩ := outs re' same
      exact out cls dx H' Fz' fo ro ex (a.less fun b => by have := le b; omega)
    | no => rw [hx] at out; exact out
  have ht := hbody cdv A outer s H E gd (hr.deeper _)
  refine wpAny_mono (ht.run [] s1 (L2.start N vs) H _ I reading) (fun fl s' hs => ?_) fun e s' hs => hs
  have fin : ∀ {σ' : L2.St} {H' : Hp} {v : V} {u : Value}, Inv (cxOf (L2.CX P w) P w K mg base N qual scope f cdv A outer s H E) [] σ' H' s' → RelV v u → Q v H' → CE outer P w H s Q u s' :=
    fun {σ' H' v u} J rv q => ⟨v, H', J.os, J.bare, J.base, J.hok, rv, q⟩
  match fl, hs with
  | .ret u, ⟨v, σ', H', J, rv, q⟩ => exact fin J rv q
  | .next, ⟨σ', H', J, q⟩ => exact fin (v := V.non) (u := Value.none) J rfl q
  | .brk, ⟨_, _, _, q⟩ => exact False.elim q
  | .cont, ⟨_, _, _, q⟩ => exact False.elim q
end DE
end

section
set_option Elab.async false
set_option linter.all false
/-! DE18: terms held against the program's text. -/
namespace DE
open PySem PySem.Spec PyProof.Rows L2

structure FnT where
  name : Str
  ps : List Str
  k : Nat
structure Ck where
  N : List Str
  sc : Scope
  fnc : List Str
  fns : List FnT
  k : Nat
  blt : List Str

def notStar : Expr → Bool
  | .Starred _ _ => false
  | _ => true
def notSlice : Expr → Bool
  | .Slice _ _ _ _ => false
  | _ => true
def notSet : Expr → Bool
  | .Set _ _ _ => false
  | _ => true
def notCall : Expr → Bool
  | .Call _ _ _ _ => false
  | _ => true
def notLC : Expr → Bool
  | .ListComp _ _ _ _ => false
  | .SetComp _ _ _ _ => false
  | .DictComp _ _ _ _ _ => false
  | _ => true
def notTup : Expr → Bool
  | .Tuple _ _ _ => false
  | _ => true
def plainT : Expr → Bool
  | .UnaryOp .Not _ _ => false
  | .BoolOp _ _ _ => false
  | .IfExp _ _ _ _ => false
  | .Compare _ _ _ _ => false
  | _ => true
section
variable {env : PySem.Env} {pos : Pos}
theorem star_ok {e : Expr} {es : List Expr} (h : notStar e = true) : starEach (e :: es) env = (false, eval e env) :: starEach es env := by
  cases e <;> first | rfl | cases h
theorem slice_ok {b : Expr} (h : notSlice b = true) : PlainIx b := by
  intro o i
  cases b <;> first | rfl | cases h
theorem set_ok {b : Expr} (h : notSet b = true) : ∀ x, foldedSetIterable b env x = pure x := by
  intro x
  cases b <;> first | rfl | cases h
theorem base_ok {o : Expr} {name : Str} {w : Sem Value} (h : notCall o = true) : attributeBase o name env w = w := by
  cases o <;> first | rfl | cases h
theorem plain_ok {e : Expr} (h : plainT e = true) : ∀ whole, isTrue e env whole = (do let v ← whole; standAt e.pos; holding [v] (truthy v)) := by
  intro whole
  cases e with
  | UnaryOp op x p => cases op <;> first | rfl | cases h
  | BoolOp _ _ _ => cases h
  | IfExp _ _ _ _ => cases h
  | Compare _ _ _ _ => cases h
  | _ => rfl
theorem stars_any : ∀ {es : List Expr}, es.all notStar = true → (backTo pos (starEach es env)).any (·.1) = false
  | [], _ => rfl
  | e :: es, h => by
    rw [List.all_cons, Bool.and_eq_true] at h
    rw [star_ok h.1]
    show (false || (backTo pos (starEach es env)).any (·.1)) = false
    rw [stars_any h.2]; rfl
theorem stars_all : ∀ {es : List Expr}, es.all notStar = true → (backTo pos (starEach es env)).all (fun x => !x.1) = true
  | [], _ => rfl
  | e :: es, h => by
    rw [List.all_cons, Bool.and_eq_true] at h
    rw [star_ok h.1]
    show (true && (backTo pos (starEach es env)).all (fun x => !x.1)) = true
    rw [stars_all h.2]; rfl
theorem few_ok {e : Expr} {es : List Expr} (h : (e :: es).all notStar = true) (hl : (e :: es).length < 30) : ((backTo pos (starEach (e :: es) env)).all (fun x => !x.1) && (backToKw pos (keywordEach [] env)).all (fun x => x.1.isSome)
      && decide ((e :: es).length + ([] : List Keyword).length + (if ([] : List Keyword).isEmpty then 0 else 1) < 30)) = true := by
  rw [stars_all h]
  have : decide ((e :: es).length + ([] : List Keyword).length + (if ([] : List Keyword).isEmpty then 0 else 1) < 30) = true := decide_eq_true (by simpa using hl)
  rw [this]; rfl
theorem lc_ok {v : Expr} {t : Option Expr} {line : Nat} (h : notLC v = true) : swapsWith v t line env = pure false := by
  cases v <;> first | rfl | cases h
end
/-- whether a comprehension's store is swapped -/
def swapB (sc : Scope) (v : Expr) (t : Str) (p : Pos) : Bool :=
  match v with
  | .ListComp _ _ s vp => sc.names.lookup t == some .local && p.line == vp.line && !(s.names.any fun (n, k) => n == t && (k == .local || k == .cell))
  | _ => false
theorem swap_ok {X : Cx} {v : Expr} {t : Str} {p : Pos} {line : Nat} (hk : X.env.scope.kind = .function) (hv : (match v with | .SetComp _ _ _ _ => false | .DictComp _ _ _ _ _ => false | _ => true) = true) : swapsWith v (some (.Name t p)) line X.env = pure (swapB X.env.scope v t p) := by
  have hb : X.env.blockKind = .function := by unfold PySem.Env.blockKind; rw [hk]; rfl
  cases v with
  | ListComp _ _ s vp =>
    unfold swapsWith swapB
    simp only [hb]
    rfl
  | SetComp _ _ _ _ => cases hv
  | DictComp _ _ _ _ _ => cases hv
  | _ => rfl

def visB (C : Ck) (i : Nat) (x : Str) : Bool := C.N[i]? == some x && (match C.sc.names.lookup x with | some .local => true | some .cell => true | some .free => true | _ => false) && !(x == ("__debug__" : Str)) && !(x == ("__classdict__" : Str))
def locB (C : Ck) (i : Nat) (x : Str) : Bool := C.N[i]? == some x && (match C.sc.names.lookup x with | some .local => true | some .cell => C.fnc.contains x | _ => false)
def glB (C : Ck) (x : Str) : Bool := C.sc.names.lookup x == some .globalImplicit && !(x == ("__debug__" : Str)) && !(x == ("__name__" : Str))
def bltB (C : Ck) (x : Str) : Bool := glB C x && C.blt.contains x
def cstB : PyData → Const → Bool
  | .none, .none => true
  | .bool b, .bool c => b == c
  | .int i, .int j => i == j
  | .str x, .str y => x == y
  | _, _ => false
/-- names of built-in functions, types -/
def Bi.nm : Bi → String
  | .len => "len" | .sum => "sum" | .max => "max" | .min => "min" | .abs => "abs" | .int => "int" | .str => "str" | .all => "all" | .any => "any" | .list => "list" | .tuple => "tuple" | .sorted => "sorted" | .sortedRev => "sorted" | .repr => "repr"
def Bi.easy : Bi → Bool
  | .sorted => false
  | .sortedRev => false
  | _ => true
def Pm.nm : Pm → String
  | .append => "append" | .extend => "extend" | .pop => "pop" | .popAt => "pop" | .insert => "insert"
def Pm.easy1 : Pm → Bool
  | .append => true | .extend => true | .popAt => true | _ => false
def isiT : List String := ["int", "bool", "str", "list", "tuple"]
def blkB (N : List Str) (sc scope : Scope) (own : List Nat) : Bool :=
  scope.kind == .function && scope.names.all (fun y => scope.names.lookup y.1 == some y.2) && own.all (fun i => decide (i < N.length)) &&
  scope.names.all (fun y => !(y.2 == .free) || sc.names.lookup y.1 == some .cell || sc.names.lookup y.1 == some .free) &&
  scope.names.all (fun y => !(y.2 == .local || y.2 == .cell) || (own.map fun i => N.getD i "").contains y.1 || !(N.contains y.1))
def Ck.blk (C : Ck) (scope : Scope) : Ck := { C with sc := relS scope C.sc, fnc := (scope.names.filter fun y => y.2 == .cell).map (·.1) }
def tgB (C : Ck) : T → Expr → Bool
  | .nm i, .Name x _ => locB C i x
  | .tp is, .Tuple es _ _ => go is es
  | _, _ => false
where go : List Nat → List Expr → Bool
  | [], [] => true
  | i :: is, .Name x _ :: es => locB C i x && go is es
  | _, _ => false
def nodupB : List Nat → Bool
  | [] => true
  | a :: l => !(l.contains a) && nodupB l

mutual
def chkE (C : Ck) : E → Bool → Expr → Bool
  | .var i, _, a => (match a with | .Name x _ => visB C i x | _ => false)
  | .mv i, _, a => (match a with | .Name x _ => visB C i x | _ => false)
  | .cst d, _, a => (match a with | .Constant c _ _ => cstB d c | _ => false)
  | .rd p, t, a => (!t || plainT a) && chkP C p a
  | .bp p, t, a => (!t || plainT a) && chkP C p a
  | .neg e, _, a => (match a with | .UnaryOp .USub x _ => chkE C e false x | _ => false)
  | .not e, t, a => (match a with | .UnaryOp .Not x _ => chkE C e t x | _ => false)
  | .bin o e f, _, a => (match a with | .BinOp x o' y _ => decide (o = o') && chkE C e false x && chkE C f false y | _ => false)
  | .cmp o e f, _, a => (match a with | .Compare x [o'] [y] _ => decide (o = o') && notSet y && chkE C e false x && chkE C f false y | _ => false)
  | .and e f, t, a => (match a with
    | .BoolOp .And [x, y] _ => chkE C e t x && chkE C f t y
    | .BoolOp .And (x :: y :: z :: r) p => chkE C e t x && chkE C f t (.BoolOp .And (y :: z :: r) p)
    | _ => false)
  | .or e f, t, a => (match a with
    | .BoolOp .Or [x, y] _ => chkE C e t x && chkE C f t y
    | .BoolOp .Or (x :: y :: z :: r) p => chkE C e t x && chkE C f t (.BoolOp .Or (y :: z :: r) p)
    | _ => false)
  | .ife c e f, t, a => (match a with | .IfExp z x y _ => chkE C c true z && chkE C e t x && chkE C f t y | _ => false)
  | .tup es, _, a => (match a with | .Tuple xs _ _ => chkEs C es xs | _ => false)
  | .lst es, _, a => (match a with | .List xs _ => chkEs C es xs | _ => false)
  | .ix e i, _, a => (match a with | .Subscript x y _ => notSlice y && chkE C e false x && chkE C i false y | _ => false)
  | .sl e lo hi, _, a => (match a with | .Subscript x (.Slice l h .none _) _ => chkE C e false x && chkO C lo l && chkO C hi h | _ => false)
  | .bi b es, _, a => (match a with | .Call (.Name x _) (y :: ys) [] _ => b.easy && x == (b.nm : Str) && bltB C x && chkEs C es (y :: ys) | _ => false)
  | .isi e ts one, _, a => (match a with | .Call (.Name f _) [x, .Name t _] [] _ => f == ("isinstance" : Str) && bltB C f && bltB C t && chkE C e false x && notStar x && (match ts with | [s] => t == (s : Str) && isiT.contains s | _ => false) | _ => false)
  | .pm m p es, _, a => (match a with
    | .Call (.Attribute o nm apos) (y :: ys) [] pos => m.easy1 && nm == (m.nm : Str) && apos.endLine == pos.line && decide ((y :: ys).length < 30) && chkP C p o && chkEs C es (y :: ys)
    | .Call (.Attribute o nm apos) [] [] pos => (match m, es with | .pop, .nil => true | _, _ => false) && nm == ("pop" : Str) && apos.endLine == pos.line && chkP C p o
    | _ => false)
  | .call n f _ as, _, a => (match a with
    | .Call (.Name x _) (y :: ys) [] _ => (match C.fns[n]? with | some t => t.name == x && decide (t.k ≤ C.k) | none => false) && glB C x && chkAs C as (y :: ys)
    | _ => false)
  | .comp e t it c own, _, a => (match a with
    | .ListComp x [⟨tg, iter, ifs, as⟩] scope _ => decide (as = 0) && notSet iter && blkB C.N C.sc scope own && nodupB own && t.slots.all (fun i => own.contains i) && chkI C it iter && tgB (C.blk scope) t tg &&
        (match ifs with | [] => (match c with | .none => true | _ => false) | [y] => chkO1 (C.blk scope) c y | _ => false) && chkE (C.blk scope) e false x
    | _ => false)
  | .frz e, t, a => (!t || plainT a) && chkE C e false a
  | .lrg e, _, a => (match a with | .Call (.Name f _) [.Call (.Name g _) [x] [] _] [] _ => f == ("list" : Str) && bltB C f && g == ("range" : Str) && bltB C g && notStar x && chkE C e false x | _ => false)
  | .trg e, _, a => (match a with | .Call (.Name f _) [.Call (.Name g _) [x] [] _] [] _ => f == ("tuple" : Str) && bltB C f && g == ("range" : Str) && bltB C g && notStar x && chkE C e false x | _ => false)
  | _, _, _ => false
def chkEs (C : Ck) : Es → List Expr → Bool
  | .nil, xs => xs.isEmpty
  | .cons e r, xs => (match xs with | x :: ys => notStar x && chkE C e false x && chkEs C r ys | [] => false)
def chkO (C : Ck) : O → Option Expr → Bool
  | .none, x => x.isNone
  | .some e, x => (match x with | some x => chkE C e false x | none => false)
def chkO1 (C : Ck) : O → Expr → Bool
  | .none, _ => false
  | .some e, x => chkE C e true x
def chkAs (C : Ck) : As → List Expr → Bool
  | .nil, xs => xs.isEmpty
  | .val e r, xs => (match xs with | x :: ys => notStar x && chkE C e false x && chkAs C r ys | [] => false)
  | .ref p r, xs => (match xs with | x :: ys => notStar x && chkP C p x && chkAs C r ys | [] => false)
  | .look p r, xs => (match xs with | x :: ys => notStar x && chkP C p x && chkAs C r ys | [] => false)
def chkP (C : Ck) : P → Expr → Bool
  | .root i, a => (match a with | .Name x _ => visB C i x | _ => false)
  | .idx p e, a => (match a with | .Subscript x y _ => notSlice y && chkP C p x && chkE C e false y | _ => false)
def chkI (C : Ck) : I → Expr → Bool
  | .val e, a => chkE C e false a
  | .ref p, a => chkP C p a
  | .rng1 e, a => (match a with | .Call (.Name g _) [x] [] _ => g == ("range" : Str) && bltB C g && notStar x && chkE C e false x | _ => false)
  | .rng2 e f, a => (match a with | .Call (.Name g _) [x, y] [] _ => g == ("range" : Str) && bltB C g && notStar x && notStar y && chkE C e false x && chkE C f false y | _ => false)
  | .rrng1 e, a => (match a with | .Call (.Name r _) [.Call (.Name g _) [x] [] _] [] _ => r == ("reversed" : Str) && bltB C r && g == ("range" : Str) && bltB C g && notStar x && chkE C e false x | _ => false)
  | _, _ => false
end
end DE
end

section
set_option Elab.async false
set_option linter.all false
/-! DE19: a term that fits the text keeps what its run promises. -/
namespace DE
open PySem PySem.Spec PyProof.Rows L2

structure FnsOk (P : Program) (w : World) (K : PySem.W.Frag) (mg : Str → Option Value) (base : Heap) (G : List Fn) (fns : List FnT) : Prop where
  fn : ∀ n t, fns[n]? = some t → ∃ f fd, mg t.name = some (.ref f) ∧ PySem.W.keepIn K (.ref f) = true ∧ Binds K fd t.ps [] ∧ FnG P w K mg base (L2.CX P w) t.k f fd t.ps (spF K mg t.ps.length (fnAt G n)) ∧ ∀ ds, fnAt G n ds ≠ .no → ds.length = t.ps.length
structure CxOk (X : Cx) (C : Ck) (G : List Fn) (W : WX) : Prop where
  N : X.N = C.N
  sc : X.env.scope = C.sc
  nd : X.N.Nodup
  calm : X.calm = true
  gd : X.A.guards = some []
  room : Room C.k X.A
  tk : Takes X W
  fns : FnsOk X.prog X.w X.K X.mg X.base G C.fns
  free : ∀ x ∈ C.blt, X.mg x = none
  fnc : ∀ x ∈ C.fnc, X.fn x = true

section
variable {X : Cx} {C : Ck} {G : List Fn} {W : WX} {pos : Pos}
theorem str_eq {x y : Str} (h : (x == y) = true) : x = y := by simpa using h
theorem CxOk.units (c : CxOk X C G W) : X.A.units + 65 < cLine := by have := c.room.un; omega
theorem CxOk.vis (c : CxOk X C G W) {i : Nat} {x : Str} (h : visB C i x = true) : PE X (.Name x pos) (tVar i) := by
  unfold visB at h
  simp only [Bool.and_eq_true, Bool.not_eq_true'] at h
  obtain ⟨⟨⟨h1, h2⟩, h3⟩, h4⟩ := h
  refine pe_var (by rw [c.N]; simpa using h1) ?_ h3 h4
  rw [Vis, c.sc]
  revert h2
  cases C.sc.names.lookup x with
  | none => intro h; cases h
  | some k => cases k <;> intro h <;> first | exact .inl rfl | exact .inr (.inl rfl) | exact .inr (.inr rfl) | cases h
theorem CxOk.gl (c : CxOk X C G W) {x : Str} (h : glB C x = true) : Gl X x ∧ (x == ("__debug__" : Str)) = false ∧ x ≠ ("__name__" : Str) := by
  unfold glB at h
  simp only [Bool.and_eq_true, Bool.not_eq_true'] at h
  refine ⟨?_, h.1.2, fun e => by subst e; exact absurd h.2 (by decide)⟩
  unfold Gl PySem.Env.kindOf
  rw [c.sc]
  simpa using h.1.1
theorem CxOk.bl (c : CxOk X C G W) {x : Str} (h : bltB C x = true) : Gl X x ∧ (x == ("__debug__" : Str)) = false ∧ x ≠ ("__name__" : Str) ∧ X.mg x = none := by
  unfold bltB at h
  rw [Bool.and_eq_true] at h
  obtain ⟨h1, h2, h3⟩ := c.gl h.1
  exact ⟨h1, h2, h3, c.free x (List.contains_iff_mem.mp h.2)⟩
theorem CxOk.loc (c : CxOk X C G W) {i : Nat} {x : Str} (h : locB C i x = true) : PG X (.Name x pos) (gName i) := by
  unfold locB at h
  rw [Bool.and_eq_true] at h
  have hN : X.N[i]? = some x := by rw [c.N]; simpa using h.1
  have hk : (X.env.scope.names.lookup x = some .local) ∨ (X.env.scope.names.lookup x = some .cell ∧ X.fn x = true) := by
    rw [c.sc]
    revert h
    cases C.sc.names.lookup x with
    | none => intro h; cases h.2
    | some k => cases k <;> intro h <;> first | exact .inl rfl | exact .inr ⟨rfl, c.fnc x (List.contains_iff_mem.mp h.2)⟩ | cases h.2
  rcases hk with hk | ⟨hk, hf⟩
  · exact pg_name c.nd hN (.inl hk) (.inr hk)
  · exact pg_name c.nd hN (.inr hk) (.inl hf)
theorem names_len {env : PySem.Env} {C : Ck} : ∀ {is : List Nat} {es : List Expr}, tgB.go C is es = true → (assignEach es env).length = is.length ∧ (assignEach es env).findIdx? (·.1) = none
  | [], [], _ => ⟨rfl, rfl⟩
  | [], _ :: _, h => by simp [tgB.go] at h
  | _ :: _, [], h => by simp [tgB.go] at h
  | i :: is, e :: es, h => by
    cases e with
    | Name x p =>
      simp only [tgB.go, Bool.and_eq_true] at h
      obtain ⟨h1, h2⟩ := names_len (env := env) h.2
      refine ⟨by show (assignEach es env).length + 1 = _; rw [h1]; rfl, ?_⟩
      show List.findIdx? _ ((false, assign (.Name x p) env) :: assignEach es env) = none
      rw [List.findIdx?_cons, h2]; rfl
    | _ => simp [tgB.go] at h
theorem CxOk.names (c : CxOk X C G W) : ∀ {is : List Nat} {es : List Expr}, tgB.go C is es = true → PGs X es (gNames is)
  | [], [], _ => pgs_nil
  | [], _ :: _, h => by simp [tgB.go] at h
  | _ :: _, [], h => by simp [tgB.go] at h
  | i :: is, e :: es, h => by
    cases e with
    | Name x p =>
      simp only [tgB.go, Bool.and_eq_true] at h
      exact pgs_cons (c.loc h.1) (c.names h.2)
    | _ => simp [tgB.go] at h
theorem CxOk.tg (c : CxOk X C G W) {t : T} {tg : Expr} (h : tgB C t tg = true) : PG X tg (TGt X.K t) := by
  cases t with
  | nm i => cases tg with
    | Name x p => exact c.loc (by simpa [tgB] using h)
    | _ => simp [tgB] at h
  | tp is => cases tg with
    | Tuple es k p =>
      have h' : tgB.go C is es = true := by simpa [tgB] using h
      obtain ⟨h1, h2⟩ := names_len (env := X.env) h'
      exact pg_tup c.calm (c.names h') h1 h2
    | _ => simp [tgB] at h
theorem takes_blk {Y : Cx} : Takes Y Wn := fun _ _ x => by
  obtain ⟨_, _, _, _, _, _, _, _, _, _, _, _, _, _, _, _, w⟩ := x
  exact w.elim
theorem CxOk.blk (c : CxOk X C G W) (scope : Scope) (hu : ∀ y ∈ scope.names, scope.names.lookup y.1 = some y.2) (s : Shared) (H : Hp) (A : Addr) (cl : List (Str × Addr)) (fp : List Addr) : CxOk (X.blk s H scope (compEnvC scope cl A X.env) fp) (C.blk scope) G Wn where
  N := c.N
  sc := by show relS scope X.env.scope = relS scope C.sc; rw [c.sc]
  nd := c.nd
  calm := c.calm
  gd := c.gd
  room := c.room
  tk := takes_blk
  fns := c.fns
  free := c.free
  fnc := fun x hx => by
    obtain ⟨y, hy, rfl⟩ := List.mem_map.mp hx
    obtain ⟨h1, h2⟩ := List.mem_filter.mp hy
    show (scope.names.lookup y.1 == some NameKind.cell) = true
    rw [hu y h1]
    simpa using h2
theorem nodup_of : ∀ {l : List Nat}, nodupB l = true → l.Nodup
  | [], _ => .nil
  | a :: l, h => by
    simp only [nodupB, Bool.and_eq_true, Bool.not_eq_true'] at h
    refine List.nodup_cons.mpr ⟨fun z => ?_, nodup_of h.2⟩
    rw [List.contains_iff_mem.mpr z] at h
    cases h.1
theorem cst_ok {d : PyData} {c : Const} {j : Nat} (h : cstB d c = true) : PE X (.Constant c j pos) (LE X.K X.mg G W (.cst d)) := by
  cases d <;> cases c <;> simp only [cstB] at h <;> first | cases h | skip
  · exact le_cst pe_non fun _ _ => .non
  · rw [beq_iff_eq] at h
    subst h
    exact le_cst pe_bl fun _ _ => .bl _
  · rw [beq_iff_eq] at h
    subst h
    exact le_cst pe_int fun _ _ => .int _
  · have e := str_eq h
    subst e
    exact le_cst pe_str fun _ _ => .str _
end
end DE
end

section
set_option Elab.async false
set_option linter.all false
/-! DE20: expressions that fit. -/
namespace DE
open PySem PySem.Spec PyProof.Rows L2

section
variable {X : Cx} {C : Ck} {G : List Fn} {W : WX} {pos : Pos}
theorem RpL.intsV {K : PySem.W.Frag} {H : Hp} {S : Addr → Prop} (g : Nat → Int) : ∀ l : List Nat, RpL K H S (l.map fun k => V.int (g k)) (l.map fun k => PyData.int (g k))
  | [] => .nil
  | k :: l => .cons (.int _) (RpL.intsV g l)
theorem rg_rp {K : PySem.W.Frag} {H : Hp} {S : Addr → Prop} {j : Int} : RpL K H S (rgV 0 j) ((List.range j.toNat).map fun (k : Nat) => PyData.int (k : Int)) := by
  unfold rgV
  have e1 : (j - 0).toNat = j.toNat := by rw [Int.sub_zero]
  rw [e1]
  have e2 : ((List.range j.toNat).map fun (i : Nat) => V.int (0 + (i : Int))) = (List.range j.toNat).map fun (i : Nat) => V.int (i : Int) := by simp
  rw [e2]
  exact RpL.intsV (fun k => (k : Int)) _
theorem rngL_eq (n : Nat) : rngL 0 n = ((List.range n).map fun (k : Nat) => PyData.int (k : Int)).map .dat := by
  unfold rngL
  rw [List.map_map]
  refine List.map_congr_left fun k _ => ?_
  simp
theorem le_lrg {e : E} {ee : Expr} {p p2 pos2 : Pos} (hg : Gl X "range") (hm : X.mg "range" = none) (hg2 : Gl X "list") (hm2 : X.mg "list" = none) (hc : X.calm = true) (he : PE X ee (LE X.K X.mg G W e)) (hs : starEach [ee] X.env = (false, eval ee X.env) :: starEach [] X.env) :
    PE X (.Call (.Name "list" p2) [.Call (.Name "range" p) [ee] [] pos] [] pos2) (LE X.K X.mg G W (.lrg e)) := by
  refine PE.imp (pe_listRg hc hg2 hm2 (prg_1 hg hm he hs)) fun σ H Q ⟨ρ, Fz, Bz, f, re, wf, out⟩ => ?_
  simp only [evE] at out
  refine LE.one re (At.start wf) out ?_
  intro x ρ1 v H1 Fz1 fρ fd re1 rv s t out1
  split at out1
  · split at out1
    · rename_i j hj
      rw [Bool.and_eq_true] at hj
      cases rv with
      | dat rp z =>
        have e := rp.int_inv; subst e
        obtain ⟨h1, h2⟩ := rngOk_b hj.1
        have hz := fits_line hj.2
        rw [sizeLine_eq] at hz
        refine ⟨j, rfl, ⟨by omega, by omega, h1, h2, by rw [Int.sub_zero]; omega⟩, fun q hq => ?_⟩
        rw [rngL_eq] at out1
        exact out1.made (S := Fz1) re1 t (fun h => by simpa [E.pure] using h) (Mk.list hq rg_rp) fun _ h => h
    · exact out1.elim
  · exact out1.elim
theorem le_trg {e : E} {ee : Expr} {p p2 pos2 : Pos} (hg : Gl X "range") (hm : X.mg "range" = none) (hg2 : Gl X "tuple") (hm2 : X.mg "tuple" = none) (hc : X.calm = true) (he : PE X ee (LE X.K X.mg G W e)) (hs : starEach [ee] X.env = (false, eval ee X.env) :: starEach [] X.env) :
    PE X (.Call (.Name "tuple" p2) [.Call (.Name "range" p) [ee] [] pos] [] pos2) (LE X.K X.mg G W (.trg e)) := by
  refine PE.imp (pe_tupRg hc hg2 hm2 (prg_1 hg hm he hs)) fun σ H Q ⟨ρ, Fz, Bz, f, re, wf, out⟩ => ?_
  simp only [evE] at out
  refine LE.one re (At.start wf) out ?_
  intro x ρ1 v H1 Fz1 fρ fd re1 rv s t out1
  split at out1
  · split at out1
    · rename_i j hj
      rw [Bool.and_eq_true] at hj
      cases rv with
      | dat rp z =>
        have e := rp.int_inv; subst e
        obtain ⟨h1, h2⟩ := rngOk_b hj.1
        have hz := fits_line hj.2
        rw [sizeLine_eq] at hz
        refine ⟨j, rfl, ⟨by omega, by omega, h1, h2, by rw [Int.sub_zero]; omega⟩, fun q hq => ?_⟩
        exact out1.made (S := Fz1) re1 t (fun h => by simpa [E.pure] using h) (Mk.tuple hq rg_rp) fun _ h => h
    · exact out1.elim
  · exact out1.elim
def isiN (a t : String) : Bool := a == t || (a == "bool" && t == "int")
theorem isi_tab : ∀ a ∈ ["NoneType", "bool", "int", "str", "list", "tuple", "dict"], ∀ t ∈ isiT, kitB a t = some (isiN a t) := by decide +kernel
theorem isi_kit (d : PyData) {t : String} (h : isiT.contains t = true) : kitB (tyName d) t = some (isiD d t) := by
  have e := isi_tab (tyName d) (by cases d <;> simp [tyName]) t (List.contains_iff_mem.mp h)
  rw [e]
  have m : t = "int" ∨ t = "bool" ∨ t = "str" ∨ t = "list" ∨ t = "tuple" := by simpa [isiT] using h
  rcases m with e | e | e | e | e <;> subst e <;> cases d <;> simp [isiN, isiD, tyName]
theorem isi_boot {t : String} (h : isiT.contains t = true) : bootBuiltins (t : Str) = some (.type t) := by
  have m : t = "int" ∨ t = "bool" ∨ t = "str" ∨ t = "list" ∨ t = "tuple" := by simpa [isiT] using h
  rcases m with e | e | e | e | e <;> subst e <;> decide +kernel
theorem le_isi {e : E} {ee : Expr} {t : String} {one : Bool} {p p2 : Pos} (ht : isiT.contains t = true) (hg : Gl X "isinstance") (hm : X.mg "isinstance" = none) (hg2 : Gl X (t : Str)) (hm2 : X.mg (t : Str) = none) (hd2 : ((t : Str) == ("__debug__" : Str)) = false) (hn2 : (t : Str) ≠ ("__name__" : Str))
    (he : PE X ee (LE X.K X.mg G W e)) (hs : starEach [ee, .Name (t : Str) p2] X.env = (false, eval ee X.env) :: starEach [.Name (t : Str) p2] X.env) :
    PE X (.Call (.Name "isinstance" p) [ee, .Name (t : Str) p2] [] pos) (LE X.K X.mg G W (.isi e [t] one)) := by
  refine PE.imp (pe_callB call_isi hg hm boot_isinstance (pa_cons he (pa_cons (pe_bltn hg2 hm2 (isi_boot ht) (v := .ty t) rfl hn2 hd2) pa_nil) hs) (by decide) (by decide) hs (stars_any (by rfl))) fun σ H Q ⟨ρ, Fz, Bz, f, re, wf, out⟩ => ?_
  simp only [evE] at out
  refine LE.one re (At.start wf) out ?_
  intro x ρ1 v H1 Fz1 fρ fd re1 rv s t1 out1
  unfold isiV at out1
  cases hv : x.view with
  | none => rw [hv] at out1; exact out1.elim
  | some d =>
    rw [hv] at out1
    refine ⟨v, .ty t, _, _, isiD d t, rfl, .ty t, tyX_of (rv.look hv), kit_ty (isi_kit d ht), ?_⟩
    have e : ([t].any (isiD d)) = isiD d t := by simp
    simp only [Option.map_some, e] at out1
    exact out1.made (S := Fz1) re1 t1 (fun h => by simpa [E.pure] using h) (.old (.bl _)) fun _ h => h
/-- a built-in function -/
theorem le_bi (c : CxOk X C G W) {b : Bi} {es : Es} {y : Expr} {ys : List Expr} {p : Pos} (hb : b.easy = true) (hx : bltB C (b.nm : Str) = true) (ha : PA X (y :: ys) (LEs X.K X.mg G W es)) (hs : (y :: ys).all notStar = true) :
    PE X (.Call (.Name (b.nm : Str) p) (y :: ys) [] pos) (LE X.K X.mg G W (.bi b es)) := by
  obtain ⟨hg, hd, hn, hm⟩ := c.bl hx
  rw [List.all_cons, Bool.and_eq_true] at hs
  have h1 := star_ok (env := X.env) (es := ys) hs.1
  have h2 := stars_any (env := X.env) (pos := pos) hs.2
  have mB : ∀ {id : String}, CallR X (.builtin id) (rBiV X.K (biD b)) → b.makes = false → bootBuiltins (b.nm : Str) = some (.builtin id) → PE X (.Call (.Name (b.nm : Str) p) (y :: ys) [] pos) (LE X.K X.mg G W (.bi b es)) := fun hc hk hv =>
    PE.imp (pe_callB hc hg hm hv ha hn hd h1 h2) fun σ H Q h => bi_impV hk h
  have mT : ∀ {id : String}, CallR X (.type id) (rBiV X.K (biD b)) → b.makes = false → bootBuiltins (b.nm : Str) = some (.type id) → PE X (.Call (.Name (b.nm : Str) p) (y :: ys) [] pos) (LE X.K X.mg G W (.bi b es)) := fun hc hk hv =>
    PE.imp (pe_callTy hc hg hm hv ha hn hd h1 h2) fun σ H Q h => bi_impV hk h
  have mF : ∀ {id : String}, CallR X (.type id) (rBiF X.K (biF b)) → b.makes = true → bootBuiltins (b.nm : Str) = some (.type id) → PE X (.Call (.Name (b.nm : Str) p) (y :: ys) [] pos) (LE X.K X.mg G W (.bi b es)) := fun hc hk hv =>
    PE.imp (pe_callTy hc hg hm hv ha hn hd h1 h2) fun σ H Q h => bi_impF hk h
  cases b with
  | len => exact mB cb_len rfl (by decide +kernel)
  | sum => exact mB (cb_sum c.calm) rfl (by decide +kernel)
  | max => exact mB (cb_max c.calm) rfl (by decide +kernel)
  | min => exact mB (cb_min c.calm) rfl (by decide +kernel)
  | abs => exact mB cb_abs rfl (by decide +kernel)
  | int => exact mT cb_int rfl (by decide +kernel)
  | str => exact mT cb_str rfl (by decide +kernel)
  | all => exact mB (cb_all c.calm) rfl (by decide +kernel)
  | any => exact mB (cb_any c.calm) rfl (by decide +kernel)
  | list => exact mF cb_list rfl (by decide +kernel)
  | tuple => exact mF cb_tuple rfl (by decide +kernel)
  | repr => exact mB (cb_repr c.gd c.units) rfl (by decide +kernel)
  | sorted => cases hb
  | sortedRev => cases hb
theorem le_call (c : CxOk X C G W) {n : Nat} {fn : Str} {pu : Bool} {as : As} {y : Expr} {ys : List Expr} {p : Pos} {t : FnT} (ht : C.fns[n]? = some t) (hk : t.k ≤ C.k) (hx : glB C t.name = true) (ha : PA X (y :: ys) (LA X.K X.mg G W as)) (hs : (y :: ys).all notStar = true) :
    PE X (.Call (.Name t.name p) (y :: ys) [] pos) (LE X.K X.mg G W (.call n fn pu as)) := by
  obtain ⟨hg, hd, hn⟩ := c.gl hx
  rw [List.all_cons, Bool.and_eq_true] at hs
  obtain ⟨f, fd, hm, kp, bd, F, hl⟩ := c.fns.fn n t ht
  exact PE.imp (pe_callG F c.gd (c.room.mono hk) hg hm kp bd (fun σ => passAt c.tk σ) ha hd (star_ok hs.1) (stars_any hs.2)) fun σ H Q h => call_imp h hl
theorem pe_of {a : Expr} {e : E} (h : PE X a (LE X.K X.mg G W e)) (hp : plainT a = true) : PE X a (LE X.K X.mg G W e) ∧ PT X a (LT X.K X.mg G W e) := ⟨h, lt_val h (plain_ok hp)⟩
theorem pw_of {op : PySem.BoolOp} {vs : List Expr} {t : TT} (h : PT X (.BoolOp op vs pos) t) : PW X (.BoolOp op vs pos) t := ⟨fun wh => h.run⟩
theorem mark_ok {o : CmpOp} {b : Expr} (h : notSet b = true) : behindInMarks o b = false := by
  cases b <;> first | rfl | cases h
theorem chkEs_stars {C : Ck} : ∀ {es : Es} {xs : List Expr}, chkEs C es xs = true → xs.all notStar = true
  | .nil, xs, h => by
    cases xs with
    | nil => rfl
    | cons _ _ => simp [chkEs] at h
  | .cons e r, xs, h => by
    cases xs with
    | nil => simp [chkEs] at h
    | cons x ys =>
      simp only [chkEs, Bool.and_eq_true] at h
      rw [List.all_cons, h.1.1, chkEs_stars h.2]; rfl
theorem chkAs_stars {C : Ck} : ∀ {es : As} {xs : List Expr}, chkAs C es xs = true → xs.all notStar = true
  | .nil, xs, h => by
    cases xs with
    | nil => rfl
    | cons _ _ => simp [chkAs] at h
  | .val e r, xs, h => by
    cases xs with
    | nil => simp [chkAs] at h
    | cons x ys =>
      simp only [chkAs, Bool.and_eq_true] at h
      rw [List.all_cons, h.1.1, chkAs_stars h.2]; rfl
  | .ref e r, xs, h => by
    cases xs with
    | nil => simp [chkAs] at h
    | cons x ys =>
      simp only [chkAs, Bool.and_eq_true] at h
      rw [List.all_cons, h.1.1, chkAs_stars h.2]; rfl
  | .look e r, xs, h => by
    cases xs with
    | nil => simp [chkAs] at h
    | cons x ys =>
      simp only [chkAs, Bool.and_eq_true] at h
      rw [List.all_cons, h.1.1, chkAs_stars h.2]; rfl
theorem chkP_call {C : Ck} {p : P} {x : Expr} (h : chkP C p x = true) : notCall x = true := by
  cases p with
  | root i => simp only [chkP] at h; split at h <;> first | rfl | cases h
  | idx p e => simp only [chkP] at h; split at h <;> first | rfl | cases h
theorem blkB_ok {N : List Str} {sc scope : Scope} {own : List Nat} (h : blkB N sc scope own = true) : ∃ ownP : List (Str × Nat), ownP.map (·.2) = own ∧ BlkOk N sc scope ownP := by
  unfold blkB at h
  simp only [Bool.and_eq_true] at h
  obtain ⟨⟨⟨⟨h1, h2⟩, h3⟩, h4⟩, h5⟩ := h
  refine ⟨own.map fun i => (N.getD i "", i), by rw [List.map_map]; exact List.map_id' own, ?_, ?_, ?_, ?_, ?_⟩
  · simpa using h1
  · intro y hy
    have := List.all_eq_true.mp h2 y hy
    simpa using this
  · intro p hp
    obtain ⟨i, hi, rfl⟩ := List.mem_map.mp hp
    have l : i < N.length := of_decide_eq_true (List.all_eq_true.mp h3 i hi)
    show N[i]? = some (N.getD i "")
    rw [List.getElem?_eq_getElem l, List.getD_eq_getElem?_getD, List.getElem?_eq_getElem l]; rfl
  · intro y hy e
    have := List.all_eq_true.mp h4 y hy
    rw [e] at this
    simpa using this
  · intro y hy e
    have := List.all_eq_true.mp h5 y hy
    have z : (y.2 == NameKind.local || y.2 == NameKind.cell) = true := by rcases e with e | e <;> rw [e] <;> rfl
    rw [z] at this
    have e2 : (own.map fun i => (N.getD i "", i)).map (·.1) = own.map fun i => N.getD i "" := by rw [List.map_map]; rfl
    rw [e2]
    rcases (Bool.or_eq_true _ _).mp this with z | z
    · exact .inl (List.contains_iff_mem.mp (by simpa using z))
    · exact .inr fun w => by rw [List.contains_iff_mem.mpr w] at z; cases z
end
end DE
end

section
set_option Elab.async false
set_option linter.all false
/-! DE21: the check is enough, for expressions. -/
namespace DE
open PySem PySem.Spec PyProof.Rows L2

mutual
theorem chkE_ok {G : List Fn} : ∀ (e : E) {X : Cx} {C : Ck} {W : WX} (c : CxOk X C G W) (a : Expr), (chkE C e false a = true → PE X a (LE X.K X.mg G W e)) ∧ (chkE C e true a = true → PT X a (LT X.K X.mg G W e))
  | .var i, X, C, W, c, a => by
    have key : ∀ t, chkE C (.var i) t a = true → PE X a (LE X.K X.mg G W (.var i)) ∧ PT X a (LT X.K X.mg G W (.var i)) := fun t h => by
      simp only [chkE] at h
      split at h
      · exact pe_of (le_var (c.vis h)) rfl
      · cases h
    exact ⟨fun h => (key _ h).1, fun h => (key _ h).2⟩
  | .mv i, X, C, W, c, a => by
    have key : ∀ t, chkE C (.mv i) t a = true → PE X a (LE X.K X.mg G W (.mv i)) ∧ PT X a (LT X.K X.mg G W (.mv i)) := fun t h => by
      simp only [chkE] at h
      split at h
      · exact pe_of (le_mv (c.vis h)) rfl
      · cases h
    exact ⟨fun h => (key _ h).1, fun h => (key _ h).2⟩
  | .cst d, X, C, W, c, a => by
    have key : ∀ t, chkE C (.cst d) t a = true → PE X a (LE X.K X.mg G W (.cst d)) ∧ PT X a (LT X.K X.mg G W (.cst d)) := fun t h => by
      simp only [chkE] at h
      split at h
      · exact pe_of (cst_ok h) rfl
      · cases h
    exact ⟨fun h => (key _ h).1, fun h => (key _ h).2⟩
  | .glo _ _, X, C, W, c, a => ⟨fun h => by simp [chkE] at h, fun h => by simp [chkE] at h⟩
  | .rd p, X, C, W, c, a => ⟨fun h => by simp only [chkE, Bool.and_eq_true] at h; exact le_rd (chkP_ok p c a h.2), fun h => by
      simp only [chkE, Bool.and_eq_true, Bool.not_true, Bool.false_or] at h
      exact (pe_of (le_rd (chkP_ok p c a h.2)) h.1).2⟩
  | .bp p, X, C, W, c, a => ⟨fun h => by simp only [chkE, Bool.and_eq_true] at h; exact le_bp (chkP_ok p c a h.2), fun h => by
      simp only [chkE, Bool.and_eq_true, Bool.not_true, Bool.false_or] at h
      exact (pe_of (le_bp (chkP_ok p c a h.2)) h.1).2⟩
  | .neg e, X, C, W, c, a => by
    have key : ∀ t, chkE C (.neg e) t a = true → PE X a (LE X.K X.mg G W (.neg e)) ∧ PT X a (LT X.K X.mg G W (.neg e)) := fun t h => by
      simp only [chkE] at h
      split at h
      · exact pe_of (le_neg ((chkE_ok e c _).1 h)) rfl
      · cases h
    exact ⟨fun h => (key _ h).1, fun h => (key _ h).2⟩
  | .not e, X, C, W, c, a => by
    refine ⟨fun h => ?_, fun h => ?_⟩
    · simp only [chkE] at h
      split at h
      · exact le_not ((chkE_ok e c _).1 h)
      · cases h
    · simp only [chkE] at h
      split at h
      · exact lt_not ((chkE_ok e c _).2 h)
      · cases h
  | .bin o e f, X, C, W, c, a => by
    have key : ∀ t, chkE C (.bin o e f) t a = true → PE X a (LE X.K X.mg G W (.bin o e f)) ∧ PT X a (LT X.K X.mg G W (.bin o e f)) := fun t h => by
      simp only [chkE] at h
      split at h
      · simp only [Bool.and_eq_true, decide_eq_true_eq] at h
        obtain ⟨⟨rfl, h1⟩, h2⟩ := h
        exact pe_of (le_bin ((chkE_ok e c _).1 h1) ((chkE_ok f c _).1 h2)) rfl
      · cases h
    exact ⟨fun h => (key _ h).1, fun h => (key _ h).2⟩
  | .cmp o e f, X, C, W, c, a => by
    have key : ∀ t, chkE C (.cmp o e f) t a = true → PE X a (LE X.K X.mg G W (.cmp o e f)) ∧ PT X a (LT X.K X.mg G W (.cmp o e f)) := fun t h => by
      simp only [chkE] at h
      split at h
      · simp only [Bool.and_eq_true, decide_eq_true_eq] at h
        obtain ⟨⟨⟨rfl, h0⟩, h1⟩, h2⟩ := h
        exact ⟨le_cmp c.units ((chkE_ok e c _).1 h1) ((chkE_ok f c _).1 h2) (mark_ok h0), lt_cmp c.units ((chkE_ok e c _).1 h1) ((chkE_ok f c _).1 h2) (mark_ok h0)⟩
      · cases h
    exact ⟨fun h => (key _ h).1, fun h => (key _ h).2⟩
  | .chn _ _ _ _ _, X, C, W, c, a => ⟨fun h => by simp [chkE] at h, fun h => by simp [chkE] at h⟩
  | .and e f, X, C, W, c, a => by
    refine ⟨fun h => ?_, fun h => ?_⟩
    · simp only [chkE] at h
      split at h
      · rw [Bool.and_eq_true] at h
        exact le_and ((chkE_ok e c _).1 h.1) (pe_one ((chkE_ok f c _).1 h.2))
      · rw [Bool.and_eq_true] at h
        exact le_and ((chkE_ok e c _).1 h.1) ((chkE_ok f c _).1 h.2)
      · cases h
    · simp only [chkE] at h
      split at h
      · rw [Bool.and_eq_true] at h
        exact (lw_and ((chkE_ok e c _).2 h.1) (pw_and1 ((chkE_ok f c _).2 h.2))).pt
      · rw [Bool.and_eq_true] at h
        exact (lw_and ((chkE_ok e c _).2 h.1) (pw_of ((chkE_ok f c _).2 h.2))).pt
      · cases h
  | .or e f, X, C, W, c, a => by
    refine ⟨fun h => ?_, fun h => ?_⟩
    · simp only [chkE] at h
      split at h
      · rw [Bool.and_eq_true] at h
        exact le_or ((chkE_ok e c _).1 h.1) (pe_one ((chkE_ok f c _).1 h.2))
      · rw [Bool.and_eq_true] at h
        exact le_or ((chkE_ok e c _).1 h.1) ((chkE_ok f c _).1 h.2)
      · cases h
    · simp only [chkE] at h
      split at h
      · rw [Bool.and_eq_true] at h
        exact (lw_or ((chkE_ok e c _).2 h.1) (pw_or1 ((chkE_ok f c _).2 h.2))).pt
      · rw [Bool.and_eq_true] at h
        exact (lw_or ((chkE_ok e c _).2 h.1) (pw_of ((chkE_ok f c _).2 h.2))).pt
      · cases h
  | .ife g e f, X, C, W, c, a => by
    refine ⟨fun h => ?_, fun h => ?_⟩
    · simp only [chkE] at h
      split at h
      · simp only [Bool.and_eq_true] at h
        exact le_ife ((chkE_ok g c _).2 h.1.1) ((chkE_ok e c _).1 h.1.2) ((chkE_ok f c _).1 h.2)
      · cases h
    · simp only [chkE] at h
      split at h
      · simp only [Bool.and_eq_true] at h
        exact lt_ife ((chkE_ok g c _).2 h.1.1) ((chkE_ok e c _).2 h.1.2) ((chkE_ok f c _).2 h.2)
      · cases h
  | .tup es, X, C, W, c, a => by
    have key : ∀ t, chkE C (.tup es) t a = true → PE X a (LE X.K X.mg G W (.tup es)) ∧ PT X a (LT X.K X.mg G W (.tup es)) := fun t h => by
      simp only [chkE] at h
      split at h
      · exact pe_of (le_tup (chkEs_ok es c _ h)) rfl
      · cases h
    exact ⟨fun h => (key _ h).1, fun h => (key _ h).2⟩
  | .lst es, X, C, W, c, a => by
    have key : ∀ t, chkE C (.lst es) t a = true → PE X a (LE X.K X.mg G W (.lst es)) ∧ PT X a (LT X.K X.mg G W (.lst es)) := fun t h => by
      simp only [chkE] at h
      split at h
      · exact pe_of (le_lst (chkEs_ok es c _ h)) rfl
      · cases h
    exact ⟨fun h => (key _ h).1, fun h => (key _ h).2⟩
  | .ix e i, X, C, W, c, a => by
    have key : ∀ t, chkE C (.ix e i) t a = true → PE X a (LE X.K X.mg G W (.ix e i)) ∧ PT X a (LT X.K X.mg G W (.ix e i)) := fun t h => by
      simp only [chkE] at h
      split at h
      · simp only [Bool.and_eq_true] at h
        exact pe_of (le_ix ((chkE_ok e c _).1 h.1.2) ((chkE_ok i c _).1 h.2) (slice_ok h.1.1)) rfl
      · cases h
    exact ⟨fun h => (key _ h).1, fun h => (key _ h).2⟩
  | .sl e lo hi, X, C, W, c, a => by
    have key : ∀ t, chkE C (.sl e lo hi) t a = true → PE X a (LE X.K X.mg G W (.sl e lo hi)) ∧ PT X a (LT X.K X.mg G W (.sl e lo hi)) := fun t h => by
      simp only [chkE] at h
      split at h
      · simp only [Bool.and_eq_true] at h
        exact pe_of (le_sl ((chkE_ok e c _).1 h.1.1) (chkO_ok lo c _ h.1.2) (chkO_ok hi c _ h.2)) rfl
      · cases h
    exact ⟨fun h => (key _ h).1, fun h => (key _ h).2⟩
  | .rev _, X, C, W, c, a => ⟨fun h => by simp [chkE] at h, fun h => by simp [chkE] at h⟩
  | .bi b es, X, C, W, c, a => by
    have key : ∀ t, chkE C (.bi b es) t a = true → PE X a (LE X.K X.mg G W (.bi b es)) ∧ PT X a (LT X.K X.mg G W (.bi b es)) := fun t h => by
      simp only [chkE] at h
      split at h
      · simp only [Bool.and_eq_true] at h
        obtain ⟨⟨⟨h1, h2⟩, h3⟩, h4⟩ := h
        have e := str_eq h2
        subst e
        exact pe_of (le_bi c h1 h3 (chkEs_ok es c _ h4) (chkEs_stars h4)) rfl
      · cases h
    exact ⟨fun h => (key _ h).1, fun h => (key _ h).2⟩
  | .isi e ts one, X, C, W, c, a => by
    have key : ∀ t, chkE C (.isi e ts one) t a = true → PE X a (LE X.K X.mg G W (.isi e ts one)) ∧ PT X a (LT X.K X.mg G W (.isi e ts one)) := fun t h => by
      simp only [chkE] at h
      split at h
      · simp only [Bool.and_eq_true] at h
        obtain ⟨⟨⟨⟨⟨h1, h2⟩, h3⟩, h4⟩, h5⟩, h6⟩ := h
        have e1 := str_eq h1
        subst e1
        split at h6
        · rw [Bool.and_eq_true] at h6
          have e2 := str_eq h6.1
          subst e2
          obtain ⟨g1, g2, g3, g4⟩ := c.bl h2
          obtain ⟨k1, k2, k3, k4⟩ := c.bl h3
          exact pe_of (le_isi h6.2 g1 g4 k1 k4 k2 k3 ((chkE_ok e c _).1 h4) (star_ok h5)) rfl
        · cases h6
      · cases h
    exact ⟨fun h => (key _ h).1, fun h => (key _ h).2⟩
  | .mt _ _ _, X, C, W, c, a => ⟨fun h => by simp [chkE] at h, fun h => by simp [chkE] at h⟩
  | .pm m p es, X, C, W, c, a => by
    have key : ∀ t, chkE C (.pm m p es) t a = true → PE X a (LE X.K X.mg G W (.pm m p es)) ∧ PT X a (LT X.K X.mg G W (.pm m p es)) := fun t h => by
      simp only [chkE] at h
      split at h
      · simp only [Bool.and_eq_true] at h
        obtain ⟨⟨⟨⟨⟨h1, h2⟩, h3⟩, h4⟩, h5⟩, h6⟩ := h
        have e1 := str_eq h2
        subst e1
        have st := chkEs_stars h6
        have st' := st
        rw [List.all_cons, Bool.and_eq_true] at st'
        have hp := chkP_ok p c _ h5
        have ha := chkEs_ok es c _ h6
        have hb := fun (nm : Str) (w : Sem Value) => base_ok (name := nm) (w := w) (env := X.env) (chkP_call h5)
        cases m with
        | append => exact pe_of (le_append hp ha (hb _ _) (few_ok st (of_decide_eq_true h4)) h3 (star_ok st'.1) (stars_any st'.2)) rfl
        | extend => exact pe_of (le_extend hp ha (hb _ _) (few_ok st (of_decide_eq_true h4)) h3 (star_ok st'.1) (stars_any st'.2)) rfl
        | popAt => exact pe_of (le_popAt hp ha (hb _ _) (few_ok st (of_decide_eq_true h4)) h3 (star_ok st'.1) (stars_any st'.2)) rfl
        | pop => cases h1
        | insert => cases h1
      · simp only [Bool.and_eq_true] at h
        obtain ⟨⟨⟨h1, h2⟩, h3⟩, h4⟩ := h
        have e1 := str_eq h2
        subst e1
        split at h1
        · exact pe_of (le_pop (chkP_ok p c _ h4) (base_ok (chkP_call h4)) h3) rfl
        · cases h1
      · cases h
    exact ⟨fun h => (key _ h).1, fun h => (key _ h).2⟩
  | .call n f pu as, X, C, W, c, a => by
    have key : ∀ t, chkE C (.call n f pu as) t a = true → PE X a (LE X.K X.mg G W (.call n f pu as)) ∧ PT X a (LT X.K X.mg G W (.call n f pu as)) := fun t h => by
      simp only [chkE] at h
      split at h
      · simp only [Bool.and_eq_true] at h
        obtain ⟨⟨h1, h2⟩, h3⟩ := h
        split at h1
        · rename_i t ht
          rw [Bool.and_eq_true] at h1
          have e1 := str_eq h1.1
          subst e1
          exact pe_of (le_call c ht (of_decide_eq_true h1.2) h2 (chkAs_ok as c _ h3) (chkAs_stars h3)) rfl
        · cases h1
      · cases h
    exact ⟨fun h => (key _ h).1, fun h => (key _ h).2⟩
  | .comp e t it o own, X, C, W, c, a => by
    have key : ∀ tt, chkE C (.comp e t it o own) tt a = true → PE X a (LE X.K X.mg G W (.comp e t it o own)) ∧ PT X a (LT X.K X.mg G W (.comp e t it o own)) := fun tt h => by
      simp only [chkE] at h
      split at h
      · rename_i x tg iter ifs as scope pos
        simp only [Bool.and_eq_true, decide_eq_true_eq] at h
        obtain ⟨⟨⟨⟨⟨⟨⟨⟨h1, h2⟩, h3⟩, h4⟩, h5⟩, h6⟩, h7⟩, h8⟩, h9⟩ := h
        subst h1
        obtain ⟨ownP, e1, bo⟩ := blkB_ok h3
        subst e1
        rw [← c.N, ← c.sc] at bo
        have bl := fun (s : Shared) (H : Hp) (A : Addr) (cl : List (Str × Addr)) (fp : List Addr) => c.blk scope bo.uniq s H A cl fp
        refine pe_of (le_comp c.calm c.nd (chkI_ok it c tg iter h6) bo (fun s H A cl fp => (bl s H A cl fp).tg h7) (fun s H A cl fp => ?_) (fun s H A cl fp => (chkE_ok e (bl s H A cl fp) x).1 h9) (set_ok h2) (nodup_of h4) fun i hi => ?_) rfl
        · split at h8
          · split at h8
            · exact pts_nil
            · cases h8
          · rename_i y
            exact chkO1_ok o (bl s H A cl fp) y h8
          · cases h8
        · exact List.contains_iff_mem.mp (List.all_eq_true.mp h5 i hi)
      · cases h
    exact ⟨fun h => (key _ h).1, fun h => (key _ h).2⟩
  | .frz e, X, C, W, c, a => ⟨fun h => by simp only [chkE, Bool.and_eq_true] at h; exact le_frz ((chkE_ok e c a).1 h.2), fun h => by
      simp only [chkE, Bool.and_eq_true, Bool.not_true, Bool.false_or] at h
      exact (pe_of (le_frz ((chkE_ok e c a).1 h.2)) h.1).2⟩
  | .lrg e, X, C, W, c, a => by
    have key : ∀ t, chkE C (.lrg e) t a = true → PE X a (LE X.K X.mg G W (.lrg e)) ∧ PT X a (LT X.K X.mg G W (.lrg e)) := fun t h => by
      simp only [chkE] at h
      split at h
      · simp only [Bool.and_eq_true] at h
        obtain ⟨⟨⟨⟨⟨h1, h2⟩, h3⟩, h4⟩, h5⟩, h6⟩ := h
        have e1 := str_eq h1
        have e2 := str_eq h3
        subst e1 e2
        obtain ⟨g1, _, _, g4⟩ := c.bl h4
        obtain ⟨k1, _, _, k4⟩ := c.bl h2
        exact pe_of (le_lrg g1 g4 k1 k4 c.calm ((chkE_ok e c _).1 h6) (star_ok h5)) rfl
      · cases h
    exact ⟨fun h => (key _ h).1, fun h => (key _ h).2⟩
  | .trg e, X, C, W, c, a => by
    have key : ∀ t, chkE C (.trg e) t a = true → PE X a (LE X.K X.mg G W (.trg e)) ∧ PT X a (LT X.K X.mg G W (.trg e)) := fun t h => by
      simp only [chkE] at h
      split at h
      · simp only [Bool.and_eq_true] at h
        obtain ⟨⟨⟨⟨⟨h1, h2⟩, h3⟩, h4⟩, h5⟩, h6⟩ := h
        have e1 := str_eq h1
        have e2 := str_eq h3
        subst e1 e2
        obtain ⟨g1, _, _, g4⟩ := c.bl h4
        obtain ⟨k1, _, _, k4⟩ := c.bl h2
        exact pe_of (le_trg g1 g4 k1 k4 c.calm ((chkE_ok e c _).1 h6) (star_ok h5)) rfl
      · cases h
    exact ⟨fun h => (key _ h).1, fun h => (key _ h).2⟩
theorem chkEs_ok {G : List Fn} : ∀ (es : Es) {X : Cx} {C : Ck} {W : WX} (c : CxOk X C G W) (xs : List Expr), chkEs C es xs = true → PA X xs (LEs X.K X.mg G W es)
  | .nil, X, C, W, c, xs, h => by
    cases xs with
    | nil => exact le_pnil
    | cons _ _ => simp [chkEs] at h
  | .cons e r, X, C, W, c, xs, h => by
    cases xs with
    | nil => simp [chkEs] at h
    | cons x ys =>
      simp only [chkEs, Bool.and_eq_true] at h
      exact le_pcons ((chkE_ok e c x).1 h.1.2) (chkEs_ok r c ys h.2) (star_ok h.1.1)
theorem chkO_ok {G : List Fn} : ∀ (o : O) {X : Cx} {C : Ck} {W : WX} (c : CxOk X C G W) (x : Option Expr), chkO C o x = true → PO X x (LO X.K X.mg G W o)
  | .none, X, C, W, c, x, h => by
    cases x with
    | none => exact lo_none
    | some _ => simp [chkO] at h
  | .some e, X, C, W, c, x, h => by
    cases x with
    | none => simp [chkO] at h
    | some x => exact lo_some ((chkE_ok e c x).1 (by simpa [chkO] using h))
theorem chkO1_ok {G : List Fn} : ∀ (o : O) {X : Cx} {C : Ck} {W : WX} (c : CxOk X C G W) (y : Expr), chkO1 C o y = true → PTs X [y] (LC X.K X.mg G W o)
  | .none, X, C, W, c, y, h => by simp [chkO1] at h
  | .some e, X, C, W, c, y, h => pts_one ((chkE_ok e c y).2 (by simpa [chkO1] using h))
theorem chkAs_ok {G : List Fn} : ∀ (es : As) {X : Cx} {C : Ck} {W : WX} (c : CxOk X C G W) (xs : List Expr), chkAs C es xs = true → PA X xs (LA X.K X.mg G W es)
  | .nil, X, C, W, c, xs, h => by
    cases xs with
    | nil => exact la_nil
    | cons _ _ => simp [chkAs] at h
  | .val e r, X, C, W, c, xs, h => by
    cases xs with
    | nil => simp [chkAs] at h
    | cons x ys =>
      simp only [chkAs, Bool.and_eq_true] at h
      exact la_val ((chkE_ok e c x).1 h.1.2) (chkAs_ok r c ys h.2) (star_ok h.1.1)
  | .ref e r, X, C, W, c, xs, h => by
    cases xs with
    | nil => simp [chkAs] at h
    | cons x ys =>
      simp only [chkAs, Bool.and_eq_true] at h
      exact la_ref (chkP_ok e c x h.1.2) (chkAs_ok r c ys h.2) (star_ok h.1.1)
  | .look e r, X, C, W, c, xs, h => by
    cases xs with
    | nil => simp [chkAs] at h
    | cons x ys =>
      simp only [chkAs, Bool.and_eq_true] at h
      exact la_look (chkP_ok e c x h.1.2) (chkAs_ok r c ys h.2) (star_ok h.1.1)
theorem chkP_ok {G : List Fn} : ∀ (p : P) {X : Cx} {C : Ck} {W : WX} (c : CxOk X C G W) (a : Expr), chkP C p a = true → PE X a (LP X.K X.mg G W p)
  | .root i, X, C, W, c, a, h => by
    simp only [chkP] at h
    split at h
    · exact lp_root (c.vis h)
    · cases h
  | .idx p e, X, C, W, c, a, h => by
    simp only [chkP] at h
    split at h
    · simp only [Bool.and_eq_true] at h
      exact lp_idx (chkP_ok p c _ h.1.2) ((chkE_ok e c _).1 h.2) (slice_ok h.1.1)
    · cases h
theorem chkI_ok {G : List Fn} : ∀ (it : I) {X : Cx} {C : Ck} {W : WX} (c : CxOk X C G W) (tg a : Expr), chkI C it a = true → PI X tg a (LI X.K X.mg G W it)
  | .val e, X, C, W, c, tg, a, h => li_val ((chkE_ok e c a).1 (by simpa [chkI] using h))
  | .ref p, X, C, W, c, tg, a, h => li_ref (chkP_ok p c a (by simpa [chkI] using h))
  | .rng1 e, X, C, W, c, tg, a, h => by
    simp only [chkI] at h
    split at h
    · simp only [Bool.and_eq_true] at h
      obtain ⟨⟨⟨h1, h2⟩, h3⟩, h4⟩ := h
      have e1 := str_eq h1
      subst e1
      obtain ⟨g1, _, _, g4⟩ := c.bl h2
      exact li_rng1 g1 g4 ((chkE_ok e c _).1 h4) (star_ok h3)
    · cases h
  | .rng2 e f, X, C, W, c, tg, a, h => by
    simp only [chkI] at h
    split at h
    · simp only [Bool.and_eq_true] at h
      obtain ⟨⟨⟨⟨⟨h1, h2⟩, h3⟩, h4⟩, h5⟩, h6⟩ := h
      have e1 := str_eq h1
      subst e1
      obtain ⟨g1, _, _, g4⟩ := c.bl h2
      have s2 := star_ok (env := X.env) (es := []) h4
      exact li_rng2 g1 g4 ((chkE_ok e c _).1 h5) ((chkE_ok f c _).1 h6) ((star_ok h3).trans (by rw [s2]; rfl)) s2
    · cases h
  | .rrng1 e, X, C, W, c, tg, a, h => by
    simp only [chkI] at h
    split at h
    · simp only [Bool.and_eq_true] at h
      obtain ⟨⟨⟨⟨⟨h1, h2⟩, h3⟩, h4⟩, h5⟩, h6⟩ := h
      have e1 := str_eq h1
      have e2 := str_eq h3
      subst e1 e2
      obtain ⟨g1, _, _, g4⟩ := c.bl h4
      obtain ⟨k1, _, _, k4⟩ := c.bl h2
      exact li_rrng1 g1 g4 k1 k4 ((chkE_ok e c _).1 h6) (star_ok h5) (star_ok rfl)
    · cases h
  | .zip _ _, X, C, W, c, tg, a, h => by simp [chkI] at h
  | .enum _, X, C, W, c, tg, a, h => by simp [chkI] at h
  | .revd _, X, C, W, c, tg, a, h => by simp [chkI] at h
end
end DE
end

section
set_option Elab.async false
set_option linter.all false
/-! DE22: statements and defs that fit. -/
namespace DE
open PySem PySem.Spec PyProof.Rows L2

def notSDC : Expr → Bool
  | .SetComp _ _ _ _ => false
  | .DictComp _ _ _ _ _ => false
  | _ => true
def parB (C : Ck) (i j : Nat) (x y : Str) (px py : Pos) (a b : Expr) : Bool :=
  C.N[i]? == some x && C.N[j]? == some y && !(i == j) && C.sc.names.lookup x == some .local && C.sc.names.lookup y == some .local && px.line == py.line && !(x == y) && notStar a && notStar b && !([a, b].all (foldedForSure 8)) && !([a, b].all (constantsAlone 8))
mutual
def chkS (C : Ck) : S → Stmt → Bool
  | .asg t e, st => (match st with
    | .Assign [tg] v pos => tgB C t tg && chkE C e false v && (match tg with
      | .Name x p => notSDC v && (if swapB C.sc v x p then (match e, t with | .comp _ _ _ _ _, .nm _ => C.sc.names.lookup x == some .local | _, _ => false) else true)
      | .Tuple _ _ _ => notTup v
      | _ => false)
    | _ => false)
  | .set p i e, st => (match st with | .Assign [.Subscript o x _] v _ => notSlice x && chkP C p o && chkE C i false x && chkE C e false v | _ => false)
  | .par is es, st => (match is, st with
    | [i, j], .Assign [.Tuple [.Name x px, .Name y py] _ _] (.Tuple [a, b] _ _) _ => parB C i j x y px py a b && chkEs C es [a, b]
    | _, _ => false)
  | .ex e, st => (match st with | .Expr v _ => notLC v && chkE C e false v | _ => false)
  | .ret e, st => (match st with | .Return (some v) _ => chkE C e false v | _ => false)
  | .retN, st => (match st with | .Return none _ => true | _ => false)
  | .ifs c a b, st => (match st with | .If x y z _ => chkE C c true x && chkSs C a y && chkSs C b z | _ => false)
  | .fors t it b, st => (match st with | .For tg iter y [] _ => notSet iter && tgB C t tg && chkI C it iter && chkSs C b y | _ => false)
  | .whl c b, st => (match st with | .While x y [] _ => chkE C c true x && chkSs C b y | _ => false)
  | _, _ => false
def chkSs (C : Ck) : Ss → List Stmt → Bool
  | .nil, l => l.isEmpty
  | .cons s r, l => (match s with
    | .freeze _ => chkSs C r l
    | _ => (match l with | st :: l' => chkS C s st && chkSs C r l' | [] => false))
end

section
variable {X : Cx} {C : Ck} {G : List Fn} {W : WX} {pos : Pos}
theorem PS.imp {st : Stmt} {t t' : TS} (h : PS X st t) (i : ∀ D σ H, t' D σ H → t D σ H) : PS X st t' := ⟨fun pins s σ H D I z => h.run pins s σ H D I (i _ _ _ z)⟩
theorem PSs.imp {st : List Stmt} {t t' : TS} (h : PSs X st t) (i : ∀ D σ H, t' D σ H → t D σ H) : PSs X st t' := ⟨fun pins s σ H D I z => h.run pins s σ H D I (i _ _ _ z)⟩
theorem swapped2 {env : PySem.Env} {x y : Str} {px py pt pt2 : Pos} {k k2 : Nat} {a b : Expr} (hb : env.blockKind = .function) (hx : env.kindOf x = some .local) (hy : env.kindOf y = some .local) (hl : (px.line == py.line) = true) (hxy : (x == y) = false)
    (sa : notStar a = true) (sb : notStar b = true) (h1 : [a, b].all (foldedForSure 8) = false) (h2 : [a, b].all (constantsAlone 8) = false) : swappedStores [.Tuple [.Name x px, .Name y py] k pt] (.Tuple [a, b] k2 pt2) env = pure (some [x, y]) := by
  have hl' : py.line = px.line := by rw [beq_iff_eq] at hl; exact hl.symm
  have hyx : (y == x) = false := by
    rw [beq_eq_false_iff_ne] at hxy ⊢
    exact fun e => hxy e.symm
  have e0 : [y].eraseDups = [y] := by rw [List.eraseDups_cons]; rfl
  have e3 : [x, y].eraseDups = [x, y] := by
    rw [List.eraseDups_cons]
    simp [List.filter, hyx, e0]
  have lp : ∀ (x : Str) (p : Pos), (PySem.Expr.Name x p).pos = p := fun _ _ => rfl
  have f1 : ¬ ((∃ q ∈ [a, b], foldedForSure 8 q = false) → False) := fun z => by
    rw [List.all_eq_false] at h1
    obtain ⟨q, hq, hf⟩ := h1
    exact z ⟨q, hq, by simpa using hf⟩
  have nm : ([PySem.Expr.Name x px, PySem.Expr.Name y py].filterMap (fun
    | .Name id pos => if env.kindOf id == some .local && pos.line == px.line then some id else none
    | _ => none)) = [x, y] := by
    simp [List.filterMap_cons, hx, hy, hl']
  unfold swappedStores
  simp only [hb, lp, List.head?_cons, Option.map_some, Option.getD_some]
  rw [if_neg (by simp), if_neg ?st]
  case st =>
    simp only [List.any_cons, List.any_nil, Bool.or_false, Bool.or_eq_true, not_or]
    constructor
    · cases a <;> first | (intro z; cases z; done) | cases sa
    · cases b <;> first | (intro z; cases z; done) | cases sb
  refine Eq.trans (b := (if ([x, y].length != 2 || [x, y].eraseDups.length != [x, y].length) = true then pure none else if ([a, b].all (foldedForSure 8)) = true then pure none else if ([a, b].all (constantsAlone 8)) = true then (do unsupported "assign.tuple-of-constant-expressions:order-of-the-stores"; pure (some [x, y])) else pure (some [x, y]))) ?_ ?_
  · have nm' := nm
    revert nm'
    generalize ([PySem.Expr.Name x px, PySem.Expr.Name y py].filterMap (fun
    | .Name id pos => if env.kindOf id == some .local && pos.line == px.line then some id else none
    | _ => none)) = l
    intro e
    subst e
    rfl
  · rw [if_neg (by simp [e3]), if_neg (by rw [h1]; decide), if_neg (by rw [h2]; decide)]
theorem CxOk.bk (c : CxOk X C G W) (hk : X.env.scope.kind = .function) : X.env.blockKind = .function := by unfold PySem.Env.blockKind; rw [hk]; rfl
theorem nx_of (c : CxOk X C G W) (hk : X.env.scope.kind = .function) : True := trivial

mutual
theorem chkS_ok (c : CxOk X C G W) (hk : X.env.scope.kind = .function) (hp : PassesOwn (model X.prog X.w) X.A X.env X.xe) : ∀ (s : S) (st : Stmt), chkS C s st = true → PS X st (LS X.K X.mg G W s)
  | .asg t e, st, h => by
    simp only [chkS] at h
    split at h
    · rename_i tg v pos
      simp only [Bool.and_eq_true] at h
      obtain ⟨⟨h1, h2⟩, h3⟩ := h
      have he := (chkE_ok e c v).1 h2
      split at h3
      · rename_i x p
        rw [Bool.and_eq_true] at h3
        have sw := fun line => swap_ok (X := X) (v := v) (t := x) (p := p) (line := line) hk (by cases v <;> first | rfl | cases h3.1)
        rw [c.sc] at sw
        cases t with
        | tp is => simp [tgB] at h1
        | nm i =>
          have hl : locB C i x = true := by simpa [tgB] using h1
          by_cases hs : swapB C.sc v x p = true
          · have h4 := h3.2
            rw [if_pos hs] at h4
            cases e with
            | comp elt t' it o own =>
              have hx : C.sc.names.lookup x = some .local := by simpa using h4
              simp only [chkE] at h2
              split at h2
              · rename_i x' tg iter ifs as scope pos'
                simp only [Bool.and_eq_true, decide_eq_true_eq] at h2
                obtain ⟨⟨⟨⟨⟨⟨⟨⟨k1, k2⟩, k3⟩, k4⟩, k5⟩, k6⟩, k7⟩, k8⟩, k9⟩ := h2
                subst k1
                obtain ⟨ownP, e1, bo⟩ := blkB_ok k3
                subst e1
                rw [← c.N, ← c.sc] at bo
                have bl := fun (s : Shared) (H : Hp) (A : Addr) (cl : List (Str × Addr)) (fp : List Addr) => c.blk scope bo.uniq s H A cl fp
                unfold locB at hl
                rw [Bool.and_eq_true] at hl
                refine PS.imp (ps_setLc (wi := LI X.K X.mg G W it) (g := TGt X.K t') (tt := LC X.K X.mg G Wn o) (te := LE X.K X.mg G Wn elt) c.calm c.nd (by rw [c.N]; simpa using hl.1) (by rw [c.sc]; exact hx) ((sw _).trans (by rw [hs])) (chkI_ok it c tg iter k6) bo (fun s H A cl fp => (bl s H A cl fp).tg k7) (fun s H A cl fp => ?_) (fun s H A cl fp => (chkE_ok elt (bl s H A cl fp) x').1 k9) (set_ok k2)) fun D σ H q => ?_
                · split at k8
                  · split at k8
                    · exact pts_nil
                    · cases k8
                  · rename_i y
                    exact chkO1_ok o (bl s H A cl fp) y k8
                  · cases k8
                · exact comp_imp (nodup_of k4) (fun i hi => List.contains_iff_mem.mp (List.all_eq_true.mp k5 i hi)) (asg_imp q)
              · cases h2
            | _ => simp at h4
          · refine PS.imp (ps_set c.nd ?a1 ?a2 he ((sw pos.line).trans (by simp [hs])) ?a3) fun D σ H q => asg_imp q
            all_goals
              unfold locB at hl
              rw [Bool.and_eq_true] at hl
            case a1 => rw [c.N]; simpa using hl.1
            all_goals
              have hl2 := hl.2
              rw [← c.sc] at hl2
              cases hz : X.env.scope.names.lookup x with
              | none => rw [hz] at hl2; cases hl2
              | some kd =>
                rw [hz] at hl2
                cases kd <;> first | exact Or.inl hz | exact Or.inr hz | exact Or.inr rfl | exact Or.inl (c.fnc x (List.contains_iff_mem.mp hl2)) | cases hl2
      · rename_i es k p
        refine PS.imp (ps_asg he (c.tg h1) ?_ ?_) fun D σ H q => asg_imp q
        · show swapsWith v (some (.Tuple es k p)) pos.line X.env = pure false
          cases v <;> rfl
        · show swappedStores [.Tuple es k p] v X.env = pure none
          cases v <;> first | rfl | cases h3
      · cases h3
    · cases h
  | .set p i e, st, h => by
    simp only [chkS] at h
    split at h
    · rename_i o x p2 v pos
      simp only [Bool.and_eq_true] at h
      obtain ⟨⟨⟨h1, h2⟩, h3⟩, h4⟩ := h
      refine PS.imp (ps_asg ((chkE_ok e c v).1 h4) (pg_sub (chkP_ok p c o h2) ((chkE_ok i c x).1 h3) set_list ?_) ?_ rfl rfl) fun D σ H q => set_imp q
      · intro u
        cases x <;> first | rfl | cases h1
      · show swapsWith v (some (.Subscript o x p2)) pos.line X.env = pure false
        cases v <;> rfl
    · cases h
  | .set2 _ _ _ _ _, st, h => by simp [chkS] at h
  | .par is es, st, h => by
    simp only [chkS] at h
    split at h
    · rename_i i j x px y py kt pt a b k2 pt2 pos
      rw [Bool.and_eq_true] at h
      have hb := h.1
      unfold parB at hb
      simp only [Bool.and_eq_true, Bool.not_eq_true'] at hb
      obtain ⟨⟨⟨⟨⟨⟨⟨⟨⟨⟨b1, b2⟩, b3⟩, b4⟩, b5⟩, b6⟩, b7⟩, b8⟩, b9⟩, b10⟩, b11⟩ := hb
      have hij : i ≠ j := by simpa using b3
      have lx : X.env.scope.names.lookup x = some .local := by rw [c.sc]; simpa using b4
      have ly : X.env.scope.names.lookup y = some .local := by rw [c.sc]; simpa using b5
      exact PS.imp (ps_par c.calm c.nd (by rw [c.N]; simpa using b1) (by rw [c.N]; simpa using b2) hij lx ly (chkEs_ok es c _ h.2) (swapped2 (c.bk hk) lx ly b6 b7 b8 b9 b10 b11) rfl) fun D σ H q => par2_imp hij q
    · cases h
  | .ex e, st, h => by
    simp only [chkS] at h
    split at h
    · rw [Bool.and_eq_true] at h
      exact PS.imp (ps_expr ((chkE_ok e c _).1 h.2) (lc_ok h.1)) fun D σ H q => ex_imp q
    · cases h
  | .ret e, st, h => by
    simp only [chkS] at h
    split at h
    · exact PS.imp (ps_ret ((chkE_ok e c _).1 h)) fun D σ H q => ret_imp q
    · cases h
  | .retN, st, h => by
    simp only [chkS] at h
    split at h
    · exact PS.imp ps_retN fun D σ H q => retN_imp q
    · cases h
  | .ifs g a b, st, h => by
    simp only [chkS] at h
    split at h
    · simp only [Bool.and_eq_true] at h
      exact PS.imp (ps_if ((chkE_ok g c _).2 h.1.1) (chkSs_ok c hk hp a _ h.1.2) (chkSs_ok c hk hp b _ h.2)) fun D σ H q => ifs_imp q
    · cases h
  | .fors t it b, st, h => by
    simp only [chkS] at h
    split at h
    · simp only [Bool.and_eq_true] at h
      exact PS.imp (ps_for hp c.calm (chkI_ok it c _ _ h.1.2) (c.tg h.1.1.2) (chkSs_ok c hk hp b _ h.2) (set_ok h.1.1.1)) fun D σ H q => fors_imp q
    · cases h
  | .whl g b, st, h => by
    simp only [chkS] at h
    split at h
    · rw [Bool.and_eq_true] at h
      exact PS.imp (ps_while hp ((chkE_ok g c _).2 h.1) (chkSs_ok c hk hp b _ h.2)) fun D σ H q => whl_imp q
    · cases h
  | .freeze _, st, h => by simp [chkS] at h
theorem chkSs_ok (c : CxOk X C G W) (hk : X.env.scope.kind = .function) (hp : PassesOwn (model X.prog X.w) X.A X.env X.xe) : ∀ (s : Ss) (l : List Stmt), chkSs C s l = true → PSs X l (LSs X.K X.mg G W s)
  | .nil, l, h => by
    cases l with
    | nil => exact PSs.imp pss_nil fun D σ H q => nil_impS q
    | cons _ _ => simp [chkSs] at h
  | .cons s r, l, h => by
    simp only [chkSs] at h
    split at h
    · exact PSs.imp (chkSs_ok c hk hp r l h) fun D σ H q => freeze_imp q
    · cases l with
      | nil => cases h
      | cons st l' =>
        simp only [Bool.and_eq_true] at h
        exact PSs.imp (pss_cons (chkS_ok c hk hp s st h.1) (chkSs_ok c hk hp r l' h.2)) fun D σ H q => cons_impS q
end
end
end DE
end

section
set_option Elab.async false
set_option linter.all false
/-! DE23: defs that fit; a law's end. -/
namespace DE
open PySem PySem.Spec PyProof.Rows L2

def nodupS : List Str → Bool
  | [] => true
  | a :: l => !(l.contains a) && nodupS l
theorem nodupS_ok : ∀ {l : List Str}, nodupS l = true → l.Nodup
  | [], _ => .nil
  | a :: l, h => by
    simp only [nodupS, Bool.and_eq_true, Bool.not_eq_true'] at h
    refine List.nodup_cons.mpr ⟨fun z => ?_, nodupS_ok h.2⟩
    rw [List.contains_iff_mem.mpr z] at h
    cases h.1
def scB (N ps : List Str) (sc : Scope) : Bool :=
  sc.kind == .function && !sc.isCoroutine && !sc.isGenerator && nodupS N && N.take ps.length == ps && ps.all (fun x => sc.names.lookup x == some .local || sc.names.lookup x == some .cell) && sc.names.all (fun y => !(y.2 == .free))
theorem scB_ok {N ps : List Str} {sc : Scope} (h : scB N ps sc = true) : FnScope N ps sc := by
  unfold scB at h
  simp only [Bool.and_eq_true, Bool.not_eq_true'] at h
  obtain ⟨⟨⟨⟨⟨⟨h1, h2⟩, h3⟩, h4⟩, h5⟩, h6⟩, h7⟩ := h
  refine ⟨by simpa using h1, h2, h3, nodupS_ok h4, by simpa using h5, fun x hx => ?_, fun y hy e => ?_⟩
  · have := List.all_eq_true.mp h6 x hx
    simpa using this
  · have := List.all_eq_true.mp h7 y hy
    rw [e] at this
    cases this
/-- a def's check -/
def chkFn (blt : List Str) (fns : List FnT) (k : Nat) (N ps : List Str) (st : Stmt) (ir : FnIR) : Bool :=
  scB N ps (defScope st) && decide (ir.n = N.length) && decide (ir.io.length = ps.length) && ir.ioOk && chkSs ⟨N, defScope st, N, fns, k, blt⟩ ir.body (defBody st)
/-- a def that stands: where, what it promises -/
def FnE (P : Program) (w : World) (K : PySem.W.Frag) (mg : Str → Option Value) (base : Heap) (t : FnT) (F : Fn) : Prop :=
  ∃ f fd, mg t.name = some (.ref f) ∧ PySem.W.keepIn K (.ref f) = true ∧ Binds K fd t.ps [] ∧ FnG P w K mg base (L2.CX P w) t.k f fd t.ps (spF K mg t.ps.length F) ∧ ∀ ds, F ds ≠ .no → ds.length = t.ps.length
section
variable {P : Program} {w : World} {K : PySem.W.Frag} {mg : Str → Option Value} {base : Heap}
theorem FnsOk.nil : FnsOk P w K mg base [] [] := ⟨fun n t h => by simp at h⟩
theorem FnsOk.cons {G : List Fn} {fns : List FnT} {t : FnT} {F : Fn} (h : FnE P w K mg base t F) (r : FnsOk P w K mg base G fns) : FnsOk P w K mg base (F :: G) (t :: fns) := ⟨fun n t' e => by
  cases n with
  | zero =>
    simp only [List.getElem?_cons_zero, Option.some.injEq] at e
    subst e
    exact h
  | succ n => exact r.fn n t' (by simpa using e)⟩
theorem runF_len {G : List Fn} {ir : FnIR} {ds : List D} (h : runF G ir ds ≠ .no) : ds.length = ir.io.length := by
  unfold runF at h
  split at h
  · rename_i z; exact z.1
  · exact absurd rfl h
/-- THE RULE: a def that fits its text keeps its run's promise -/
theorem fnG_fit {G : List Fn} {fns : List FnT} {blt : List Str} {k : Nat} {N ps : List Str} {x qual : Str} {st : Stmt} {ir : FnIR} {f : Addr} {fd : FuncData} {kws : List (Str × V)} (F : FunD K x qual (defArgs st) (defBody st) (defScope st) [] kws f fd)
    (hc : chkFn blt fns k N ps st ir = true) (hf : FnsOk P w K mg base G fns) (hb : ∀ x ∈ blt, mg x = none) : FnG P w K mg base (L2.CX P w) (k + 1) f fd ps (spF K mg ps.length (runF G ir)) := by
  unfold chkFn at hc
  simp only [Bool.and_eq_true, decide_eq_true_eq] at hc
  obtain ⟨⟨⟨⟨h1, h2⟩, h3⟩, h4⟩, h5⟩ := hc
  have S := scB_ok h1
  refine fnG_of F S h2 h3 h4 fun cdv A outer s H E gd hr => ?_
  have c : CxOk (cxOf (L2.CX P w) P w K mg base N qual (defScope st) f cdv A outer s H E) ⟨N, defScope st, N, fns, k, blt⟩ G (fun cls d _ H => E cls d H) :=
    { N := rfl, sc := rfl, nd := S.nd, calm := rfl, gd := gd, room := hr, tk := takes_of rfl rfl rfl rfl, fns := hf, free := hb, fnc := fun _ _ => rfl }
  exact chkSs_ok c S.kind (passes_of rfl) ir.body _ h5
theorem fnE_fit {G : List Fn} {fns : List FnT} {blt : List Str} {k : Nat} {N ps : List Str} {x qual : Str} {st : Stmt} {ir : FnIR} {f : Addr} {fd : FuncData} {kws : List (Str × V)} (F : FunD K x qual (defArgs st) (defBody st) (defScope st) [] kws f fd)
    (hm : mg x = some (.ref f)) (hc : chkFn blt fns k N ps st ir = true) (hf : FnsOk P w K mg base G fns) (hb : ∀ x ∈ blt, mg x = none)
    (bd : ∀ (kV doc pm : Value) (an : Option Addr) (cdv ct : Value) (us : List Value), us.length = ps.length → bindArgs (PySem.W.fnOf x qual (defArgs st) (defBody st) (defScope st) .none kV doc pm an cdv ct) ⟨us, []⟩ = pure (ps.zip us)) :
    FnE P w K mg base ⟨x, ps, k + 1⟩ (runF G ir) := by
  refine ⟨f, fd, hm, F.kp, F.bindsN bd, fnG_fit F hc hf hb, fun ds h => ?_⟩
  have e := runF_len h
  unfold chkFn at hc
  simp only [Bool.and_eq_true, decide_eq_true_eq] at hc
  rw [e, hc.1.1.2]
end

/-! a law's end -/
theorem intsP {K : PySem.W.Frag} {H : Hp} {S : Addr → Prop} : ∀ ns : List Int, RpL K H S (ns.map V.int) (ns.map PyData.int)
  | [] => .nil
  | n :: ns => .cons (.int n) (intsP ns)
/-- the law's def runs at the script -/
theorem lawG {P : Program} {w : World} {K : PySem.W.Frag} {mg mb : Str → Option Value} {k : Nat} {fa a : Addr} {fd : FuncData} {x : Str} {F : Fn} {s1 : Shared} {vs : List Value} {ns : List Int} (kin : K.In s1.heap) (hmg : s1.heap.Ns mainGlobals mg) (hmb : s1.heap.Ns builtinsNs mb)
    (hbt : ∀ x : Str, x ≠ "__name__" → mb x = bootBuiltins x) (hnl : s1.heap.NoLimit) (hge : s1.gens = #[]) (hat : s1.heap.get? a = some { cls := .type "list", data := .seq vs.toArray }) (hin : IntsAre vs ns) (hsz : ns.length ≤ sizeLine) (hrm : Room k callerA)
    (hF : ∀ base : Heap, K.In base → base.Ns mainGlobals mg → FnG P w K mg base (L2.CX P w) k fa fd [x] (spF K mg 1 F)) (hbd : ∀ (s : Shared) (u : Value), BindsTo s fd ⟨[u], []⟩ [(x, u)]) (hrun : ∃ outs, F [.dat (.list (ns.map .int))] = .ret (.dat (.bool true)) outs) :
    codeAny (model P w) callerA (.call (.ref fa) ⟨[.ref a], []⟩) (fun r s' => r = .ok (.ret (.bool true)) ∧ OldK s1.heap s'.heap ∧ s'.os = s1.os ∧ AllBare s'.gens) s1 := by
  have vals := vals_ints hin
  have inner : ∀ H : Hp, (∀ b, H b = none ∨ ∃ o xs, H b = some (.frz o (.lst xs))) → FzL K H (fun _ => False) a (ns.map V.int) → HOk P w H s1.heap → (∀ b, H b ≠ none → b = a) → (H a ≠ none → K.lookup a = none) →
      codeAny (model P w) callerA (.call (.ref fa) ⟨[.ref a], []⟩) (fun r s' => r = .ok (.ret (.bool true)) ∧ OldK s1.heap s'.heap ∧ s'.os = s1.os ∧ AllBare s'.gens) s1 := fun H only fz hok one alone => by
    have stays : ∀ {b : Addr} {o : Obj}, s1.heap.get? b = some o → b ≠ a → (hidT s1.heap H).get? b = some o := fun {b o} e n => hidT_get e (by
      by_cases z : H b = none
      · exact z
      · exact absurd (one b z) n)
    have dictNe : ∀ {b : Addr} {o : Obj} {es : Array DictEntry} {ep : Nat}, s1.heap.get? b = some o → o.data = .dict es ep → b ≠ a := fun {b o es ep} e d z => by
      subst z
      rw [hat] at e
      cases e
      have d' : Data.seq vs.toArray _ = Data.dict es ep := d
      cases d'
    have nsT : ∀ {b : Addr} {m : Str → Option Value}, s1.heap.Ns b m → (hidT s1.heap H).Ns b m := fun {b m} ⟨o, es, ep, e, d, r⟩ => ⟨o, es, ep, stays e (dictNe e d), d, r⟩
    have kinT : K.In (hidT s1.heap H) := fun b o e => by
      by_cases z : H b = none
      · exact hidT_get (kin b o e) z
      · have := one b z
        subst this
        rw [alone z] at e
        cases e
    have modT : Mod K mg (hidT s1.heap H) := ⟨kinT, nsT hmg, ⟨mb, nsT hmb, hbt⟩, by obtain ⟨mc, h1, h2⟩ := hnl; exact ⟨mc, nsT h1, h2⟩⟩
    have env0 : Env0 P w K mg (hidT s1.heap H) callerA [] s1 H :=
      { frames := rfl, mod := modT, bs := fun b o e => of_hidT e, bsz := Nat.le_of_eq (hidT_size _ _), funs := trivial, frf := fun b hb => (List.not_mem_nil hb).elim, hok := hok, bare := .of_eq hge }
    have promise : spF K mg 1 F [.ref a] H (fun v _ => v = .bl true) (fun _ _ _ => False) := by
      have rp : Rp K H (fun _ => False) (.ref a) (.list (ns.map .int)) := .lst fz (intsP ns)
      refine ⟨rfl, [.dat (.list (ns.map .int))], fun _ => False, fun _ => False, fun _ => 0, .cons (f := fun _ => 0) (g := fun _ => 0) (.dat rp fun _ => rfl) (.nil fun _ => rfl) (fun _ => rfl), rfl, ⟨fun _ => Nat.zero_le _, fun b h => by omega, fun b h => h.elim, fun b h => h.elim⟩, ?_⟩
      obtain ⟨outs, e⟩ := hrun
      rw [e]
      intro v H' Fz' fo fd' _ _ rv _
      cases rv with
      | dat r z => exact r.bool_inv
    refine codeAny_mono ((hF _ kinT (nsT hmg)).run callerA [] s1 H ⟨[.ref a], []⟩ [.ref a] [.ref a] _ _ rfl hrm env0 (hbd s1 (.ref a)) (.cons rfl .nil) promise) fun r s' h => ?_
    match r, h with
    | .error e, h =>
      obtain ⟨_, _, _, _, _, _, _, _, _, _, _, _, no⟩ := h
      exact no.elim
    | .ok (.ret u), h =>
      obtain ⟨v, H', os, bare, un, hok', rv, q⟩ := h
      have q : v = .bl true := q
      subst q
      have eu : u = Value.bool true := rv
      subst eu
      refine ⟨rfl, OldK.of_keep fun b o e => ?_, os, bare⟩
      rcases only b with z | ⟨ob, xs, z⟩
      · exact un.keep b o e z (fun y => (List.not_mem_nil y).elim) (by simp)
      · have h1 := (hok b _ z).1
        have h2 := (hok' b _ (un.frzs b ob _ z)).1
        rw [e] at h1
        cases h1
        exact h2
  cases hk : K.lookup a with
  | some o =>
    have e := kin a o hk
    rw [hat] at e
    cases e
    exact inner (fun _ => none) (fun _ => .inl rfl) (.inr (.inr ⟨vs.toArray, _, hk, by rw [List.size_toArray, hin.length]; exact hsz, by simpa using vals⟩)) (fun b u z => by cases z) (fun b z => absurd rfl z) fun z => absurd rfl z
  | none =>
    have at_ : ∀ b, (if b = a then some (HO.frz { cls := .type "list", data := .seq vs.toArray } (.lst (ns.map V.int))) else none) ≠ none → b = a := fun b z => by
      by_cases y : b = a
      · exact y
      · rw [if_neg y] at z; exact absurd rfl z
    refine inner (fun b => if b = a then some (.frz { cls := .type "list", data := .seq vs.toArray } (.lst (ns.map V.int))) else none) (fun b => ?_) (.inr (.inl ⟨_, if_pos rfl⟩)) (fun b u z => ?_) at_ fun _ => hk
    · by_cases y : b = a
      · exact .inr ⟨_, _, if_pos y⟩
      · exact .inl (if_neg y)
    · have y := at_ b (by (try dsimp only at z); rw [z]; simp)
      subst y
      have z' : some (HO.frz { cls := .type "list", data := .seq vs.toArray } (.lst (ns.map V.int))) = some u := (if_pos rfl).symm.trans z
      cases z'
      exact ⟨hat, by rw [List.length_map]; exact hsz, vs, _, vals, hat⟩
/-- the goal that a head leaves -/
theorem walkG {l : PySem.W.OpenLaw} {n k : Nat} {q : Program} {loose : List Str} {XP : (Str → Option Value) → Heap → Prop} {YP : World → Heap → Prop} {d : DefRec} {x : Str} {F : Fn} (hn : l.most = some n) (hn2 : n ≤ sizeLine) (hdf : d.params.defaults = []) (hr : Room k callerA)
    (hF : ∀ (w : World) (mg : Str → Option Value) (fa : Addr) (h : Heap), YP w h → h.Ns mainGlobals mg → mg d.name = some (.ref fa) → ∃ (K : PySem.W.Frag) (fd : FuncData), K.In h ∧ (∀ (s : Shared) (u : Value), BindsTo s fd ⟨[u], []⟩ [(x, u)]) ∧
        ∀ base : Heap, K.In base → base.Ns mainGlobals mg → FnG l.prog w K mg base (L2.CX l.prog w) k fa fd [x] (spF K mg 1 F))
    (hrun : ∀ ns : List Int, ns.length ≤ n → ∃ outs, F [.dat (.list (ns.map .int))] = .ret (.dat (.bool true)) outs) :
    PySem.W.WalkO q loose XP YP l.row.toRowW d [] (fun f vs => PySem.call f vs) :=
  Att.attach_call hn hdf fun w s₀ s1 mg mb fa o pm cd doc a vs ns G Y ho hd hcd hmg hobj hints hlen hg => by
    obtain ⟨K, fd, kin, hb, hF⟩ := hF w mg fa _ Y G.T.g hmg
    exact lawG kin G.T.g G.T.b G.T.builtins G.T.nolimit hg hobj hints (Nat.le_trans hlen hn2) hr hF hb (hrun ns hlen)
end DE
end

section
set_option Elab.async false
set_option linter.all false
/-! DE24: runs, step by step: for plain proofs. -/
namespace DE
open PySem
noncomputable section
variable {α β : Type} {G : List Fn}
@[simp] theorem bind_ok (a : α) (ρ : Env) (f : α → Env → R β) : (R.ok a ρ).bind f = f a ρ := rfl
@[simp] theorem bind_no (f : α → Env → R β) : (R.no : R α).bind f = .no := rfl
@[simp] theorem bind_ex (x : D) (ρ : Env) (f : α → Env → R β) : (R.ex x ρ : R α).bind f = .ex x ρ := rfl
@[simp] theorem sbind_ok (a : α) (ρ : Env) (f : α → Env → SR) : (R.ok a ρ).sbind f = f a ρ := rfl
@[simp] theorem sbind_no (f : α → Env → SR) : (R.no : R α).sbind f = .no := rfl
@[simp] theorem sbind_ex (x : D) (ρ : Env) (f : α → Env → SR) : (R.ex x ρ : R α).sbind f = .ex x ρ := rfl
@[simp] theorem nox_ok (a : α) (ρ : Env) : (R.ok a ρ).nox = .ok a ρ := rfl
@[simp] theorem nx_bind (ρ : Env) (f : Env → SR) : (SR.nx ρ).bind f = f ρ := rfl
@[simp] theorem rt_bind (d : D) (ρ : Env) (f : Env → SR) : (SR.rt d ρ).bind f = .rt d ρ := rfl
@[simp] theorem ex_bind (d : D) (ρ : Env) (f : Env → SR) : (SR.ex d ρ).bind f = .ex d ρ := rfl
@[simp] theorem no_bind (f : Env → SR) : SR.no.bind f = .no := rfl
@[simp] theorem of_some (a : α) (ρ : Env) : R.of (some a) ρ = .ok a ρ := rfl
@[simp] theorem of_none (ρ : Env) : R.of (none : Option α) ρ = .no := rfl
theorem bind_ite {c : Prop} [Decidable c] (a b : R α) (f : α → Env → R β) : (if c then a else b).bind f = if c then a.bind f else b.bind f := by split <;> rfl
theorem sbind_ite {c : Prop} [Decidable c] (a b : R α) (f : α → Env → SR) : (if c then a else b).sbind f = if c then a.sbind f else b.sbind f := by split <;> rfl

def kLive (d : D) (x : R D) : R D := match d with | .dead => .no | _ => x
@[simp] theorem s_var (i : Nat) (ρ : Env) : evE G (.var i) ρ = (match slot ρ i with | .dat d => .ok (.dat d) ρ | .bor d => .ok (.bor d) ρ | _ => .no) := by simp only [evE] <;> rfl
@[simp] theorem s_mv (i : Nat) (ρ : Env) : evE G (.mv i) ρ = (match slot ρ i with | .dead => .no | d => .ok d (ρ.set i .dead)) := by simp only [evE] <;> rfl
@[simp] theorem s_cst (d : PyData) (ρ : Env) : evE G (.cst d) ρ = .ok (.dat d) ρ := by simp only [evE]
def kRd (q : Nat × List Sel) (ρ : Env) : R D := match getS (slot ρ q.1) q.2 with | some (.dat d) => .ok (.dat d) ρ | _ => .no
@[simp] theorem s_rd (p : P) (ρ : Env) : evE G (.rd p) ρ = (evP G p ρ).bind kRd := by simp only [evE] <;> rfl
def kBp (q : Nat × List Sel) (ρ : Env) : R D := match getS (slot ρ q.1) q.2 with | some x => R.of (x.view.map .tr) ρ | none => .no
@[simp] theorem s_bp (p : P) (ρ : Env) : evE G (.bp p) ρ = (evP G p ρ).bind kBp := by simp only [evE] <;> rfl
@[simp] theorem kRd_eq (i : Nat) (sel : List Sel) (ρ : Env) : kRd (i, sel) ρ = (match getS (slot ρ i) sel with | some (.dat d) => .ok (.dat d) ρ | _ => .no) := rfl
@[simp] theorem kBp_eq (i : Nat) (sel : List Sel) (ρ : Env) : kBp (i, sel) ρ = (match getS (slot ρ i) sel with | some x => R.of (x.view.map .tr) ρ | none => .no) := rfl
def kNeg (x : D) (ρ : Env) : R D := match x with | .dat (.int i) => .ok (.dat (.int (-i))) ρ | _ => .no
@[simp] theorem s_neg (a : E) (ρ : Env) : evE G (.neg a) ρ = (evE G a ρ).bind kNeg := by simp only [evE] <;> rfl
@[simp] theorem kNeg_int (i : Int) (ρ : Env) : kNeg (.dat (.int i)) ρ = .ok (.dat (.int (-i))) ρ := rfl
def kNot (x : D) (ρ : Env) : R D := match x with | .dat (.bool i) => .ok (.dat (.bool (!i))) ρ | _ => .no
@[simp] theorem s_not (a : E) (ρ : Env) : evE G (.not a) ρ = (evE G a ρ).bind kNot := by simp only [evE] <;> rfl
@[simp] theorem kNot_b (i : Bool) (ρ : Env) : kNot (.dat (.bool i)) ρ = .ok (.dat (.bool (!i))) ρ := rfl
def kBin2 (o : Operator) (x y : D) (ρ : Env) : R D := match x.fz, y.fz with | some x, some y => R.of (binD o x y) ρ | _, _ => .no
def kBin1 (G : List Fn) (o : Operator) (b : E) (x : D) (ρ : Env) : R D := if x.ntr || b.pure then (evE G b ρ).bind (kBin2 o x) else .no
@[simp] theorem s_bin (o : Operator) (a b : E) (ρ : Env) : evE G (.bin o a b) ρ = (evE G a ρ).bind (kBin1 G o b) := by simp only [evE] <;> rfl
@[simp] theorem kBin1_dat (o : Operator) (b : E) (d : PyData) (ρ : Env) : kBin1 G o b (.dat d) ρ = (evE G b ρ).bind (kBin2 o (.dat d)) := rfl
theorem kBin1_own (o : Operator) (b : E) (x : D) (ρ : Env) (h : x.ntr = true) : kBin1 G o b x ρ = (evE G b ρ).bind (kBin2 o x) := by unfold kBin1; rw [h]; rfl
@[simp] theorem kBin2_dat (o : Operator) (d e : PyData) (ρ : Env) : kBin2 o (.dat d) (.dat e) ρ = R.of (binD o d e) ρ := rfl
theorem kBin2_fz (o : Operator) {x y : D} {d e : PyData} (h : x.fz = some d) (h' : y.fz = some e) (ρ : Env) : kBin2 o x y ρ = R.of (binD o d e) ρ := by unfold kBin2; rw [h, h']
def kCmp2 (o : CmpOp) (x y : D) (ρ : Env) : R D := R.of ((cmpV o x y).map fun k => .dat (.bool k)) ρ
def kCmp1 (G : List Fn) (o : CmpOp) (b : E) (x : D) (ρ : Env) : R D := if x.ntr || b.pure then (evE G b ρ).bind (kCmp2 o x) else .no
@[simp] theorem s_cmp (o : CmpOp) (a b : E) (ρ : Env) : evE G (.cmp o a b) ρ = (evE G a ρ).bind (kCmp1 G o b) := by simp only [evE] <;> rfl
@[simp] theorem kCmp1_eq (o : CmpOp) (b : E) (x : D) (ρ : Env) : kCmp1 G o b x ρ = if x.ntr || b.pure then (evE G b ρ).bind (kCmp2 o x) else .no := rfl
@[simp] theorem kCmp2_eq (o : CmpOp) (x y : D) (ρ : Env) : kCmp2 o x y ρ = R.of ((cmpV o x y).map fun k => .dat (.bool k)) ρ := rfl
def kIf {γ : Type} (x : D) (a b c : γ) : γ := match x with | .dat (.bool true) => a | .dat (.bool false) => b | _ => c
@[simp] theorem kIf_b {γ : Type} (k : Bool) (a b c : γ) : kIf (.dat (.bool k)) a b c = if k = true then a else b := by cases k <;> rfl
def kAnd (G : List Fn) (b : E) (x : D) (ρ : Env) : R D := kIf x (evE G b ρ) (.ok (.dat (.bool false)) ρ) .no
@[simp] theorem s_and (a b : E) (ρ : Env) : evE G (.and a b) ρ = (evE G a ρ).bind (kAnd G b) := by simp only [evE] <;> rfl
@[simp] theorem kAnd_b (b : E) (k : Bool) (ρ : Env) : kAnd G b (.dat (.bool k)) ρ = if k = true then evE G b ρ else .ok (.dat (.bool false)) ρ := kIf_b ..
def kOr (G : List Fn) (b : E) (x : D) (ρ : Env) : R D := kIf x (.ok (.dat (.bool true)) ρ) (evE G b ρ) .no
@[simp] theorem s_or (a b : E) (ρ : Env) : evE G (.or a b) ρ = (evE G a ρ).bind (kOr G b) := by simp only [evE] <;> rfl
@[simp] theorem kOr_b (b : E) (k : Bool) (ρ : Env) : kOr G b (.dat (.bool k)) ρ = if k = true then .ok (.dat (.bool true)) ρ else evE G b ρ := kIf_b ..
def kIfe (G : List Fn) (a b : E) (x : D) (ρ : Env) : R D := kIf x (evE G a ρ) (evE G b ρ) .no
@[simp] theorem s_ife (c a b : E) (ρ : Env) : evE G (.ife c a b) ρ = (evE G c ρ).bind (kIfe G a b) := by simp only [evE] <;> rfl
@[simp] theorem kIfe_b (a b : E) (k : Bool) (ρ : Env) : kIfe G a b (.dat (.bool k)) ρ = if k = true then evE G a ρ else evE G b ρ := kIf_b ..
def kTup (xs : List D) (ρ : Env) : R D := match D.fzL xs with | some ds => if fits ds.length then .ok (.dat (.tuple ds)) ρ else .no | none => .no
@[simp] theorem s_tup (es : Es) (ρ : Env) : evE G (.tup es) ρ = (evEs G es ρ).bind kTup := by simp only [evE] <;> rfl
@[simp] theorem kTup_eq (xs : List D) (ρ : Env) : kTup xs ρ = (match D.fzL xs with | some ds => if fits ds.length then .ok (.dat (.tuple ds)) ρ else .no | none => .no) := rfl
def kLst (xs : List D) (ρ : Env) : R D := if fits xs.length then .ok (.lst xs) ρ else .no
@[simp] theorem s_lst (es : Es) (ρ : Env) : evE G (.lst es) ρ = (evEs G es ρ).bind kLst := by simp only [evE] <;> rfl
@[simp] theorem kLst_eq (xs : List D) (ρ : Env) : kLst xs ρ = if fits xs.length then .ok (.lst xs) ρ else .no := rfl
def kIx2 (x y : D) (ρ : Env) : R D := match y with | .dat y => R.of (ixV x y) ρ | _ => .no
def kIx1 (G : List Fn) (i : E) (x : D) (ρ : Env) : R D := if x.ntr || i.pure then (evE G i ρ).bind (kIx2 x) else .no
@[simp] theorem s_ix (a i : E) (ρ : Env) : evE G (.ix a i) ρ = (evE G a ρ).bind (kIx1 G i) := by simp only [evE] <;> rfl
@[simp] theorem kIx1_eq (i : E) (x : D) (ρ : Env) : kIx1 G i x ρ = if x.ntr || i.pure then (evE G i ρ).bind (kIx2 x) else .no := rfl
@[simp] theorem kIx2_dat (x : D) (y : PyData) (ρ : Env) : kIx2 x (.dat y) ρ = R.of (ixV x y) ρ := rfl
def kSl2 (x : D) (l h : Option Int) (ρ : Env) : R D := R.of (slV x l h) ρ
def kSl1 (G : List Fn) (hi : O) (x : D) (l : Option Int) (ρ : Env) : R D := (evO G hi ρ).bind (kSl2 x l)
def kSl0 (G : List Fn) (lo hi : O) (x : D) (ρ : Env) : R D := (evO G lo ρ).bind (kSl1 G hi x)
@[simp] theorem s_sl (a : E) (lo hi : O) (ρ : Env) : evE G (.sl a lo hi) ρ = (evE G a ρ).bind (kSl0 G lo hi) := by simp only [evE] <;> rfl
@[simp] theorem kSl0_eq (lo hi : O) (x : D) (ρ : Env) : kSl0 G lo hi x ρ = (evO G lo ρ).bind (kSl1 G hi x) := rfl
@[simp] theorem kSl1_eq (hi : O) (x : D) (l : Option Int) (ρ : Env) : kSl1 G hi x l ρ = (evO G hi ρ).bind (kSl2 x l) := rfl
@[simp] theorem kSl2_eq (x : D) (l h : Option Int) (ρ : Env) : kSl2 x l h ρ = R.of (slV x l h) ρ := rfl
@[simp] theorem s_onone (ρ : Env) : evO G .none ρ = .ok none ρ := by simp only [evO]
def kOs (x : D) (ρ : Env) : R (Option Int) := match x with | .dat (.int i) => .ok (some i) ρ | _ => .no
@[simp] theorem s_osome (e : E) (ρ : Env) : evO G (.some e) ρ = (evE G e ρ).bind kOs := by simp only [evO] <;> rfl
@[simp] theorem kOs_int (i : Int) (ρ : Env) : kOs (.dat (.int i)) ρ = .ok (some i) ρ := rfl
def kBi (b : Bi) (xs : List D) (ρ : Env) : R D := R.of (biV b xs) ρ
@[simp] theorem s_bi (b : Bi) (es : Es) (ρ : Env) : evE G (.bi b es) ρ = (evEs G es ρ).bind (kBi b) := by simp only [evE] <;> rfl
@[simp] theorem kBi_eq (b : Bi) (xs : List D) (ρ : Env) : kBi b xs ρ = R.of (biV b xs) ρ := rfl
def kIsi (ts : List String) (x : D) (ρ : Env) : R D := R.of ((isiV x ts).map fun k => .dat (.bool k)) ρ
@[simp] theorem s_isi (a : E) (ts : List String) (o : Bool) (ρ : Env) : evE G (.isi a ts o) ρ = (evE G a ρ).bind (kIsi ts) := by simp only [evE] <;> rfl
@[simp] theorem kIsi_eq (ts : List String) (x : D) (ρ : Env) : kIsi ts x ρ = R.of ((isiV x ts).map fun k => .dat (.bool k)) ρ := rfl
def kPm2 (m : Pm) (q : Nat × List Sel) (ys : List D) (ρ : Env) : R D := match getS (slot ρ q.1) q.2 with
  | some (.lst xs) => (match pmD m xs ys with
    | some (xs', y) => (match putS (slot ρ q.1) q.2 (.lst xs') with
      | some d => .ok y (ρ.set q.1 d)
      | none => .no)
    | none => .no)
  | _ => .no
def kPm1 (G : List Fn) (m : Pm) (es : Es) (q : Nat × List Sel) (ρ : Env) : R D := if isLst (getS (slot ρ q.1) q.2) && (q.2.isEmpty || es.pure) then (evEs G es ρ).bind (kPm2 m q) else .no
@[simp] theorem s_pm (m : Pm) (p : P) (es : Es) (ρ : Env) : evE G (.pm m p es) ρ = (evP G p ρ).bind (kPm1 G m es) := by simp only [evE] <;> rfl
@[simp] theorem kPm1_eq (m : Pm) (es : Es) (i : Nat) (sel : List Sel) (ρ : Env) : kPm1 G m es (i, sel) ρ = if isLst (getS (slot ρ i) sel) && (sel.isEmpty || es.pure) then (evEs G es ρ).bind (kPm2 m (i, sel)) else .no := rfl
@[simp] theorem kPm2_eq (m : Pm) (i : Nat) (sel : List Sel) (ys : List D) (ρ : Env) : kPm2 m (i, sel) ys ρ = (match getS (slot ρ i) sel with
  | some (.lst xs) => (match pmD m xs ys with
    | some (xs', y) => (match putS (slot ρ i) sel (.lst xs') with
      | some d => .ok y (ρ.set i d)
      | none => .no)
    | none => .no)
  | _ => .no) := rfl
def kCall (F : Fn) (pu : Bool) (xs : List Ar) (ρ : Env) : R D := callF F pu xs ρ
@[simp] theorem s_call (n : Nat) (f : Str) (pu : Bool) (as : As) (ρ : Env) : evE G (.call n f pu as) ρ = (evAs G as ρ).bind (kCall (fnAt G n) (pu && as.pure)) := by simp only [evE] <;> rfl
def kBack (bs : List (Option Back)) (ρ : Env) : FR → R D
  | .ret d outs => (match putBack bs outs ρ with | some ρ2 => .ok d ρ2 | none => .no)
  | .ex x outs => (match putBack bs outs ρ with | some ρ2 => .ex x ρ2 | none => .no)
  | .no => .no
@[simp] theorem kBack_ret (bs : List (Option Back)) (ρ : Env) (d : D) (outs : Env) : kBack bs ρ (.ret d outs) = (match putBack bs outs ρ with | some ρ2 => .ok d ρ2 | none => .no) := rfl
@[simp] theorem kCall_eq (F : Fn) (xs : List Ar) (ρ : Env) : kCall F false xs ρ = (match takeAs xs ρ with | some (ds, bs, ρ1) => kBack bs ρ1 (F ds) | none => .no) := by
  unfold kCall callF
  cases takeAs xs ρ with
  | none => rfl
  | some w =>
    obtain ⟨ds, bs, ρ1⟩ := w
    simp only [Bool.false_and]
    cases F ds <;> rfl
def kComp2 (w : Option (Nat × D)) (ρ1 : Env) (own : List Nat) (ds : List PyData) (ρ : Env) : R D := if fits ds.length then (match unlock w (backE ρ1 ρ own) with | some ρ3 => .ok (dl ds) ρ3 | none => .no) else .no
def kComp1 (G : List Fn) (elt : E) (t : T) (c : O) (own : List Nat) (w : List D × Option (Nat × D)) (ρ1 : Env) : R D := (compL own t (evC G c) (evE G elt) w.1 ρ1).bind (kComp2 w.2 ρ1 own)
@[simp] theorem s_comp (elt : E) (t : T) (it : I) (c : O) (own : List Nat) (ρ : Env) : evE G (.comp elt t it c own) ρ = (evI G it ρ).bind (kComp1 G elt t c own) := by simp only [evE] <;> rfl
@[simp] theorem kComp1_eq (elt : E) (t : T) (c : O) (own : List Nat) (xs : List D) (w : Option (Nat × D)) (ρ1 : Env) : kComp1 G elt t c own (xs, w) ρ1 = (compL own t (evC G c) (evE G elt) xs ρ1).bind (kComp2 w ρ1 own) := rfl
@[simp] theorem kComp2_eq (w : Option (Nat × D)) (ρ1 : Env) (own : List Nat) (ds : List PyData) (ρ : Env) : kComp2 w ρ1 own ds ρ = if fits ds.length then (match unlock w (backE ρ1 ρ own) with | some ρ3 => .ok (dl ds) ρ3 | none => .no) else .no := rfl
def kFrz (x : D) (ρ : Env) : R D := R.of (x.fz.map .dat) ρ
@[simp] theorem s_frz (a : E) (ρ : Env) : evE G (.frz a) ρ = (evE G a ρ).bind kFrz := by simp only [evE] <;> rfl
@[simp] theorem kFrz_eq (x : D) (ρ : Env) : kFrz x ρ = R.of (x.fz.map .dat) ρ := rfl
def kLrg (x : D) (ρ : Env) : R D := match x with | .dat (.int j) => if rngOk j && fits j.toNat then .ok (.lst (rngL 0 j.toNat)) ρ else .no | _ => .no
@[simp] theorem s_lrg (a : E) (ρ : Env) : evE G (.lrg a) ρ = (evE G a ρ).bind kLrg := by simp only [evE] <;> rfl
@[simp] theorem kLrg_int (j : Int) (ρ : Env) : kLrg (.dat (.int j)) ρ = if rngOk j && fits j.toNat then .ok (.lst (rngL 0 j.toNat)) ρ else .no := rfl
@[simp] theorem s_nil (ρ : Env) : evEs G .nil ρ = .ok [] ρ := by simp only [evEs]
def kCons2 (x : D) (xs : List D) (ρ : Env) : R (List D) := .ok (x :: xs) ρ
def kCons1 (G : List Fn) (r : Es) (x : D) (ρ : Env) : R (List D) := if x.ntr || r.pure then (evEs G r ρ).bind (kCons2 x) else .no
@[simp] theorem s_cons (e : E) (r : Es) (ρ : Env) : evEs G (.cons e r) ρ = (evE G e ρ).bind (kCons1 G r) := by simp only [evEs] <;> rfl
@[simp] theorem kCons1_eq (r : Es) (x : D) (ρ : Env) : kCons1 G r x ρ = if x.ntr || r.pure then (evEs G r ρ).bind (kCons2 x) else .no := rfl
@[simp] theorem kCons2_eq (x : D) (xs : List D) (ρ : Env) : kCons2 x xs ρ = .ok (x :: xs) ρ := rfl
@[simp] theorem s_cnone (ρ : Env) : evC G .none ρ = .ok (.dat (.bool true)) ρ := by simp only [evC]
@[simp] theorem s_csome (e : E) (ρ : Env) : evC G (.some e) ρ = evE G e ρ := by simp only [evC]
@[simp] theorem s_anil (ρ : Env) : evAs G .nil ρ = .ok [] ρ := by simp only [evAs]
def kA2 (a : Ar) (xs : List Ar) (ρ : Env) : R (List Ar) := .ok (a :: xs) ρ
@[simp] theorem kA2_eq (a : Ar) (xs : List Ar) (ρ : Env) : kA2 a xs ρ = .ok (a :: xs) ρ := rfl
def kAv (G : List Fn) (r : As) (x : D) (ρ : Env) : R (List Ar) := if x.ntr then (evAs G r ρ).bind (kA2 (.val x)) else .no
@[simp] theorem s_aval (e : E) (r : As) (ρ : Env) : evAs G (.val e r) ρ = (evE G e ρ).bind (kAv G r) := by simp only [evAs] <;> rfl
@[simp] theorem kAv_eq (r : As) (x : D) (ρ : Env) : kAv G r x ρ = if x.ntr then (evAs G r ρ).bind (kA2 (.val x)) else .no := rfl
def kAr (G : List Fn) (r : As) (q : Nat × List Sel) (ρ : Env) : R (List Ar) := if q.2.isEmpty || r.pure then (evAs G r ρ).bind (kA2 (.ref q.1 q.2)) else .no
@[simp] theorem s_aref (p : P) (r : As) (ρ : Env) : evAs G (.ref p r) ρ = (evP G p ρ).bind (kAr G r) := by simp only [evAs] <;> rfl
@[simp] theorem kAr_eq (r : As) (i : Nat) (sel : List Sel) (ρ : Env) : kAr G r (i, sel) ρ = if sel.isEmpty || r.pure then (evAs G r ρ).bind (kA2 (.ref i sel)) else .no := rfl
def kAl (G : List Fn) (r : As) (q : Nat × List Sel) (ρ : Env) : R (List Ar) := if q.2.isEmpty || r.pure then (evAs G r ρ).bind (kA2 (.look q.1 q.2)) else .no
@[simp] theorem s_alook (p : P) (r : As) (ρ : Env) : evAs G (.look p r) ρ = (evP G p ρ).bind (kAl G r) := by simp only [evAs] <;> rfl
@[simp] theorem kAl_eq (r : As) (i : Nat) (sel : List Sel) (ρ : Env) : kAl G r (i, sel) ρ = if sel.isEmpty || r.pure then (evAs G r ρ).bind (kA2 (.look i sel)) else .no := rfl
@[simp] theorem s_root (i : Nat) (ρ : Env) : evP G (.root i) ρ = (match slot ρ i with | .dead => .no | _ => .ok (i, []) ρ) := by simp only [evP] <;> rfl
def kP2 (q : Nat × List Sel) (x : D) (ρ : Env) : R (Nat × List Sel) := match x with | .dat (.int k) => if isLive (getS (slot ρ q.1) (q.2 ++ [k])) then .ok (q.1, q.2 ++ [k]) ρ else .no | _ => .no
def kP1 (G : List Fn) (e : E) (q : Nat × List Sel) (ρ : Env) : R (Nat × List Sel) := if e.pure then (evE G e ρ).bind (kP2 q) else .no
@[simp] theorem s_idx (p : P) (e : E) (ρ : Env) : evP G (.idx p e) ρ = (evP G p ρ).bind (kP1 G e) := by simp only [evP] <;> rfl
@[simp] theorem kP1_eq (e : E) (q : Nat × List Sel) (ρ : Env) : kP1 G e q ρ = if e.pure then (evE G e ρ).bind (kP2 q) else .no := rfl
@[simp] theorem kP2_int (i : Nat) (sel : List Sel) (k : Int) (ρ : Env) : kP2 (i, sel) (.dat (.int k)) ρ = if isLive (getS (slot ρ i) (sel ++ [k])) then .ok (i, sel ++ [k]) ρ else .no := rfl
def kIv (x : D) (ρ : Env) : R (List D × Option (Nat × D)) := match itemsV x with | some xs => .ok (xs, none) ρ | none => .no
@[simp] theorem s_ival (e : E) (ρ : Env) : evI G (.val e) ρ = (evE G e ρ).bind kIv := by simp only [evI] <;> rfl
@[simp] theorem kIv_eq (x : D) (ρ : Env) : kIv x ρ = (match itemsV x with | some xs => .ok (xs, none) ρ | none => .no) := rfl
def kIr (q : Nat × List Sel) (ρ : Env) : R (List D × Option (Nat × D)) := match getS (slot ρ q.1) q.2 with
  | some (.lst xs) => (match D.dats xs with | some _ => .ok (xs, some (q.1, slot ρ q.1)) (ρ.set q.1 .dead) | none => .no)
  | _ => .no
@[simp] theorem s_iref (p : P) (ρ : Env) : evI G (.ref p) ρ = (evP G p ρ).bind kIr := by simp only [evI] <;> rfl
@[simp] theorem kIr_eq (i : Nat) (sel : List Sel) (ρ : Env) : kIr (i, sel) ρ = (match getS (slot ρ i) sel with
  | some (.lst xs) => (match D.dats xs with | some _ => .ok (xs, some (i, slot ρ i)) (ρ.set i .dead) | none => .no)
  | _ => .no) := rfl
def kRng1 (x : D) (ρ : Env) : R (List D × Option (Nat × D)) := match x with | .dat (.int j) => if rngOk j then .ok (rngL 0 j.toNat, none) ρ else .no | _ => .no
@[simp] theorem s_rng1 (a : E) (ρ : Env) : evI G (.rng1 a) ρ = (evE G a ρ).bind kRng1 := by simp only [evI] <;> rfl
@[simp] theorem kRng1_int (j : Int) (ρ : Env) : kRng1 (.dat (.int j)) ρ = if rngOk j then .ok (rngL 0 j.toNat, none) ρ else .no := rfl
def kRrng1 (x : D) (ρ : Env) : R (List D × Option (Nat × D)) := match x with | .dat (.int j) => if rngOk j then .ok (rrngL j.toNat, none) ρ else .no | _ => .no
@[simp] theorem s_rrng1 (a : E) (ρ : Env) : evI G (.rrng1 a) ρ = (evE G a ρ).bind kRrng1 := by simp only [evI] <;> rfl
@[simp] theorem kRrng1_int (j : Int) (ρ : Env) : kRrng1 (.dat (.int j)) ρ = if rngOk j then .ok (rrngL j.toNat, none) ρ else .no := rfl
-- statements
def kAsg (t : T) (x : D) (ρ : Env) : SR := if x.own then (match storeT t x ρ with | some ρ2 => .nx ρ2 | none => .no) else .no
@[simp] theorem x_asg (t : T) (e : E) (ρ : Env) : exS G (.asg t e) ρ = (evE G e ρ).sbind (kAsg t) := by simp only [exS] <;> rfl
@[simp] theorem kAsg_eq (t : T) (x : D) (ρ : Env) : kAsg t x ρ = if x.own then (match storeT t x ρ with | some ρ2 => .nx ρ2 | none => .no) else .no := rfl
def kPar (is : List Nat) (xs : List D) (ρ : Env) : SR := if D.ownL xs then (match storeT.storeL is xs ρ with | some ρ2 => .nx ρ2 | none => .no) else .no
@[simp] theorem x_par (is : List Nat) (es : Es) (ρ : Env) : exS G (.par is es) ρ = (evEs G es ρ).sbind (kPar is) := by simp only [exS] <;> rfl
@[simp] theorem kPar_eq (is : List Nat) (xs : List D) (ρ : Env) : kPar is xs ρ = if D.ownL xs then (match storeT.storeL is xs ρ with | some ρ2 => .nx ρ2 | none => .no) else .no := rfl
def kSet3 (x : D) (q : Nat × List Sel) (y : D) (ρ : Env) : SR := match getS (slot ρ q.1) q.2, y with
  | some (.lst xs), .dat (.int k) => (match L2.ixN xs.length k with
    | some j => (match putS (slot ρ q.1) q.2 (.lst (xs.set j x)) with
      | some d => .nx (ρ.set q.1 d)
      | none => .no)
    | none => .no)
  | _, _ => .no
def kSet2 (G : List Fn) (i : E) (x : D) (q : Nat × List Sel) (ρ : Env) : SR := if i.pure && x.own then (evE G i ρ).sbind (kSet3 x q) else .no
def kSet1 (G : List Fn) (p : P) (i : E) (x : D) (ρ : Env) : SR := (evP G p ρ).sbind (kSet2 G i x)
@[simp] theorem x_set (p : P) (i e : E) (ρ : Env) : exS G (.set p i e) ρ = (evE G e ρ).sbind (kSet1 G p i) := by simp only [exS] <;> rfl
@[simp] theorem kSet1_eq (p : P) (i : E) (x : D) (ρ : Env) : kSet1 G p i x ρ = (evP G p ρ).sbind (kSet2 G i x) := rfl
@[simp] theorem kSet2_eq (i : E) (x : D) (q : Nat × List Sel) (ρ : Env) : kSet2 G i x q ρ = if i.pure && x.own then (evE G i ρ).sbind (kSet3 x q) else .no := rfl
@[simp] theorem kSet3_int (x : D) (i : Nat) (sel : List Sel) (k : Int) (ρ : Env) : kSet3 x (i, sel) (.dat (.int k)) ρ = (match getS (slot ρ i) sel with
  | some (.lst xs) => (match L2.ixN xs.length k with
    | some j => (match putS (slot ρ i) sel (.lst (xs.set j x)) with
      | some d => .nx (ρ.set i d)
      | none => .no)
    | none => .no)
  | _ => .no) := by
  unfold kSet3
  cases getS (slot ρ i) sel with
  | none => rfl
  | some d => cases d <;> rfl
def kEx (x : D) (ρ : Env) : SR := .nx ρ
@[simp] theorem x_ex (e : E) (ρ : Env) : exS G (.ex e) ρ = (evE G e ρ).sbind kEx := by simp only [exS] <;> rfl
@[simp] theorem kEx_eq (x : D) (ρ : Env) : kEx x ρ = .nx ρ := rfl
def kRet (x : D) (ρ : Env) : SR := if x.own then .rt x ρ else .no
@[simp] theorem x_ret (e : E) (ρ : Env) : exS G (.ret e) ρ = (evE G e ρ).sbind kRet := by simp only [exS] <;> rfl
@[simp] theorem kRet_eq (x : D) (ρ : Env) : kRet x ρ = if x.own then .rt x ρ else .no := rfl
@[simp] theorem x_retN (ρ : Env) : exS G .retN ρ = .rt (.dat .none) ρ := by simp only [exS]
def kIfs (G : List Fn) (a b : Ss) (x : D) (ρ : Env) : SR := kIf x (exSs G a ρ) (exSs G b ρ) .no
@[simp] theorem x_ifs (c : E) (a b : Ss) (ρ : Env) : exS G (.ifs c a b) ρ = (evE G c ρ).sbind (kIfs G a b) := by simp only [exS] <;> rfl
@[simp] theorem kIfs_b (a b : Ss) (k : Bool) (ρ : Env) : kIfs G a b (.dat (.bool k)) ρ = if k = true then exSs G a ρ else exSs G b ρ := kIf_b ..
def kFor (G : List Fn) (t : T) (b : Ss) (w : List D × Option (Nat × D)) (ρ : Env) : SR := if w.2.all (fun y => !(t.slots ++ b.asgs).contains y.1) then (forL t (exSs G b) w.1 ρ).unlock w.2 else .no
@[simp] theorem x_for (t : T) (it : I) (b : Ss) (ρ : Env) : exS G (.fors t it b) ρ = (evI G it ρ).sbind (kFor G t b) := by simp only [exS] <;> rfl
@[simp] theorem kFor_none (t : T) (b : Ss) (xs : List D) (ρ : Env) : kFor G t b (xs, none) ρ = forL t (exSs G b) xs ρ := by
  unfold kFor
  simp only [Option.all_none, if_true]
  cases forL t (exSs G b) xs ρ <;> rfl
theorem kFor_some (t : T) (b : Ss) (xs : List D) (i : Nat) (d : D) (ρ : Env) : kFor G t b (xs, some (i, d)) ρ = if !(t.slots ++ b.asgs).contains i then (forL t (exSs G b) xs ρ).unlock (some (i, d)) else .no := rfl
@[simp] theorem x_whl (c : E) (b : Ss) (ρ : Env) : exS G (.whl c b) ρ = whileU (evE G c) (exSs G b) ρ := by simp only [exS]
@[simp] theorem x_nil (ρ : Env) : exSs G .nil ρ = .nx ρ := by simp only [exSs]
@[simp] theorem x_cons (s : S) (r : Ss) (ρ : Env) : exSs G (.cons s r) ρ = (exS G s ρ).bind (exSs G r) := by simp only [exSs]
end
end DE
end

section
set_option Elab.async false
set_option linter.all false
/-! PL0: what repr tells of small data. -/
namespace DE
open PySem

theorem strOk_append (x y : Str) : PyData.strOk (x ++ y) = (PyData.strOk x && PyData.strOk y) := by
  show (x.cps ++ y.cps).all _ = _
  rw [Array.all_append]; rfl
theorem strOk_of (s : String) : PyData.strOk (Str.ofString s) = true := by
  unfold PyData.strOk
  rw [Str.ofString_eq_toList]
  rw [Array.all_eq_true']
  intro c hc
  have hc' : c ∈ s.toList.map Char.toNat := by simpa using hc
  obtain ⟨k, _, rfl⟩ := List.mem_map.mp hc'
  have h := k.valid
  simp only [UInt32.isValidChar, Nat.isValidChar] at h
  have ht : k.toNat = k.val.toNat := rfl
  rw [ht]
  exact decide_eq_true (by omega)
theorem strOk_join (sep : Str) (hs : PyData.strOk sep = true) : ∀ xs : List Str, (∀ x ∈ xs, PyData.strOk x = true) → PyData.strOk (Str.join sep xs) = true
  | [], _ => by show PyData.strOk Str.empty = true; decide +kernel
  | [x], h => h x (by simp)
  | x :: y :: r, h => by
    show PyData.strOk (x ++ sep ++ Str.join sep (y :: r)) = true
    rw [strOk_append, strOk_append, h x (by simp), hs, strOk_join sep hs (y :: r) fun z hz => h z (List.mem_cons_of_mem _ hz)]; rfl
mutual
/-- small data, without dicts -/
def rOk : PyData → Bool
  | .none => true
  | .bool _ => true
  | .int i => decide (i.natAbs < 10 ^ 30)
  | .str x => PyData.strOk (reprText x)
  | .list xs => rOkL xs
  | .tuple xs => rOkL xs
  | .dict _ => false
def rOkL : List PyData → Bool
  | [] => true
  | x :: xs => rOk x && rOkL xs
end
mutual
def wid : PyData → Nat
  | .none => 4
  | .bool _ => 5
  | .int _ => 31
  | .str x => (reprText x).length
  | .list xs => widL xs + 3
  | .tuple xs => widL xs + 3
  | .dict _ => 0
def widL : List PyData → Nat
  | [] => 0
  | x :: xs => wid x + 2 + widL xs
end
theorem ofString_length (s : String) : (Str.ofString s).length = s.length := by
  rw [Str.ofString_eq_toList]
  show (s.toList.map Char.toNat).toArray.size = _
  simp only [List.size_toArray, List.length_map]
  first | exact String.length_toList | rfl | simp
theorem shownAll_map : ∀ xs : List PyData, PyData.shownAll xs = xs.map PyData.shown
  | [] => by simp only [PyData.shownAll]; rfl
  | x :: xs => by simp only [PyData.shownAll]; rw [shownAll_map xs]; rfl
mutual
theorem shown_ok : ∀ {d : PyData}, rOk d = true → PyData.strOk d.shown = true
  | .none, _ => by simp only [PyData.shown]; exact strOk_of _
  | .bool b, _ => by simp only [PyData.shown]; cases b <;> exact strOk_of _
  | .int i, _ => by simp only [PyData.shown]; exact strOk_of _
  | .str x, h => by simp only [PyData.shown]; exact h
  | .list xs, h => by
    simp only [PyData.shown]
    rw [listText_eq_join, strOk_append, strOk_append, strOk_of, strOk_of, strOk_join _ (strOk_of _) _ fun s hs => shownL_ok (by simpa only [rOk] using h) s hs]; rfl
  | .tuple xs, h => by
    simp only [PyData.shown]
    unfold tupleText
    rw [strOk_append, strOk_append, strOk_of, strOk_join _ (strOk_of _) _ fun s hs => shownL_ok (by simpa only [rOk] using h) s hs]
    split <;> (rw [strOk_of]; rfl)
theorem shownL_ok : ∀ {xs : List PyData}, rOkL xs = true → ∀ s ∈ PyData.shownAll xs, PyData.strOk s = true
  | [], _, s, hs => by simp [PyData.shownAll] at hs
  | x :: xs, h, s, hs => by
    rw [rOkL, Bool.and_eq_true] at h
    simp only [PyData.shownAll, List.mem_cons] at hs
    rcases hs with rfl | hs
    · exact shown_ok h.1
    · exact shownL_ok h.2 s hs
end
theorem join_le : ∀ ts : List Str, (Str.join ", " ts).length ≤ piled ts
  | [] => Nat.zero_le _
  | x :: r => by have := join_length_add (x :: r) (by simp); omega
mutual
theorem shown_len : ∀ {d : PyData}, rOk d = true → d.shown.length ≤ wid d
  | .none, _ => by simp only [PyData.shown, wid]; decide +kernel
  | .bool b, _ => by simp only [PyData.shown, wid]; cases b <;> decide +kernel
  | .int i, h => by
    simp only [PyData.shown, wid]
    rw [ofString_length]
    exact int_text_length_le10 (by decide) (of_decide_eq_true h)
  | .str x, h => by simp only [PyData.shown, wid]; exact Nat.le_refl _
  | .list xs, h => by
    have := shownL_len (xs := xs) (by simpa only [rOk] using h)
    simp only [PyData.shown, wid]
    rw [listText_eq_join, strLen_append, strLen_append, ofString_length, ofString_length]
    have j := join_le (PyData.shownAll xs)
    have e1 : ("[" : String).length = 1 := rfl
    have e2 : ("]" : String).length = 1 := rfl
    omega
  | .tuple xs, h => by
    have := shownL_len (xs := xs) (by simpa only [rOk] using h)
    simp only [PyData.shown, wid]
    unfold tupleText
    rw [strLen_append, strLen_append, ofString_length, ofString_length]
    have j := join_le (PyData.shownAll xs)
    have e1 : ("(" : String).length = 1 := rfl
    have e2 : ((if (PyData.shownAll xs).length == 1 then ",)" else ")" : String)).length ≤ 2 := by split <;> decide
    omega
theorem shownL_len : ∀ {xs : List PyData}, rOkL xs = true → piled (PyData.shownAll xs) ≤ widL xs
  | [], _ => by simp [PyData.shownAll, piled, widL]
  | x :: xs, h => by
    rw [rOkL, Bool.and_eq_true] at h
    have h1 := shown_len h.1
    have h2 := shownL_len h.2
    simp only [PyData.shownAll, piled, widL, List.map_cons, List.sum_cons] at *
    omega
end
mutual
theorem rOk_showable : ∀ {d : PyData}, rOk d = true → d.showable = true ∧ d.hasDict = false
  | .none, _ => by simp [PyData.showable, PyData.hasDict]
  | .bool b, _ => by simp [PyData.showable, PyData.hasDict]
  | .int i, h => by
    refine ⟨?_, by simp [PyData.hasDict]⟩
    simp only [PyData.showable]
    refine decide_eq_true ?_
    have h : i.natAbs < 10 ^ 30 := of_decide_eq_true h
    by_cases z : i.natAbs = 0
    · rw [z]; decide
    · exact (Nat.log2_lt z).mpr (Nat.lt_trans h (by decide +kernel))
  | .str x, h => by simp [PyData.showable, PyData.hasDict]
  | .list xs, h => by
    have := rOkL_showable (xs := xs) (by simpa only [rOk] using h)
    simp only [PyData.showable, PyData.hasDict]; exact this
  | .tuple xs, h => by
    have := rOkL_showable (xs := xs) (by simpa only [rOk] using h)
    simp only [PyData.showable, PyData.hasDict]; exact this
theorem rOkL_showable : ∀ {xs : List PyData}, rOkL xs = true → PyData.showableAll xs = true ∧ PyData.hasDictAll xs = false
  | [], _ => by simp [PyData.showableAll, PyData.hasDictAll]
  | x :: xs, h => by
    rw [rOkL, Bool.and_eq_true] at h
    have h1 := rOk_showable h.1
    have h2 := rOkL_showable h.2
    simp [PyData.showableAll, PyData.hasDictAll, h1.1, h1.2, h2.1, h2.2]
end
/-- repr of small data -/
theorem repr_val {d : PyData} (h : rOk d = true) (dp : d.depth ≤ 64) (w : wid d ≤ 16777216) : biD .repr [d] = some (.str d.shown) := by
  obtain ⟨h1, h2⟩ := rOk_showable h
  have h3 : fits d.shown.length = true := decide_eq_true (Nat.le_trans (shown_len h) w)
  simp [biD, reprD, h1, h2, h3, dp]
theorem shaped_str {x : Str} (h : PyData.strOk x = true) : SeqAt.shaped (.str x) = true := by
  unfold SeqAt.shaped
  simp [PyData.canLay0, h, PyData.depth]
end DE
end

section
set_option Elab.async false
set_option linter.all false
/-! PL1: loops and comprehensions, for plain proofs. -/
namespace DE
open PySem

/-! while -/
theorem whileN_mono {c : Env → R D} {b : Env → SR} : ∀ {n : Nat} {ρ : Env} {r : SR}, whileN c b n ρ = some r → whileN c b (n + 1) ρ = some r
  | 0, _, _, h => by simp [whileN] at h
  | n + 1, ρ, r, h => by
    rw [whileN] at h ⊢
    cases hc : c ρ with
    | ok x ρ1 =>
      rw [hc] at h
      cases x with
      | dat d => cases d with
        | bool k => cases k with
          | true =>
            simp only at h ⊢
            cases hb : b ρ1 with
            | nx ρ2 => rw [hb] at h; exact whileN_mono h
            | _ => rw [hb] at h; exact h
          | false => exact h
        | _ => exact h
      | _ => exact h
    | _ => rw [hc] at h; exact h
theorem whileN_le {c : Env → R D} {b : Env → SR} {n m : Nat} {ρ : Env} {r : SR} (h : whileN c b n ρ = some r) (l : n ≤ m) : whileN c b m ρ = some r := by
  induction l with
  | refl => exact h
  | step _ ih => exact whileN_mono ih
theorem whileU_of {c : Env → R D} {b : Env → SR} {n : Nat} {ρ : Env} {r : SR} (h : whileN c b n ρ = some r) : whileU c b ρ = r := by
  have hx : ∃ n r, whileN c b n ρ = some r := ⟨n, r, h⟩
  unfold whileU
  rw [dif_pos hx]
  have h2 := Classical.choose_spec (Classical.choose_spec hx)
  have a := whileN_le h (Nat.le_max_left n (Classical.choose hx))
  have b := whileN_le h2 (Nat.le_max_right n (Classical.choose hx))
  rw [a] at b
  exact (Option.some.inj b).symm
theorem whileU_no {c : Env → R D} {b : Env → SR} {ρ : Env} (h : ¬ ∃ n r, whileN c b n ρ = some r) : whileU c b ρ = .no := by unfold whileU; rw [dif_neg h]
theorem whileU_false {c : Env → R D} {b : Env → SR} {ρ ρ1 : Env} (h : c ρ = .ok (.dat (.bool false)) ρ1) : whileU c b ρ = .nx ρ1 := whileU_of (n := 1) (by rw [whileN, h])
theorem whileU_true {c : Env → R D} {b : Env → SR} {ρ ρ1 ρ2 : Env} (h : c ρ = .ok (.dat (.bool true)) ρ1) (h2 : b ρ1 = .nx ρ2) : whileU c b ρ = whileU c b ρ2 := by
  by_cases hx : ∃ n r, whileN c b n ρ2 = some r
  · obtain ⟨n, r, e⟩ := hx
    rw [whileU_of e]
    exact whileU_of (n := n + 1) (by rw [whileN, h]; simp only [h2]; exact e)
  · rw [whileU_no hx, whileU_no]
    rintro ⟨n, r, e⟩
    cases n with
    | zero => simp [whileN] at e
    | succ n =>
      rw [whileN, h] at e
      simp only [h2] at e
      exact hx ⟨n, r, e⟩
theorem whileU_rt {c : Env → R D} {b : Env → SR} {ρ ρ1 ρ2 : Env} {d : D} (h : c ρ = .ok (.dat (.bool true)) ρ1) (h2 : b ρ1 = .rt d ρ2) : whileU c b ρ = .rt d ρ2 := whileU_of (n := 1) (by rw [whileN, h]; simp only [h2])

/-! for -/
/-- through all items -/
theorem forL_all {t : T} {b : Env → SR} (I : Nat → Env → Prop) : ∀ (items : List D) (k : Nat) (ρ : Env), I k ρ → (∀ i x ρ, items[i]? = some x → I (k + i) ρ → ∃ ρ1 ρ2, storeT t x ρ = some ρ1 ∧ b ρ1 = .nx ρ2 ∧ I (k + i + 1) ρ2) →
    ∃ ρ', forL t b items ρ = .nx ρ' ∧ I (k + items.length) ρ'
  | [], k, ρ, h, _ => ⟨ρ, rfl, h⟩
  | x :: r, k, ρ, h, st => by
    obtain ⟨ρ1, ρ2, e1, e2, h2⟩ := st 0 x ρ rfl h
    obtain ⟨ρ', e3, h3⟩ := forL_all I r (k + 1) ρ2 h2 fun i y ρ e hi => by
      have := st (i + 1) y ρ (by simpa using e) (by rw [show k + (i + 1) = k + 1 + i by omega]; exact hi)
      rw [show k + (i + 1) + 1 = k + 1 + i + 1 by omega] at this
      exact this
    refine ⟨ρ', ?_, by rw [List.length_cons, show k + (r.length + 1) = k + 1 + r.length by omega]; exact h3⟩
    rw [forL, e1]
    simp only [e2, nx_bind]
    exact e3
/-- .. up to where it tells something -/
theorem forL_upto {t : T} {b : Env → SR} (I : Nat → Env → Prop) (Rt : D → Env → Prop) : ∀ (items : List D) (k : Nat) (ρ : Env), I k ρ →
    (∀ i x ρ, items[i]? = some x → I (k + i) ρ → ∃ ρ1, storeT t x ρ = some ρ1 ∧ ((∃ ρ2, b ρ1 = .nx ρ2 ∧ I (k + i + 1) ρ2) ∨ ∃ d ρ2, b ρ1 = .rt d ρ2 ∧ Rt d ρ2)) →
    (∃ ρ', forL t b items ρ = .nx ρ' ∧ I (k + items.length) ρ') ∨ ∃ d ρ', forL t b items ρ = .rt d ρ' ∧ Rt d ρ'
  | [], k, ρ, h, _ => .inl ⟨ρ, rfl, h⟩
  | x :: r, k, ρ, h, st => by
    obtain ⟨ρ1, e1, z⟩ := st 0 x ρ rfl h
    rcases z with ⟨ρ2, e2, h2⟩ | ⟨d, ρ2, e2, h2⟩
    · rcases forL_upto I Rt r (k + 1) ρ2 h2 (fun i y ρ e hi => by
        have := st (i + 1) y ρ (by simpa using e) (by rw [show k + (i + 1) = k + 1 + i by omega]; exact hi)
        rw [show k + (i + 1) + 1 = k + 1 + i + 1 by omega] at this
        exact this) with ⟨ρ', e3, h3⟩ | ⟨d, ρ', e3, h3⟩
      · refine .inl ⟨ρ', ?_, by rw [List.length_cons, show k + (r.length + 1) = k + 1 + r.length by omega]; exact h3⟩
        rw [forL, e1]
        simp only [e2, nx_bind]
        exact e3
      · refine .inr ⟨d, ρ', ?_, h3⟩
        rw [forL, e1]
        simp only [e2, nx_bind]
        exact e3
    · refine .inr ⟨d, ρ2, ?_, h2⟩
      rw [forL, e1]
      simp only [e2, rt_bind]

/-! comprehensions -/
theorem getE_wipe {ρ : Env} {j : Nat} : ∀ {vs : List Nat}, (wipeE ρ vs)[j]? = if j ∈ vs ∧ j < ρ.length then some .dead else ρ[j]?
  | [] => by simp [wipeE]
  | v :: vs => by
    rw [wipeE]
    by_cases e : v = j
    · subst e
      by_cases l : v < ρ.length
      · rw [List.getElem?_set_self (by rw [wipeE_length]; exact l)]
        simp [l]
      · rw [List.getElem?_eq_none (by rw [List.length_set, wipeE_length]; omega), List.getElem?_eq_none (by omega)]
        simp [l]
    · rw [List.getElem?_set_ne e, getE_wipe]
      have : j ∈ v :: vs ↔ j ∈ vs := by simp [List.mem_cons, Ne.symm e]
      simp only [this]
theorem getE_back {ρ0 ρ : Env} {j : Nat} : ∀ {vs : List Nat}, (backE ρ0 ρ vs)[j]? = if j ∈ vs ∧ j < ρ.length then some (slot ρ0 j) else ρ[j]?
  | [] => by simp [backE]
  | v :: vs => by
    rw [backE]
    by_cases e : v = j
    · subst e
      by_cases l : v < ρ.length
      · rw [List.getElem?_set_self (by rw [backE_length]; exact l)]
        simp [l]
      · rw [List.getElem?_eq_none (by rw [List.length_set, backE_length]; omega), List.getElem?_eq_none (by omega)]
        simp [l]
    · rw [List.getElem?_set_ne e, getE_back]
      have : j ∈ v :: vs ↔ j ∈ vs := by simp [List.mem_cons, Ne.symm e]
      simp only [this]
/-- the own slots given back -/
theorem back_wipe {ρ1 ρ : Env} {vs : List Nat} (h : wipeE ρ vs = wipeE ρ1 vs) : backE ρ1 ρ vs = ρ1 := by
  have hl : ρ.length = ρ1.length := by rw [← wipeE_length ρ vs, h, wipeE_length]
  apply List.ext_getElem?
  intro j
  rw [getE_back]
  by_cases hj : j ∈ vs ∧ j < ρ.length
  · rw [if_pos hj]
    have l : j < ρ1.length := by omega
    unfold slot
    rw [List.getD_eq_getElem?_getD, List.getElem?_eq_getElem l]; rfl
  · rw [if_neg hj]
    have e := congrArg (fun l => l[j]?) h
    simp only [getE_wipe] at e
    rw [if_neg hj, if_neg (by rw [← hl]; exact hj)] at e
    exact e
theorem compL_pure {own : List Nat} {t : T} {c e : Env → R D} {k : D → Bool} {g : D → PyData} {ρ0 : Env} : ∀ (items : List D) (ρ : Env), wipeE ρ own = ρ0 →
    (∀ x ∈ items, ∃ ρx, storeT t x ρ0 = some ρx ∧ wipeE ρx own = ρ0 ∧ c ρx = .ok (.dat (.bool (k x))) ρx ∧ (k x = true → ∃ y, e ρx = .ok y ρx ∧ y.fz = some (g x))) →
    ∃ ρ', compL own t c e items ρ = .ok ((items.filter k).map g) ρ' ∧ wipeE ρ' own = ρ0
  | [], ρ, hw, _ => ⟨ρ, rfl, hw⟩
  | x :: r, ρ, hw, h => by
    obtain ⟨ρx, e1, e2, e3, e4⟩ := h x List.mem_cons_self
    obtain ⟨ρ', e5, e6⟩ := compL_pure r ρx e2 fun y hy => h y (List.mem_cons_of_mem _ hy)
    refine ⟨ρ', ?_, e6⟩
    rw [compL, hw, e1]
    simp only [e3, nox_ok, bind_ok]
    cases hk : k x with
    | false =>
      rw [List.filter_cons_of_neg (by simp [hk])]
      exact e5
    | true =>
      obtain ⟨y, e7, e8⟩ := e4 hk
      rw [List.filter_cons_of_pos hk, List.map_cons]
      simp only [e7, nox_ok, bind_ok, e8, e5]
/-- a comprehension that changes nothing: its list -/
theorem comp_pure {G : List Fn} {elt : E} {t : T} {it : I} {c : O} {own : List Nat} {ρ ρ1 ρ3 : Env} {items : List D} {w : Option (Nat × D)} (k : D → Bool) (g : D → PyData) (hi : evI G it ρ = .ok (items, w) ρ1)
    (h : ∀ x ∈ items, ∃ ρx, storeT t x (wipeE ρ1 own) = some ρx ∧ wipeE ρx own = wipeE ρ1 own ∧ evC G c ρx = .ok (.dat (.bool (k x))) ρx ∧ (k x = true → ∃ y, evE G elt ρx = .ok y ρx ∧ y.fz = some (g x)))
    (hf : fits ((items.filter k).map g).length = true) (hu : unlock w ρ1 = some ρ3) : evE G (.comp elt t it c own) ρ = .ok (dl ((items.filter k).map g)) ρ3 := by
  obtain ⟨ρ', e1, e2⟩ := compL_pure (c := evC G c) (e := evE G elt) items ρ1 rfl h
  rw [s_comp, hi, bind_ok, kComp1_eq, e1, bind_ok, kComp2_eq, if_pos hf, back_wipe e2, hu]
/-- a comprehension that changes the rest of the env: by an invariant -/
theorem compL_inv {own : List Nat} {t : T} {c e : Env → R D} (I : Nat → Env → Prop) (V : Nat → PyData → Prop) (hI : ∀ k ρ, I k ρ → I k (wipeE ρ own)) : ∀ (items : List D) (n : Nat) (ρ : Env), I n ρ →
    (∀ i x ρ, items[i]? = some x → I (n + i) (wipeE ρ own) → ∃ ρ1 ρ2 y d, storeT t x (wipeE ρ own) = some ρ1 ∧ c ρ1 = .ok (.dat (.bool true)) ρ1 ∧ e ρ1 = .ok y ρ2 ∧ y.fz = some d ∧ V (n + i) d ∧ I (n + i + 1) ρ2) →
    ∃ ds ρ', compL own t c e items ρ = .ok ds ρ' ∧ I (n + items.length) ρ' ∧ ds.length = items.length ∧ ∀ i d, ds[i]? = some d → V (n + i) d
  | [], n, ρ, h, _ => ⟨[], ρ, rfl, h, rfl, fun i d z => by simp at z⟩
  | x :: r, n, ρ, h, st => by
    obtain ⟨ρ1, ρ2, y, d, e1, e2, e3, e4, v, h2⟩ := st 0 x ρ rfl (hI _ _ h)
    obtain ⟨ds, ρ', e5, h5, l5, v5⟩ := compL_inv I V hI r (n + 1) ρ2 h2 fun i y ρ e hi => by
      have := st (i + 1) y ρ (by simpa using e) (by rw [show n + (i + 1) = n + 1 + i by omega]; exact hi)
      rw [show n + (i + 1) + 1 = n + 1 + i + 1 by omega, show n + (i + 1) = n + 1 + i by omega] at this
      exact this
    refine ⟨d :: ds, ρ', ?_, by rw [List.length_cons, show n + (r.length + 1) = n + 1 + r.length by omega]; exact h5, by simp [l5], fun i d' z => ?_⟩
    · rw [compL, e1]
      simp only [e2, e3, nox_ok, bind_ok, e4, e5]
    · cases i with
      | zero => simp at z; subst z; exact v
      | succ i => rw [show n + (i + 1) = n + 1 + i by omega]; exact v5 i d' (by simpa using z)
theorem length_wipe_back (ρ0 ρ : Env) (vs : List Nat) : (backE ρ0 ρ vs).length = ρ.length := backE_length ρ0 ρ vs
end DE
end

section
set_option Elab.async false
set_option linter.all false
set_option maxRecDepth 100000
set_option maxHeartbeats 0
namespace DE
open PySem PySem.Spec PyProof.Rows L2
abbrev PW : Program := PySem.Challenge.pw_shorterline_k03_lines_of_halls
def top (i : Nat) : Stmt := PW.main.body.getD i (.Pass ⟨0, 0, 0, 0⟩)
def blt : List Str := ["list", "len", "abs", "int", "range", "sum", "tuple", "reversed", "all", "repr", "isinstance"]
/-! _law_feed -/
def N_w_feed : List Str := ["_law_script"]
def i_w_feed : FnIR := ⟨1, [false], (.cons (.ret (.lst (.cons (.bi .list (.cons (.sl (.var 0) .none (.some (.cst (.int 63)))) .nil)) (.cons (.cst (.int 0)) (.cons (.cst (.int 0)) (.cons (.cst (.int 0)) .nil)))))) .nil)⟩
noncomputable def d_w_feed : Fn := runF [] i_w_feed
def t_w_feed : FnT := ⟨"_law_feed", ["_law_script"], 1⟩
def fs_w_feed : List FnT := []
theorem c_w_feed : chkFn blt fs_w_feed 0 N_w_feed ["_law_script"] (top 5) i_w_feed = true := by kernel_rfl
/-! _law_draw -/
def N_w_draw : List Str := ["_law_feed_here", "_law_many", "_law_cell", "_law_mixed", "_law_found"]
def i_w_draw : FnIR := ⟨5, [true, false], (.cons (.set (.root 0) (.cst (.int 3)) (.bin .Add (.rd (.idx (.root 0) (.cst (.int 3)))) (.cst (.int 1)))) (.cons (.ifs (.cmp .Gt (.rd (.idx (.root 0) (.cst (.int 2)))) (.cst (.int 0))) (.cons (.asg (.nm 4) (.bin .Mod (.rd (.idx (.root 0) (.cst (.int 2)))) (.var 1))) (.cons (.set (.root 0) (.cst (.int 2)) (.bin .FloorDiv (.rd (.idx (.root 0) (.cst (.int 2)))) (.var 1))) (.cons (.ret (.var 4)) .nil))) .nil) (.cons (.asg (.nm 2) (.cst (.int 5))) (.cons (.ifs (.cmp .NotEq (.bp (.idx (.root 0) (.cst (.int 0)))) (.lst .nil)) (.cons (.asg (.nm 2) (.rd (.idx (.idx (.root 0) (.cst (.int 0))) (.bin .Mod (.rd (.idx (.root 0) (.cst (.int 1)))) (.bi .len (.cons (.bp (.idx (.root 0) (.cst (.int 0)))) .nil)))))) .nil) .nil) (.cons (.set (.root 0) (.cst (.int 1)) (.bin .Add (.rd (.idx (.root 0) (.cst (.int 1)))) (.cst (.int 1)))) (.cons (.ifs (.and (.cmp .GtE (.var 2) (.bin .Pow (.cst (.int 10)) (.cst (.int 18)))) (.cmp .LtE (.rd (.idx (.root 0) (.cst (.int 1)))) (.bi .len (.cons (.bp (.idx (.root 0) (.cst (.int 0)))) .nil)))) (.cons (.set (.root 0) (.cst (.int 2)) (.bin .FloorDiv (.var 2) (.var 1))) (.cons (.ret (.bin .Mod (.var 2) (.var 1))) .nil)) .nil) (.cons (.asg (.nm 3) (.bin .Mod (.bin .Mult (.bin .Add (.bin .Mod (.var 2) (.cst (.int 998244353))) (.bin .Mult (.cst (.int 5003)) (.rd (.idx (.root 0) (.cst (.int 3)))))) (.cst (.int 69621))) (.cst (.int 2147483629)))) (.cons (.asg (.nm 3) (.bin .Mod (.bin .Mult (.bin .Add (.bin .FloorDiv (.var 3) (.cst (.int 13))) (.bin .Mult (.bin .Mult (.cst (.int 7919)) (.rd (.idx (.root 0) (.cst (.int 3))))) (.rd (.idx (.root 0) (.cst (.int 3)))))) (.cst (.int 48271))) (.cst (.int 2147483587)))) (.cons (.ret (.bin .Mod (.bin .FloorDiv (.var 3) (.cst (.int 64))) (.var 1))) .nil)))))))))⟩
noncomputable def d_w_draw : Fn := runF [] i_w_draw
def t_w_draw : FnT := ⟨"_law_draw", ["_law_feed_here", "_law_many"], 1⟩
def fs_w_draw : List FnT := []
theorem c_w_draw : chkFn blt fs_w_draw 0 N_w_draw ["_law_feed_here", "_law_many"] (top 6) i_w_draw = true := by kernel_rfl
/-! _law_cut -/
def N_w_cut : List Str := ["_law_top", "_law_bottom", "_law_one", "_law_other"]
def i_w_cut : FnIR := ⟨4, [false, false], (.cons (.par [2, 3] (.cons (.bi .abs (.cons (.var 0) .nil)) (.cons (.bi .abs (.cons (.var 1) .nil)) .nil))) (.cons (.whl (.cmp .Gt (.var 3) (.cst (.int 0))) (.cons (.par [2, 3] (.cons (.var 3) (.cons (.bin .Mod (.var 2) (.var 3)) .nil))) .nil)) (.cons (.ifs (.cmp .Lt (.var 1) (.cst (.int 0))) (.cons (.asg (.nm 2) (.neg (.var 2))) .nil) .nil) (.cons (.ret (.tup (.cons (.bin .FloorDiv (.var 0) (.var 2)) (.cons (.bin .FloorDiv (.var 1) (.var 2)) .nil)))) .nil))))⟩
noncomputable def d_w_cut : Fn := runF [] i_w_cut
def t_w_cut : FnT := ⟨"_law_cut", ["_law_top", "_law_bottom"], 1⟩
def fs_w_cut : List FnT := []
theorem c_w_cut : chkFn blt fs_w_cut 0 N_w_cut ["_law_top", "_law_bottom"] (top 8) i_w_cut = true := by kernel_rfl
/-! _law_hall -/
def N_w_hall : List Str := ["_law_feed_here", "_law_most", "_law_many", "_law_way", "_law_first", "_law_heavy", "_law_wide", "_law_servers", "_law_k", "_law_come", "_law_rest", "_law_whole", "_law_told", "_law_one", "_law_speed", "_law_room"]
def i_w_hall : FnIR := ⟨16, [true, false], (.cons (.asg (.nm 2) (.bin .Add (.cst (.int 1)) (.call 0 "_law_draw" false (.ref (.root 0) (.val (.var 1) .nil))))) (.cons (.asg (.nm 3) (.call 0 "_law_draw" false (.ref (.root 0) (.val (.cst (.int 3)) .nil)))) (.cons (.asg (.nm 4) (.tup (.cons (.bin .Add (.cst (.int 1)) (.call 0 "_law_draw" false (.ref (.root 0) (.val (.cst (.int 5)) .nil)))) (.cons (.bin .Add (.cst (.int 1)) (.call 0 "_law_draw" false (.ref (.root 0) (.val (.cst (.int 3)) .nil)))) .nil)))) (.cons (.asg (.nm 5) (.ix (.lst (.cons (.cst (.int 1)) (.cons (.cst (.int 1)) (.cons (.cst (.int 97)) .nil)))) (.call 0 "_law_draw" false (.ref (.root 0) (.val (.cst (.int 3)) .nil))))) (.cons (.asg (.nm 6) (.ife (.and (.cmp .Lt (.var 2) (.cst (.int 3))) (.cmp .Eq (.call 0 "_law_draw" false (.ref (.root 0) (.val (.cst (.int 8)) .nil))) (.cst (.int 0)))) (.cst (.int 6)) (.bin .Sub (.cst (.int 3)) (.bi .int (.cons (.cmp .Gt (.var 2) (.cst (.int 3))) .nil))))) (.cons (.asg (.nm 7) (.lst .nil)) (.cons (.fors (.nm 8) (.rng1 (.var 2)) (.cons (.asg (.nm 13) (.tup (.cons (.bin .Add (.cst (.int 1)) (.call 0 "_law_draw" false (.ref (.root 0) (.val (.cst (.int 5)) .nil)))) (.cons (.bin .Add (.cst (.int 1)) (.call 0 "_law_draw" false (.ref (.root 0) (.val (.var 6) .nil)))) .nil)))) (.cons (.ex (.pm .append (.root 7) (.cons (.ife (.cmp .Eq (.var 3) (.cst (.int 0))) (.var 4) (.ife (.cmp .Eq (.var 3) (.cst (.int 1))) (.tup (.cons (.ix (.var 4) (.cst (.int 0))) (.cons (.ix (.var 13) (.cst (.int 1))) .nil))) (.var 13))) .nil))) .nil))) (.cons (.asg (.nm 9) (.bin .Add (.cst (.int 1)) (.call 0 "_law_draw" false (.ref (.root 0) (.val (.cst (.int 7)) .nil))))) (.cons (.asg (.nm 10) (.ix (.lst (.cons (.cst (.int 0)) (.cons (.cst (.int 1)) (.cons (.cst (.int 5)) .nil)))) (.call 0 "_law_draw" false (.ref (.root 0) (.val (.cst (.int 3)) .nil))))) (.cons (.asg (.nm 11) (.bin .Add (.bin .Mult (.bin .Add (.var 9) (.bi .sum (.cons (.comp (.var 14) (.tp [14, 15]) (.ref (.root 7)) .none [14, 15]) .nil))) (.var 5)) (.var 10))) (.cons (.asg (.nm 12) (.bi .tuple (.cons (.comp (.tup (.cons (.call 1 "_law_cut" false (.val (.bin .Mult (.var 14) (.var 5)) (.val (.var 11) .nil))) (.cons (.var 15) .nil))) (.tp [14, 15]) (.ref (.root 7)) .none [14, 15]) .nil))) (.cons (.ret (.tup (.cons (.call 1 "_law_cut" false (.val (.bin .Mult (.var 9) (.var 5)) (.val (.var 11) .nil))) (.cons (.var 12) (.cons (.cmp .Eq (.call 0 "_law_draw" false (.ref (.root 0) (.val (.cst (.int 3)) .nil))) (.cst (.int 0))) .nil))))) .nil))))))))))))⟩
noncomputable def d_w_hall : Fn := runF [d_w_draw, d_w_cut] i_w_hall
def t_w_hall : FnT := ⟨"_law_hall", ["_law_feed_here", "_law_most"], 2⟩
def fs_w_hall : List FnT := [t_w_draw, t_w_cut]
theorem c_w_hall : chkFn blt fs_w_hall 1 N_w_hall ["_law_feed_here", "_law_most"] (top 9) i_w_hall = true := by kernel_rfl
/-! all_lines -/
def N_p_all_lines : List Str := ["hall", "found", "speed", "room", "longer", "lines", "many"]
def i_p_all_lines : FnIR := ⟨7, [false], (.cons (.asg (.nm 1) (.lst (.cons (.tup .nil) .nil))) (.cons (.fors (.tp [2, 3]) (.val (.ix (.var 0) (.cst (.int 1)))) (.cons (.asg (.nm 4) (.lst .nil)) (.cons (.fors (.nm 5) (.ref (.root 1)) (.cons (.ex (.pm .extend (.root 4) (.cons (.comp (.bin .Add (.var 5) (.tup (.cons (.var 6) .nil))) (.nm 6) (.rng1 (.bin .Add (.var 3) (.cst (.int 1)))) .none [6]) .nil))) .nil)) (.cons (.asg (.nm 1) (.mv 4)) .nil)))) (.cons (.ret (.mv 1)) .nil)))⟩
noncomputable def d_p_all_lines : Fn := runF [] i_p_all_lines
def t_p_all_lines : FnT := ⟨"all_lines", ["hall"], 1⟩
def fs_p_all_lines : List FnT := []
theorem c_p_all_lines : chkFn blt fs_p_all_lines 0 N_p_all_lines ["hall"] (top 2) i_p_all_lines = true := by kernel_rfl
/-! _law_next -/
def N_w_next : List Str := ["_law_hall_here", "_law_lines", "_law_found", "_law_k"]
def i_w_next : FnIR := ⟨4, [false, false], (.cons (.asg (.nm 2) (.bi .list (.cons (.var 1) .nil))) (.cons (.fors (.nm 3) (.rrng1 (.bi .len (.cons (.bp (.root 2)) .nil))) (.cons (.ifs (.cmp .Lt (.rd (.idx (.root 2) (.var 3))) (.ix (.ix (.ix (.var 0) (.cst (.int 1))) (.var 3)) (.cst (.int 1)))) (.cons (.set (.root 2) (.var 3) (.bin .Add (.rd (.idx (.root 2) (.var 3))) (.cst (.int 1)))) (.cons (.ret (.bi .tuple (.cons (.mv 2) .nil))) .nil)) .nil) (.cons (.set (.root 2) (.var 3) (.cst (.int 0))) .nil))) (.cons (.ret (.cst .none)) .nil)))⟩
noncomputable def d_w_next : Fn := runF [] i_w_next
def t_w_next : FnT := ⟨"_law_next", ["_law_hall_here", "_law_lines"], 1⟩
def fs_w_next : List FnT := []
theorem c_w_next : chkFn blt fs_w_next 0 N_w_next ["_law_hall_here", "_law_lines"] (top 10) i_w_next = true := by kernel_rfl
/-! _law_shuffled -/
def N_w_shuffled : List Str := ["_law_feed_here", "_law_some", "_law_left", "_law_found", "_law_k"]
def i_w_shuffled : FnIR := ⟨5, [true, false], (.cons (.asg (.nm 2) (.bi .list (.cons (.var 1) .nil))) (.cons (.asg (.nm 3) (.lst .nil)) (.cons (.fors (.nm 4) (.rng1 (.bi .len (.cons (.bp (.root 2)) .nil))) (.cons (.ex (.pm .append (.root 3) (.cons (.pm .popAt (.root 2) (.cons (.call 0 "_law_draw" false (.ref (.root 0) (.val (.bi .len (.cons (.bp (.root 2)) .nil)) .nil))) .nil)) .nil))) .nil)) (.cons (.ret (.mv 3)) .nil))))⟩
noncomputable def d_w_shuffled : Fn := runF [d_w_draw] i_w_shuffled
def t_w_shuffled : FnT := ⟨"_law_shuffled", ["_law_feed_here", "_law_some"], 2⟩
def fs_w_shuffled : List FnT := [t_w_draw]
theorem c_w_shuffled : chkFn blt fs_w_shuffled 1 N_w_shuffled ["_law_feed_here", "_law_some"] (top 7) i_w_shuffled = true := by kernel_rfl
/-! is_alike -/
def N_p_is_alike : List Str := ["hall", "server"]
def i_p_is_alike : FnIR := ⟨2, [false], (.cons (.ret (.bi .all (.cons (.comp (.cmp .Eq (.var 1) (.ix (.ix (.var 0) (.cst (.int 1))) (.cst (.int 0)))) (.nm 1) (.val (.ix (.var 0) (.cst (.int 1)))) .none [1]) .nil))) .nil)⟩
noncomputable def d_p_is_alike : Fn := runF [] i_p_is_alike
def t_p_is_alike : FnT := ⟨"is_alike", ["hall"], 1⟩
def fs_p_is_alike : List FnT := []
theorem c_p_is_alike : chkFn blt fs_p_is_alike 0 N_p_is_alike ["hall"] (top 1) i_p_is_alike = true := by kernel_rfl
/-! hall_turned -/
def N_p_hall_turned : List Str := ["hall", "order", "k"]
def i_p_hall_turned : FnIR := ⟨3, [false, false], (.cons (.ret (.tup (.cons (.ix (.var 0) (.cst (.int 0))) (.cons (.bi .tuple (.cons (.comp (.ix (.ix (.var 0) (.cst (.int 1))) (.var 2)) (.nm 2) (.val (.var 1)) .none [2]) .nil)) (.cons (.ix (.var 0) (.cst (.int 2))) .nil))))) .nil)⟩
noncomputable def d_p_hall_turned : Fn := runF [] i_p_hall_turned
def t_p_hall_turned : FnT := ⟨"hall_turned", ["hall", "order"], 1⟩
def fs_p_hall_turned : List FnT := []
theorem c_p_hall_turned : chkFn blt fs_p_hall_turned 0 N_p_hall_turned ["hall", "order"] (top 3) i_p_hall_turned = true := by kernel_rfl
/-! _law_right -/
def N_w_right : List Str := ["_law_feed_here", "_law_hall_here", "_law_kept", "_law_told", "_law_due", "_law_lines", "_law_alike", "_law_order", "_law_turned", "_law_server", "_law_k"]
def i_w_right : FnIR := ⟨11, [true, false], (.cons (.asg (.nm 2) (.bi .repr (.cons (.var 1) .nil))) (.cons (.asg (.nm 3) (.call 0 "all_lines" false (.val (.var 1) .nil))) (.cons (.asg (.nm 4) (.bi .tuple (.cons (.comp (.cst (.int 0)) (.nm 9) (.val (.ix (.var 1) (.cst (.int 1)))) .none [9]) .nil))) (.cons (.fors (.nm 5) (.ref (.root 3)) (.cons (.ifs (.cmp .NotEq (.bi .repr (.cons (.var 5) .nil)) (.bi .repr (.cons (.var 4) .nil))) (.cons (.ret (.cst (.bool false))) .nil) .nil) (.cons (.asg (.nm 4) (.call 1 "_law_next" false (.val (.var 1) (.val (.var 4) .nil)))) .nil))) (.cons (.ifs (.or (.cmp .IsNot (.var 4) (.cst .none)) (.not (.isi (.bp (.root 3)) ["list"] true))) (.cons (.ret (.cst (.bool false))) .nil) .nil) (.cons (.ex (.pm .append (.root 3) (.cons (.cst .none) .nil))) (.cons (.set (.root 3) (.cst (.int 0)) (.cst (.str "a"))) (.cons (.ifs (.or (.cmp .NotEq (.bi .len (.cons (.call 0 "all_lines" false (.val (.var 1) .nil)) .nil)) (.bin .Sub (.bi .len (.cons (.bp (.root 3)) .nil)) (.cst (.int 1)))) (.cmp .Eq (.bi .repr (.cons (.ix (.call 0 "all_lines" false (.val (.var 1) .nil)) (.cst (.int 0))) .nil)) (.bi .repr (.cons (.cst (.str "a")) .nil)))) (.cons (.ret (.cst (.bool false))) .nil) .nil) (.cons (.asg (.nm 6) (.cmp .Eq (.comp (.var 9) (.nm 9) (.val (.ix (.var 1) (.cst (.int 1)))) (.some (.cmp .NotEq (.var 9) (.ix (.ix (.var 1) (.cst (.int 1))) (.cst (.int 0))))) [9]) (.lst .nil))) (.cons (.asg (.nm 7) (.bi .tuple (.cons (.call 2 "_law_shuffled" false (.ref (.root 0) (.val (.frz (.lrg (.bi .len (.cons (.ix (.var 1) (.cst (.int 1))) .nil)))) .nil))) .nil))) (.cons (.asg (.nm 8) (.tup (.cons (.ix (.var 1) (.cst (.int 0))) (.cons (.bi .tuple (.cons (.comp (.ix (.ix (.var 1) (.cst (.int 1))) (.var 10)) (.nm 10) (.val (.var 7)) .none [10]) .nil)) (.cons (.ix (.var 1) (.cst (.int 2))) .nil))))) (.cons (.ret (.cmp .Eq (.lst (.cons (.bi .repr (.cons (.call 3 "is_alike" false (.val (.var 1) .nil)) .nil)) (.cons (.bi .repr (.cons (.call 4 "hall_turned" false (.val (.var 1) (.val (.var 7) .nil))) .nil)) (.cons (.bi .repr (.cons (.var 1) .nil)) .nil)))) (.lst (.cons (.bi .repr (.cons (.var 6) .nil)) (.cons (.bi .repr (.cons (.var 8) .nil)) (.cons (.var 2) .nil)))))) .nil))))))))))))⟩
noncomputable def d_w_right : Fn := runF [d_p_all_lines, d_w_next, d_w_shuffled, d_p_is_alike, d_p_hall_turned] i_w_right
def t_w_right : FnT := ⟨"_law_right", ["_law_feed_here", "_law_hall_here"], 3⟩
def fs_w_right : List FnT := [t_p_all_lines, t_w_next, t_w_shuffled, t_p_is_alike, t_p_hall_turned]
theorem c_w_right : chkFn blt fs_w_right 2 N_w_right ["_law_feed_here", "_law_hall_here"] (top 11) i_w_right = true := by kernel_rfl
/-! law -/
def N_law : List Str := ["_law_script", "_law_feed_here", "_law_halls", "_law_k", "_law_hall_here"]
def i_law : FnIR := ⟨5, [false], (.cons (.asg (.nm 1) (.call 0 "_law_feed" false (.val (.var 0) .nil))) (.cons (.asg (.nm 2) (.comp (.call 1 "_law_hall" false (.ref (.root 1) (.val (.cst (.int 4)) .nil))) (.nm 3) (.rng1 (.cst (.int 4))) .none [3])) (.cons (.ex (.pm .append (.root 2) (.cons (.tup (.cons (.tup (.cons (.cst (.int 1)) (.cons (.cst (.int 5)) .nil))) (.cons (.tup (.cons (.tup (.cons (.tup (.cons (.cst (.int 1)) (.cons (.cst (.int 10)) .nil))) (.cons (.bin .Add (.cst (.int 1)) (.call 2 "_law_draw" false (.ref (.root 1) (.val (.cst (.int 6)) .nil)))) .nil))) (.cons (.tup (.cons (.tup (.cons (.cst (.int 1)) (.cons (.cst (.int 10)) .nil))) (.cons (.cst (.int 6)) .nil))) .nil))) (.cons (.cst (.bool true)) .nil)))) .nil))) (.cons (.ex (.pm .append (.root 2) (.cons (.tup (.cons (.tup (.cons (.cst (.int 1)) (.cons (.cst (.int 3)) .nil))) (.cons (.tup (.cons (.tup (.cons (.tup (.cons (.cst (.int 1)) (.cons (.cst (.int 3)) .nil))) (.cons (.cst (.int 6)) .nil))) .nil)) (.cons (.cst (.bool false)) .nil)))) .nil))) (.cons (.ret (.cmp .Eq (.comp (.var 4) (.nm 4) (.ref (.root 2)) (.some (.not (.call 3 "_law_right" false (.ref (.root 1) (.val (.var 4) .nil))))) [4]) (.lst .nil))) .nil)))))⟩
noncomputable def d_law : Fn := runF [d_w_feed, d_w_hall, d_w_draw, d_w_right] i_law
def t_law : FnT := ⟨"law", ["_law_script"], 4⟩
def fs_law : List FnT := [t_w_feed, t_w_hall, t_w_draw, t_w_right]
theorem c_law : chkFn blt fs_law 3 N_law ["_law_script"] (top 12) i_law = true := by kernel_rfl
section
variable {w : World} {K : PySem.W.Frag} {mg : Str → Option Value} {base : Heap}
abbrev FnP (K : PySem.W.Frag) (x : Str) (st : Stmt) (f : Addr) (fd : FuncData) : Prop := FunD K x x (defArgs st) (defBody st) (defScope st) [] [] f fd
theorem e_w_feed {f : Addr} {fd : FuncData} (F : FnP K "_law_feed" (top 5) f fd) (hm : mg "_law_feed" = some (.ref f)) (hb : ∀ x ∈ blt, mg x = none)  : FnE PW w K mg base t_w_feed d_w_feed :=
  fnE_fit F hm c_w_feed FnsOk.nil hb fun _ _ _ _ _ _ us hl => match us, hl with | [_], _ => rfl
theorem e_w_draw {f : Addr} {fd : FuncData} (F : FnP K "_law_draw" (top 6) f fd) (hm : mg "_law_draw" = some (.ref f)) (hb : ∀ x ∈ blt, mg x = none)  : FnE PW w K mg base t_w_draw d_w_draw :=
  fnE_fit F hm c_w_draw FnsOk.nil hb fun _ _ _ _ _ _ us hl => match us, hl with | [_, _], _ => rfl
theorem e_w_cut {f : Addr} {fd : FuncData} (F : FnP K "_law_cut" (top 8) f fd) (hm : mg "_law_cut" = some (.ref f)) (hb : ∀ x ∈ blt, mg x = none)  : FnE PW w K mg base t_w_cut d_w_cut :=
  fnE_fit F hm c_w_cut FnsOk.nil hb fun _ _ _ _ _ _ us hl => match us, hl with | [_, _], _ => rfl
theorem e_w_hall {f : Addr} {fd : FuncData} (F : FnP K "_law_hall" (top 9) f fd) (hm : mg "_law_hall" = some (.ref f)) (hb : ∀ x ∈ blt, mg x = none) (h_w_draw : FnE PW w K mg base t_w_draw d_w_draw) (h_w_cut : FnE PW w K mg base t_w_cut d_w_cut) : FnE PW w K mg base t_w_hall d_w_hall :=
  fnE_fit F hm c_w_hall (FnsOk.cons h_w_draw (FnsOk.cons h_w_cut FnsOk.nil)) hb fun _ _ _ _ _ _ us hl => match us, hl with | [_, _], _ => rfl
theorem e_p_all_lines {f : Addr} {fd : FuncData} (F : FnP K "all_lines" (top 2) f fd) (hm : mg "all_lines" = some (.ref f)) (hb : ∀ x ∈ blt, mg x = none)  : FnE PW w K mg base t_p_all_lines d_p_all_lines :=
  fnE_fit F hm c_p_all_lines FnsOk.nil hb fun _ _ _ _ _ _ us hl => match us, hl with | [_], _ => rfl
theorem e_w_next {f : Addr} {fd : FuncData} (F : FnP K "_law_next" (top 10) f fd) (hm : mg "_law_next" = some (.ref f)) (hb : ∀ x ∈ blt, mg x = none)  : FnE PW w K mg base t_w_next d_w_next :=
  fnE_fit F hm c_w_next FnsOk.nil hb fun _ _ _ _ _ _ us hl => match us, hl with | [_, _], _ => rfl
theorem e_w_shuffled {f : Addr} {fd : FuncData} (F : FnP K "_law_shuffled" (top 7) f fd) (hm : mg "_law_shuffled" = some (.ref f)) (hb : ∀ x ∈ blt, mg x = none) (h_w_draw : FnE PW w K mg base t_w_draw d_w_draw) : FnE PW w K mg base t_w_shuffled d_w_shuffled :=
  fnE_fit F hm c_w_shuffled (FnsOk.cons h_w_draw FnsOk.nil) hb fun _ _ _ _ _ _ us hl => match us, hl with | [_, _], _ => rfl
theorem e_p_is_alike {f : Addr} {fd : FuncData} (F : FnP K "is_alike" (top 1) f fd) (hm : mg "is_alike" = some (.ref f)) (hb : ∀ x ∈ blt, mg x = none)  : FnE PW w K mg base t_p_is_alike d_p_is_alike :=
  fnE_fit F hm c_p_is_alike FnsOk.nil hb fun _ _ _ _ _ _ us hl => match us, hl with | [_], _ => rfl
theorem e_p_hall_turned {f : Addr} {fd : FuncData} (F : FnP K "hall_turned" (top 3) f fd) (hm : mg "hall_turned" = some (.ref f)) (hb : ∀ x ∈ blt, mg x = none)  : FnE PW w K mg base t_p_hall_turned d_p_hall_turned :=
  fnE_fit F hm c_p_hall_turned FnsOk.nil hb fun _ _ _ _ _ _ us hl => match us, hl with | [_, _], _ => rfl
theorem e_w_right {f : Addr} {fd : FuncData} (F : FnP K "_law_right" (top 11) f fd) (hm : mg "_law_right" = some (.ref f)) (hb : ∀ x ∈ blt, mg x = none) (h_p_all_lines : FnE PW w K mg base t_p_all_lines d_p_all_lines) (h_w_next : FnE PW w K mg base t_w_next d_w_next) (h_w_shuffled : FnE PW w K mg base t_w_shuffled d_w_shuffled) (h_p_is_alike : FnE PW w K mg base t_p_is_alike d_p_is_alike) (h_p_hall_turned : FnE PW w K mg base t_p_hall_turned d_p_hall_turned) : FnE PW w K mg base t_w_right d_w_right :=
  fnE_fit F hm c_w_right (FnsOk.cons h_p_all_lines (FnsOk.cons h_w_next (FnsOk.cons h_w_shuffled (FnsOk.cons h_p_is_alike (FnsOk.cons h_p_hall_turned FnsOk.nil))))) hb fun _ _ _ _ _ _ us hl => match us, hl with | [_, _], _ => rfl
theorem g_law {f : Addr} {fd : FuncData} (F : FnP K "law" (top 12) f fd) (hb : ∀ x ∈ blt, mg x = none) (h_w_feed : FnE PW w K mg base t_w_feed d_w_feed) (h_w_hall : FnE PW w K mg base t_w_hall d_w_hall) (h_w_draw : FnE PW w K mg base t_w_draw d_w_draw) (h_w_right : FnE PW w K mg base t_w_right d_w_right) : FnG PW w K mg base (L2.CX PW w) 4 f fd ["_law_script"] (spF K mg 1 d_law) :=
  fnG_fit F c_law (FnsOk.cons h_w_feed (FnsOk.cons h_w_hall (FnsOk.cons h_w_draw (FnsOk.cons h_w_right FnsOk.nil)))) hb
end
/-! the head -/
def dd_w_feed : He.DefD := ⟨("_law_feed", none), "_law_feed", "_law_feed", defArgs (top 5), defBody (top 5), defScope (top 5), [], []⟩
def dd_w_draw : He.DefD := ⟨("_law_draw", none), "_law_draw", "_law_draw", defArgs (top 6), defBody (top 6), defScope (top 6), [], []⟩
def dd_w_cut : He.DefD := ⟨("_law_cut", none), "_law_cut", "_law_cut", defArgs (top 8), defBody (top 8), defScope (top 8), [], []⟩
def dd_w_hall : He.DefD := ⟨("_law_hall", none), "_law_hall", "_law_hall", defArgs (top 9), defBody (top 9), defScope (top 9), [], []⟩
def dd_p_all_lines : He.DefD := ⟨("all_lines", none), "all_lines", "all_lines", defArgs (top 2), defBody (top 2), defScope (top 2), [], []⟩
def dd_w_next : He.DefD := ⟨("_law_next", none), "_law_next", "_law_next", defArgs (top 10), defBody (top 10), defScope (top 10), [], []⟩
def dd_w_shuffled : He.DefD := ⟨("_law_shuffled", none), "_law_shuffled", "_law_shuffled", defArgs (top 7), defBody (top 7), defScope (top 7), [], []⟩
def dd_p_is_alike : He.DefD := ⟨("is_alike", none), "is_alike", "is_alike", defArgs (top 1), defBody (top 1), defScope (top 1), [], []⟩
def dd_p_hall_turned : He.DefD := ⟨("hall_turned", none), "hall_turned", "hall_turned", defArgs (top 3), defBody (top 3), defScope (top 3), [], []⟩
def dd_w_right : He.DefD := ⟨("_law_right", none), "_law_right", "_law_right", defArgs (top 11), defBody (top 11), defScope (top 11), [], []⟩
def dd_law : He.DefD := ⟨("law", none), "law", "law", defArgs (top 12), defBody (top 12), defScope (top 12), [], []⟩
def fn : List He.DefD := [dd_w_feed, dd_w_draw, dd_w_cut, dd_w_hall, dd_p_all_lines, dd_w_next, dd_w_shuffled, dd_p_is_alike, dd_p_hall_turned, dd_w_right, dd_law]
def fa : List He.Fa := [.glo "_law_feed", .glo "_law_draw", .glo "_law_cut", .glo "_law_hall", .glo "all_lines", .glo "_law_next", .glo "_law_shuffled", .glo "is_alike", .glo "hall_turned", .glo "_law_right", .glo "law", .free "list", .free "len", .free "abs", .free "int", .free "range", .free "sum", .free "tuple", .free "reversed", .free "all", .free "repr", .free "isinstance"]
abbrev RR : PySem.W.OpenRow := PySem.W.OpenLaw.row PySem.Challenge.rw_shorterline_k03_lines_of_halls
abbrev hk : PySem.W.Hook := He.hookD 4 fa fn
def ob (s : PySem.W.SharedT) : He.AlD := He.obsDG 4 fa fn (HandSHeadRun.getT s)
theorem ob_eq (s : PySem.W.SharedT) : ob s = hk.obs s.abs := He.obsDG_eq (HandSHeadRun.getT_eq s)
def loose0 : List Str := ["is_alike", "all_lines", "hall_turned", "_law_feed", "_law_draw", "_law_shuffled", "_law_cut", "_law_hall", "_law_next", "_law_right"]
def loose : List Str := loose0
theorem run (w : World) : HandSHeadRun.RunEq RR (PySem.W.view RR.prog [12]) hk ob 4000 loose w := by
  intro os
  kernel_rfl
theorem facts {w : World} {K : PySem.W.Frag} {h : Heap} {mg : Str → Option Value} {f : Addr} (X : K.In h) (G : h.Ns mainGlobals mg) (hfa : mg ("law" : Str) = some (.ref f)) (c : He.SaysD fa fn K) :
    ∃ fd : FuncData, (∀ (s : Shared) (v : Value), BindsTo s fd ⟨[v], []⟩ [("_law_script", v)]) ∧ ∀ base : Heap, K.In base → base.Ns mainGlobals mg → FnG PW w K mg base (L2.CX PW w) 4 f fd ["_law_script"] (spF K mg 1 d_law) := by
  obtain ⟨fd_w_feed, F_w_feed⟩ := c.def_ 0 (d := dd_w_feed) rfl
  obtain ⟨fd_w_draw, F_w_draw⟩ := c.def_ 1 (d := dd_w_draw) rfl
  obtain ⟨fd_w_cut, F_w_cut⟩ := c.def_ 2 (d := dd_w_cut) rfl
  obtain ⟨fd_w_hall, F_w_hall⟩ := c.def_ 3 (d := dd_w_hall) rfl
  obtain ⟨fd_p_all_lines, F_p_all_lines⟩ := c.def_ 4 (d := dd_p_all_lines) rfl
  obtain ⟨fd_w_next, F_w_next⟩ := c.def_ 5 (d := dd_w_next) rfl
  obtain ⟨fd_w_shuffled, F_w_shuffled⟩ := c.def_ 6 (d := dd_w_shuffled) rfl
  obtain ⟨fd_p_is_alike, F_p_is_alike⟩ := c.def_ 7 (d := dd_p_is_alike) rfl
  obtain ⟨fd_p_hall_turned, F_p_hall_turned⟩ := c.def_ 8 (d := dd_p_hall_turned) rfl
  obtain ⟨fd_w_right, F_w_right⟩ := c.def_ 9 (d := dd_w_right) rfl
  obtain ⟨fd_law, F_law⟩ := c.def_ 10 (d := dd_law) rfl
  have hb : ∀ x ∈ blt, mg x = none := by
    intro x hx
    simp only [blt, List.mem_cons, List.not_mem_nil, or_false] at hx
    rcases hx with e | e | e | e | e | e | e | e | e | e | e <;> subst e
    · exact He.free_ok X G (c.fact 11 (f := .free "list") rfl)
    · exact He.free_ok X G (c.fact 12 (f := .free "len") rfl)
    · exact He.free_ok X G (c.fact 13 (f := .free "abs") rfl)
    · exact He.free_ok X G (c.fact 14 (f := .free "int") rfl)
    · exact He.free_ok X G (c.fact 15 (f := .free "range") rfl)
    · exact He.free_ok X G (c.fact 16 (f := .free "sum") rfl)
    · exact He.free_ok X G (c.fact 17 (f := .free "tuple") rfl)
    · exact He.free_ok X G (c.fact 18 (f := .free "reversed") rfl)
    · exact He.free_ok X G (c.fact 19 (f := .free "all") rfl)
    · exact He.free_ok X G (c.fact 20 (f := .free "repr") rfl)
    · exact He.free_ok X G (c.fact 21 (f := .free "isinstance") rfl)
  have G_w_feed := He.glo_ok X G (c.fact 0 (f := .glo "_law_feed") rfl)
  have G_w_draw := He.glo_ok X G (c.fact 1 (f := .glo "_law_draw") rfl)
  have G_w_cut := He.glo_ok X G (c.fact 2 (f := .glo "_law_cut") rfl)
  have G_w_hall := He.glo_ok X G (c.fact 3 (f := .glo "_law_hall") rfl)
  have G_p_all_lines := He.glo_ok X G (c.fact 4 (f := .glo "all_lines") rfl)
  have G_w_next := He.glo_ok X G (c.fact 5 (f := .glo "_law_next") rfl)
  have G_w_shuffled := He.glo_ok X G (c.fact 6 (f := .glo "_law_shuffled") rfl)
  have G_p_is_alike := He.glo_ok X G (c.fact 7 (f := .glo "is_alike") rfl)
  have G_p_hall_turned := He.glo_ok X G (c.fact 8 (f := .glo "hall_turned") rfl)
  have G_w_right := He.glo_ok X G (c.fact 9 (f := .glo "_law_right") rfl)
  have e := hfa.symm.trans (He.glo_ok X G (c.fact 10 (f := .glo "law") rfl))
  cases e
  have b := FunD.bindsA (ps := ["_law_script"]) F_law fun _ _ _ _ _ _ us hl => match us, hl with | [_], _ => rfl
  refine ⟨fd_law, fun s v => b s [v] rfl, fun base _ _ => ?_⟩
  have h_w_feed : FnE PW w K mg base t_w_feed d_w_feed := e_w_feed F_w_feed G_w_feed hb 
  have h_w_draw : FnE PW w K mg base t_w_draw d_w_draw := e_w_draw F_w_draw G_w_draw hb 
  have h_w_cut : FnE PW w K mg base t_w_cut d_w_cut := e_w_cut F_w_cut G_w_cut hb 
  have h_w_hall : FnE PW w K mg base t_w_hall d_w_hall := e_w_hall F_w_hall G_w_hall hb h_w_draw h_w_cut
  have h_p_all_lines : FnE PW w K mg base t_p_all_lines d_p_all_lines := e_p_all_lines F_p_all_lines G_p_all_lines hb 
  have h_w_next : FnE PW w K mg base t_w_next d_w_next := e_w_next F_w_next G_w_next hb 
  have h_w_shuffled : FnE PW w K mg base t_w_shuffled d_w_shuffled := e_w_shuffled F_w_shuffled G_w_shuffled hb h_w_draw
  have h_p_is_alike : FnE PW w K mg base t_p_is_alike d_p_is_alike := e_p_is_alike F_p_is_alike G_p_is_alike hb 
  have h_p_hall_turned : FnE PW w K mg base t_p_hall_turned d_p_hall_turned := e_p_hall_turned F_p_hall_turned G_p_hall_turned hb 
  have h_w_right : FnE PW w K mg base t_w_right d_w_right := e_w_right F_w_right G_w_right hb h_p_all_lines h_w_next h_w_shuffled h_p_is_alike h_p_hall_turned
  exact g_law F_law hb h_w_feed h_w_hall h_w_draw h_w_right
end DE
end

section
set_option Elab.async false
set_option linter.all false
set_option maxRecDepth 100000
set_option maxHeartbeats 1000000
namespace DE
open PySem
theorem viewL_dats : ∀ xs : List PyData, D.viewL (xs.map .dat) = some xs
  | [] => rfl
  | x :: xs => by rw [List.map_cons, D.viewL, viewL_dats xs]; rfl
theorem fzL_dats : ∀ xs : List PyData, D.fzL (xs.map .dat) = some xs
  | [] => rfl
  | x :: xs => by rw [List.map_cons, D.fzL, fzL_dats xs]; rfl
theorem dats_dats : ∀ xs : List PyData, D.dats (xs.map .dat) = some xs
  | [] => rfl
  | x :: xs => by rw [List.map_cons, D.dats, dats_dats xs]; rfl
/-- a feed -/
def feed (cs : List Int) (i l n : Int) : D := .lst [.lst ((cs.map PyData.int).map .dat), .dat (.int i), .dat (.int l), .dat (.int n)]
theorem mulOk_of {i j : Int} (hi : i.natAbs < 2 ^ 300) (hj : j.natAbs < 2 ^ 300) : mulOk i j = true := by
  have z : ∀ k : Nat, k < 2 ^ 300 → k.log2 < 300 := fun k h => by
    by_cases e : k = 0
    · subst e; decide
    · exact (Nat.log2_lt e).mpr h
  exact decide_eq_true (by have := z _ hi; have := z _ hj; omega)
theorem divOk_of {j : Int} (h0 : j ≠ 0) (h : j.natAbs < 2 ^ 300) : divOk j = true := by
  unfold divOk
  have : j.natAbs.log2 < 300 := (Nat.log2_lt (by omega)).mpr h
  simp [h0]; omega
theorem canLay_ints : ∀ cs : List Int, PyData.canLayAll0 (cs.map PyData.int) = true
  | [] => rfl
  | c :: cs => by simp [PyData.canLayAll0, PyData.canLay0, canLay_ints cs]
theorem depth_ints : ∀ cs : List Int, PyData.depthAll (cs.map PyData.int) = 0
  | [] => by simp [PyData.depthAll]
  | c :: cs => by simp [PyData.depthAll, PyData.depth, depth_ints cs]
theorem shaped_ints (cs : List Int) : SeqAt.shaped (.list (cs.map PyData.int)) = true := by
  simp [SeqAt.shaped, PyData.canLay0, canLay_ints, PyData.depth, depth_ints]
theorem shaped_nil : SeqAt.shaped (.list []) = true := by decide +kernel
theorem atI_0 {α : Type} (a : α) (r : List α) : L2.atI (a :: r) 0 = some a := by simp [L2.atI, L2.ixN]
theorem atI_1 {α : Type} (a b : α) (r : List α) : L2.atI (a :: b :: r) 1 = some b := by
  have : (1 : Int) < ((a :: b :: r).length : Int) := by simp only [List.length_cons]; omega
  unfold L2.atI L2.ixN; rw [if_pos (by decide), if_pos this]; rfl
theorem atI_2 {α : Type} (a b c : α) (r : List α) : L2.atI (a :: b :: c :: r) 2 = some c := by
  have : (2 : Int) < ((a :: b :: c :: r).length : Int) := by simp only [List.length_cons]; omega
  unfold L2.atI L2.ixN; rw [if_pos (by decide), if_pos this]; rfl
theorem atI_3 {α : Type} (a b c d : α) (r : List α) : L2.atI (a :: b :: c :: d :: r) 3 = some d := by
  have : (3 : Int) < ((a :: b :: c :: d :: r).length : Int) := by simp only [List.length_cons]; omega
  unfold L2.atI L2.ixN; rw [if_pos (by decide), if_pos this]; rfl
theorem ixN_nn {n : Nat} {k : Int} (h : 0 ≤ k) (h2 : k < n) : L2.ixN n k = some k.toNat := by unfold L2.ixN; rw [if_pos h, if_pos h2]
theorem atI_nn {α : Type} {xs : List α} {k : Int} (h : 0 ≤ k) (h2 : k < xs.length) : L2.atI xs k = xs[k.toNat]? := by unfold L2.atI; rw [ixN_nn h h2]; rfl
theorem cmpNe_nil (cs : List Int) : cmpV .NotEq (.tr (.list (cs.map PyData.int))) (.lst []) = some (!cs.isEmpty) := by
  show cmpD .NotEq (.list (cs.map PyData.int)) (.list []) = _
  simp only [cmpD, shaped_ints, shaped_nil, Bool.and_self, if_true]
  cases cs with
  | nil => decide +kernel
  | cons c cs => simp [PyData.eqv, PyData.eqvAll]
theorem lenD_ints (cs : List Int) : lenD [.list (cs.map PyData.int)] = some (.int (cs.length : Int)) := by simp [lenD]
theorem draw_spec {cs : List Int} {i l n m : Int} (hm : 0 < m) (hm2 : m ≤ 1048576) (hi : 0 ≤ i) (hl : 0 ≤ l) (hn : 0 ≤ n) (hB : n < 2 ^ 100) :
    ∃ (i' l' r : Int) (o : D), d_w_draw [feed cs i l n, .dat (.int m)] = .ret (.dat (.int r)) [feed cs i' l' (n + 1), o] ∧ 0 ≤ i' ∧ 0 ≤ l' ∧ 0 ≤ r ∧ r < m := by
  have m0 : m ≠ 0 := by omega
  have big : ∀ k : Int, 0 ≤ k → k < 2 ^ 290 → k.natAbs < 2 ^ 300 := fun k h1 h2 => by omega
  have dm : divOk m = true := divOk_of m0 (by omega)
  by_cases h0 : 0 < l
  · refine ⟨i, l.fdiv m, l.fmod m, .dead, ?_, hi, Int.fdiv_nonneg hl (by omega), Int.fmod_nonneg_of_pos _ hm, Int.fmod_lt_of_pos _ hm⟩
    simp [feed, d_w_draw, runF, i_w_draw, slot, storeT, getS, putS, atI_0, atI_1, atI_2, atI_3, L2.ixN, E.pure, P.pure, isLive, isLst, binD, cmpV, cmpD, D.view, D.own, D.ntr, outsOf, m0, h0, dm]
  · -- the rest, at any cell
    obtain ⟨c, hc⟩ : ∃ c : Int, (cs = [] ∧ c = 5) ∨ (cs ≠ [] ∧ L2.atI ((cs.map PyData.int).map D.dat) (i.fmod cs.length) = some (.dat (.int c))) := by
      by_cases e : cs = []
      · exact ⟨5, .inl ⟨e, rfl⟩⟩
      · have lp : (0 : Int) < cs.length := by have := List.length_pos_iff.mpr e; omega
        have h1 := Int.fmod_nonneg_of_pos i lp
        have h2 := Int.fmod_lt_of_pos i lp
        have h3 : (i.fmod cs.length).toNat < cs.length := by omega
        refine ⟨cs[(i.fmod cs.length).toNat], .inr ⟨e, ?_⟩⟩
        rw [atI_nn h1 (by simpa using h2)]
        simp [List.getElem?_map, List.getElem?_eq_getElem h3]
    have step : exS [] (.ifs (.cmp .NotEq (.bp (.idx (.root 0) (.cst (.int 0)))) (.lst .nil)) (.cons (.asg (.nm 2) (.rd (.idx (.idx (.root 0) (.cst (.int 0))) (.bin .Mod (.rd (.idx (.root 0) (.cst (.int 1)))) (.bi .len (.cons (.bp (.idx (.root 0) (.cst (.int 0)))) .nil)))))) .nil) .nil)
        [feed cs i l (n + 1), .dat (.int m), .dat (.int 5), .dead, .dead] = .nx [feed cs i l (n + 1), .dat (.int m), .dat (.int c), .dead, .dead] := by
      rcases hc with ⟨e, rfl⟩ | ⟨e, hc⟩
      · subst e
        simp [feed, slot, storeT, getS, putS, atI_0, atI_1, atI_2, atI_3, E.pure, Es.pure, P.pure, isLive, isLst, binD, D.view, viewL_dats, D.own, D.ntr, cmpNe_nil, fits, cmpV, cmpD, D.viewL, shaped_nil, PyData.eqv, PyData.eqvAll]
      · have ne : cs.isEmpty = false := by cases cs <;> first | exact absurd rfl e | rfl
        have lz : (cs.length : Int) ≠ 0 := by have := List.length_pos_iff.mpr e; omega
        have lz' : cs ≠ [] := e
        simp [feed, slot, storeT, getS, putS, atI_0, atI_1, atI_2, atI_3, E.pure, Es.pure, P.pure, isLive, isLst, binD, D.view, viewL_dats, D.own, D.ntr, cmpNe_nil, fits, ne, biV, Bi.makes, D.viewL, biD, lenD, lz, lz', hc, -List.map_map, -Option.map_map]
    have fm : ∀ (a b : Int), 0 < b → b < 2 ^ 40 → 0 ≤ a.fmod b ∧ (a.fmod b).natAbs < 2 ^ 40 := fun a b h1 h2 => by
      have := Int.fmod_nonneg_of_pos a h1
      have := Int.fmod_lt_of_pos a h1
      omega
    have lenF : ∀ x : Int, biV .len [.tr (.list (cs.map PyData.int))] = some (.dat (.int (cs.length : Int))) := fun _ => by simp [biV, Bi.makes, D.viewL, D.view, biD, lenD]
    simp only [feed] at step
    by_cases h1 : (1000000000000000000 : Int) ≤ c ∧ i + 1 ≤ cs.length
    · refine ⟨i + 1, c.fdiv m, c.fmod m, .dead, ?_, by omega, Int.fdiv_nonneg (by omega) (by omega), Int.fmod_nonneg_of_pos _ hm, Int.fmod_lt_of_pos _ hm⟩
      have h1a := h1.1
      have h1b := h1.2
      simp [feed, d_w_draw, runF, i_w_draw, ↓step, slot, storeT, getS, putS, atI_0, atI_1, atI_2, atI_3, L2.ixN, E.pure, Es.pure, P.pure, isLive, isLst, binD, cmpV, cmpD, D.view, viewL_dats, D.own, D.ntr, outsOf, m0, h0, dm, biV, Bi.makes, D.viewL, biD, lenD, h1a, h1b, -List.map_map, -Option.map_map]
    · obtain ⟨r1, hr1⟩ : ∃ r1 : Int, r1 = ((c.fmod 998244353 + 5003 * (n + 1)) * 69621).fmod 2147483629 := ⟨_, rfl⟩
      obtain ⟨r2, hr2⟩ : ∃ r2 : Int, r2 = ((r1.fdiv 13 + 7919 * (n + 1) * (n + 1)) * 48271).fmod 2147483587 := ⟨_, rfl⟩
      refine ⟨i + 1, l, (r2.fdiv 64).fmod m, .dead, ?_, by omega, hl, Int.fmod_nonneg_of_pos _ hm, Int.fmod_lt_of_pos _ hm⟩
      have k1 := fm c 998244353 (by decide) (by decide)
      have k2 := fm ((c.fmod 998244353 + 5003 * (n + 1)) * 69621) 2147483629 (by decide) (by decide)
      rw [← hr1] at k2
      have k3 : 0 ≤ r1.fdiv 13 ∧ r1.fdiv 13 < 2 ^ 40 := by
        have : r1.fdiv 13 = r1 / 13 := Int.fdiv_eq_ediv_of_nonneg _ (by decide)
        rw [this]
        omega
      have sq : (n + 1) * (n + 1) < 2 ^ 202 := by
        have a : n + 1 ≤ 2 ^ 100 := by omega
        have b : (n + 1) * (n + 1) ≤ 2 ^ 100 * 2 ^ 100 := Int.mul_le_mul a a (by omega) (by decide)
        omega
      have sq0 : 0 ≤ (n + 1) * (n + 1) := Int.mul_nonneg (by omega) (by omega)
      have e79 : 7919 * (n + 1) * (n + 1) = 7919 * ((n + 1) * (n + 1)) := by rw [Int.mul_assoc]
      have q1 : mulOk 5003 (n + 1) = true := mulOk_of (by decide) (by omega)
      have q2 : mulOk (c.fmod 998244353 + 5003 * (n + 1)) 69621 = true := mulOk_of (by omega) (by decide)
      have q3 : mulOk 7919 (n + 1) = true := mulOk_of (by decide) (by omega)
      have q4 : mulOk (7919 * (n + 1)) (n + 1) = true := mulOk_of (by omega) (by omega)
      have q5 : mulOk (r1.fdiv 13 + 7919 * (n + 1) * (n + 1)) 48271 = true := mulOk_of (by rw [e79]; omega) (by decide)
      have d1 : divOk 13 = true := by decide +kernel
      have d2 : divOk 64 = true := by decide +kernel
      have cond : ¬ ((1000000000000000000 : Int) ≤ c) ∨ ¬ (i + 1 ≤ (cs.length : Int)) := by
        by_cases z : (1000000000000000000 : Int) ≤ c
        · exact .inr fun y => h1 ⟨z, y⟩
        · exact .inl z
      rcases cond with z | z <;> (
      by_cases z2 : (1000000000000000000 : Int) ≤ c <;>
      simp [feed, d_w_draw, runF, i_w_draw, ↓step, slot, storeT, getS, putS, atI_0, atI_1, atI_2, atI_3, L2.ixN, E.pure, Es.pure, P.pure, isLive, isLst, binD, cmpV, cmpD, D.view, viewL_dats, D.own, D.ntr, outsOf, m0, h0, dm, biV, Bi.makes, D.viewL, biD, lenD, z, z2, q1, q2, q3, q4, q5, d1, d2, ← hr1, ← hr2, -List.map_map, -Option.map_map])
end DE
end

section
set_option Elab.async false
set_option linter.all false
set_option maxRecDepth 100000
set_option maxHeartbeats 1000000
namespace DE
open PySem
theorem abs_nat (a : Nat) : (if (a : Int) < 0 then -(a : Int) else (a : Int)) = (a : Int) := by rw [if_neg (by omega)]
theorem cut_loop (A B : D) : ∀ (q p : Nat), whileU (evE [] (.cmp .Gt (.var 3) (.cst (.int 0)))) (exSs [] (.cons (.par [2, 3] (.cons (.var 3) (.cons (.bin .Mod (.var 2) (.var 3)) .nil))) .nil)) [A, B, .dat (.int p), .dat (.int q)] = .nx [A, B, .dat (.int (Nat.gcd p q)), .dat (.int 0)] := by
  intro q
  induction q using Nat.strongRecOn with
  | ind q ih =>
    intro p
    by_cases h : q = 0
    · subst h
      rw [whileU_false (ρ1 := [A, B, .dat (.int p), .dat (.int 0)])]
      · simp
      · simp [slot, cmpV, cmpD, D.view, D.ntr]
    · have hq : 0 < q := by omega
      have e : (p : Int).fmod (q : Int) = ((p % q : Nat) : Int) := by
        rw [Int.fmod_eq_emod_of_nonneg _ (by omega)]; omega
      rw [whileU_true (ρ1 := [A, B, .dat (.int p), .dat (.int q)]) (ρ2 := [A, B, .dat (.int q), .dat (.int ((p % q : Nat) : Int))])]
      · rw [ih (p % q) (Nat.mod_lt _ hq) q, Nat.gcd_comm p q, Nat.gcd_rec q p, Nat.gcd_comm q (p % q)]
      · simp [slot, cmpV, cmpD, D.view, D.ntr, hq]
      · simp [slot, storeT.storeL, D.ntr, D.own, D.ownL, binD, h, e]
theorem cut_spec {a b : Nat} (hb : 0 < b) (ha2 : a < 2 ^ 200) (hb2 : b < 2 ^ 200) : d_w_cut [.dat (.int a), .dat (.int b)] = .ret (.dat (.tuple [.int ((a / Nat.gcd a b : Nat) : Int), .int ((b / Nat.gcd a b : Nat) : Int)])) [.dead, .dead] := by
  have g0 : 0 < Nat.gcd a b := Nat.gcd_pos_of_pos_right _ hb
  have g1 : Nat.gcd a b ≤ b := Nat.gcd_le_right _ hb
  have dg : divOk (Nat.gcd a b : Int) = true := divOk_of (by omega) (by omega)
  have lp := cut_loop (.dat (.int a)) (.dat (.int b)) b a
  have n1 : ¬ ((a : Int) < 0) := by omega
  have n2 : ¬ ((b : Int) < 0) := by omega
  have f1 : (a : Int).fdiv (Nat.gcd a b : Int) = ((a / Nat.gcd a b : Nat) : Int) := by rw [Int.fdiv_eq_ediv_of_nonneg _ (by omega)]; rfl
  have f2 : (b : Int).fdiv (Nat.gcd a b : Int) = ((b / Nat.gcd a b : Nat) : Int) := by rw [Int.fdiv_eq_ediv_of_nonneg _ (by omega)]; rfl
  simp [d_w_cut, runF, i_w_cut, ↓lp, slot, storeT, storeT.storeL, D.ntr, D.own, D.ownL, binD, biV, Bi.makes, D.viewL, D.view, biD, absD, n1, n2, cmpV, cmpD, dg, f1, f2, D.fzL, D.fz, fits, outsOf, abs_nat]
end DE
end

section
set_option Elab.async false
set_option linter.all false
set_option maxRecDepth 100000
set_option maxHeartbeats 2000000
namespace DE
open PySem
theorem feed_live (cs : List Int) (i l n : Int) : ∃ xs, feed cs i l n = .lst xs := ⟨_, rfl⟩
theorem feed_own (cs : List Int) (i l n : Int) : (feed cs i l n).own = true := by
  unfold feed
  simp only [D.own, D.ownL, ownL_dats, Bool.and_self]
/-- a draw as an expression; the feed is the first slot -/
theorem drawE {G : List Fn} {c : Nat} (hG : fnAt G c = d_w_draw) {cs : List Int} {i l n m : Int} {me : E} {rest : Env} (hme : evE G me (feed cs i l n :: rest) = .ok (.dat (.int m)) (feed cs i l n :: rest))
    (hm : 0 < m) (hm2 : m ≤ 1048576) (hi : 0 ≤ i) (hl : 0 ≤ l) (hn : 0 ≤ n) (hB : n < 2 ^ 100) :
    ∃ i' l' r : Int, evE G (.call c "_law_draw" false (.ref (.root 0) (.val me .nil))) (feed cs i l n :: rest) = .ok (.dat (.int r)) (feed cs i' l' (n + 1) :: rest) ∧ 0 ≤ i' ∧ 0 ≤ l' ∧ 0 ≤ r ∧ r < m := by
  obtain ⟨i', l', r, o, e, h1, h2, h3, h4⟩ := draw_spec (cs := cs) hm hm2 hi hl hn hB
  refine ⟨i', l', r, ?_, h1, h2, h3, h4⟩
  obtain ⟨xs, ex⟩ := feed_live cs i l n
  have own := feed_own cs i' l' (n + 1)
  rw [ex] at hme e ⊢
  simp [slot, hme, D.ntr, takeAs, getS_nil, hG, e, putBack, own, putS_nil, As.pure, kA2]
/-- a feed's state -/
structure Fd (n : Int) (i l : Int) : Prop where
  i0 : 0 ≤ i
  l0 : 0 ≤ l
  n0 : 0 ≤ n
  n1 : n < 2 ^ 90
theorem drawE' {G : List Fn} {c : Nat} (hG : fnAt G c = d_w_draw) {cs : List Int} {i l n m : Int} {me : E} {rest : Env} (hme : evE G me (feed cs i l n :: rest) = .ok (.dat (.int m)) (feed cs i l n :: rest))
    (hm : 0 < m) (hm2 : m ≤ 1048576) (f : Fd n i l) :
    ∃ i' l' r : Int, evE G (.call c "_law_draw" false (.ref (.root 0) (.val me .nil))) (feed cs i l n :: rest) = .ok (.dat (.int r)) (feed cs i' l' (n + 1) :: rest) ∧ 0 ≤ i' ∧ 0 ≤ l' ∧ 0 ≤ r ∧ r < m :=
  drawE hG hme hm hm2 f.i0 f.l0 f.n0 (by have := f.n1; omega)
/-- two numbers, as a server ahead of its fractions -/
def pr (s : Int × Int) : PyData := .tuple [.int s.1, .int s.2]
noncomputable abbrev GH : List Fn := [d_w_draw, d_w_cut]
theorem heavyI (r : Int) (h0 : 0 ≤ r) (h3 : r < 3) : ∃ h : Int, L2.atI [D.dat (.int 1), .dat (.int 1), .dat (.int 97)] r = some (.dat (.int h)) ∧ 1 ≤ h ∧ h ≤ 97 := by
  have : r = 0 ∨ r = 1 ∨ r = 2 := by omega
  rcases this with e | e | e <;> subst e
  · exact ⟨1, by simp [atI_0], by omega, by omega⟩
  · exact ⟨1, by simp [atI_1], by omega, by omega⟩
  · exact ⟨97, by simp [atI_2], by omega, by omega⟩
theorem restI (r : Int) (h0 : 0 ≤ r) (h3 : r < 3) : ∃ h : Int, L2.atI [D.dat (.int 0), .dat (.int 1), .dat (.int 5)] r = some (.dat (.int h)) ∧ 0 ≤ h ∧ h ≤ 5 := by
  have : r = 0 ∨ r = 1 ∨ r = 2 := by omega
  rcases this with e | e | e <;> subst e
  · exact ⟨0, by simp [atI_0], by omega, by omega⟩
  · exact ⟨1, by simp [atI_1], by omega, by omega⟩
  · exact ⟨5, by simp [atI_2], by omega, by omega⟩
/-- the widest room -/
theorem wideE {cs : List Int} {i l n k : Int} {a b c d : D} {rest : Env} (f : Fd n i l) (hk : 1 ≤ k) (hk4 : k ≤ 4) : ∃ i' l' n' w : Int,
    evE GH (.ife (.and (.cmp .Lt (.var 2) (.cst (.int 3))) (.cmp .Eq (.call 0 "_law_draw" false (.ref (.root 0) (.val (.cst (.int 8)) .nil))) (.cst (.int 0)))) (.cst (.int 6)) (.bin .Sub (.cst (.int 3)) (.bi .int (.cons (.cmp .Gt (.var 2) (.cst (.int 3))) .nil))))
      (feed cs i l n :: a :: .dat (.int k) :: rest) = .ok (.dat (.int w)) (feed cs i' l' n' :: a :: .dat (.int k) :: rest) ∧ 0 ≤ i' ∧ 0 ≤ l' ∧ n ≤ n' ∧ n' ≤ n + 1 ∧ 1 ≤ w ∧ w ≤ 6 := by
  have last : ∀ (F : D), evE GH (.bin .Sub (.cst (.int 3)) (.bi .int (.cons (.cmp .Gt (.var 2) (.cst (.int 3))) .nil))) (F :: a :: .dat (.int k) :: rest) = .ok (.dat (.int (if 3 < k then 2 else 3))) (F :: a :: .dat (.int k) :: rest) := fun F => by
    by_cases z : 3 < k <;> simp [slot, storeT, storeT.storeL, fnAt, D.ntr, D.ntrL, D.own, D.ownL, binD, cmpV, cmpD, D.view, D.viewL, D.fz, D.fzL, E.pure, Es.pure, P.pure, As.pure, fits, biV, Bi.makes, biD, ixV, ixD, atI_0, atI_1, atI_2, atI_3, getS_nil, putS_nil, -List.map_map, -Option.map_map, intD, z]
  by_cases h : k < 3
  · obtain ⟨i', l', r, e, h1, h2, h3, h4⟩ := drawE' (G := GH) (c := 0) rfl (cs := cs) (i := i) (l := l) (n := n) (m := 8) (me := .cst (.int 8)) (rest := a :: .dat (.int k) :: rest) (by simp) (by decide) (by decide) f
    have sh : ∀ z : Int, SeqAt.shaped (.int z) = true := fun z => by simp [SeqAt.shaped, PyData.canLay0, PyData.depth]
    by_cases hr : r = 0
    · subst hr
      exact ⟨i', l', n + 1, 6, by simp [slot, storeT, storeT.storeL, fnAt, D.ntr, D.ntrL, D.own, D.ownL, binD, cmpV, cmpD, D.view, D.viewL, D.fz, D.fzL, E.pure, Es.pure, P.pure, As.pure, fits, biV, Bi.makes, biD, ixV, ixD, atI_0, atI_1, atI_2, atI_3, getS_nil, putS_nil, -List.map_map, -Option.map_map, ↓e, h, ↓last, sh, PyData.eqv, -s_call], h1, h2, by omega, by omega, by omega, by omega⟩
    · exact ⟨i', l', n + 1, (if 3 < k then 2 else 3), by simp [slot, storeT, storeT.storeL, fnAt, D.ntr, D.ntrL, D.own, D.ownL, binD, cmpV, cmpD, D.view, D.viewL, D.fz, D.fzL, E.pure, Es.pure, P.pure, As.pure, fits, biV, Bi.makes, biD, ixV, ixD, atI_0, atI_1, atI_2, atI_3, getS_nil, putS_nil, -List.map_map, -Option.map_map, ↓e, h, ↓last, sh, PyData.eqv, hr, -s_call, -s_bin], h1, h2, by omega, by omega, by split <;> omega, by split <;> omega⟩
  · exact ⟨i, l, n, (if 3 < k then 2 else 3), by simp [slot, storeT, storeT.storeL, fnAt, D.ntr, D.ntrL, D.own, D.ownL, binD, cmpV, cmpD, D.view, D.viewL, D.fz, D.fzL, E.pure, Es.pure, P.pure, As.pure, fits, biV, Bi.makes, biD, ixV, ixD, atI_0, atI_1, atI_2, atI_3, getS_nil, putS_nil, -List.map_map, -Option.map_map, h, ↓last, -s_bin], f.i0, f.l0, by omega, by omega, by split <;> omega, by split <;> omega⟩
end DE
end

section
set_option Elab.async false
set_option linter.all false
set_option maxRecDepth 100000
set_option maxHeartbeats 2000000
namespace DE
open PySem
theorem shaped_int (z : Int) : SeqAt.shaped (.int z) = true := by simp [SeqAt.shaped, PyData.canLay0, PyData.depth]
def bodyH : Ss := (.cons (.asg (.nm 13) (.tup (.cons (.bin .Add (.cst (.int 1)) (.call 0 "_law_draw" false (.ref (.root 0) (.val (.cst (.int 5)) .nil)))) (.cons (.bin .Add (.cst (.int 1)) (.call 0 "_law_draw" false (.ref (.root 0) (.val (.var 6) .nil)))) .nil)))) (.cons (.ex (.pm .append (.root 7) (.cons (.ife (.cmp .Eq (.var 3) (.cst (.int 0))) (.var 4) (.ife (.cmp .Eq (.var 3) (.cst (.int 1))) (.tup (.cons (.ix (.var 4) (.cst (.int 0))) (.cons (.ix (.var 13) (.cst (.int 1))) .nil))) (.var 13))) .nil))) .nil))
def okS (s : Int × Int) : Prop := 1 ≤ s.1 ∧ s.1 ≤ 5 ∧ 1 ≤ s.2 ∧ s.2 ≤ 6
def envH (F M : D) (k way : Int) (first : Int × Int) (h w : Int) (ss : List (Int × Int)) (kd od : D) : Env := [F, M, .dat (.int k), .dat (.int way), .dat (pr first), .dat (.int h), .dat (.int w), .lst (ss.map fun s => .dat (pr s)), kd, .dead, .dead, .dead, .dead, od, .dead, .dead]
theorem stepH {cs : List Int} {i l n k way h w idx : Int} {M : D} {first : Int × Int} {ss : List (Int × Int)} {od : D} (f : Fd n i l) (f1 : n + 5 < 2 ^ 90) (hw : 1 ≤ w) (hw6 : w ≤ 6) (ok1 : okS first) (ls : ss.length < 100) :
    ∃ i' l' s od', exSs GH bodyH (envH (feed cs i l n) M k way first h w ss (.dat (.int idx)) od) = .nx (envH (feed cs i' l' (n + 2)) M k way first h w (ss ++ [s]) (.dat (.int idx)) od') ∧ Fd (n + 2) i' l' ∧ okS s := by
  obtain ⟨i1, l1, r1, e1, a1, a2, a3, a4⟩ := drawE' (G := GH) (c := 0) rfl (cs := cs) (i := i) (l := l) (n := n) (m := 5) (me := .cst (.int 5)) (rest := [M, .dat (.int k), .dat (.int way), .dat (pr first), .dat (.int h), .dat (.int w), .lst (ss.map fun s => .dat (pr s)), .dat (.int idx), .dead, .dead, .dead, .dead, od, .dead, .dead]) (by simp) (by decide) (by decide) f
  have f2 : Fd (n + 1) i1 l1 := ⟨a1, a2, by have := f.n0; omega, by omega⟩
  obtain ⟨i2, l2, r2, e2, b1, b2, b3, b4⟩ := drawE' (G := GH) (c := 0) rfl (cs := cs) (i := i1) (l := l1) (n := n + 1) (m := w) (me := .var 6) (rest := [M, .dat (.int k), .dat (.int way), .dat (pr first), .dat (.int h), .dat (.int w), .lst (ss.map fun s => .dat (pr s)), .dat (.int idx), .dead, .dead, .dead, .dead, od, .dead, .dead]) (by simp [slot]) (by omega) (by omega) f2
  have en : n + 1 + 1 = n + 2 := by omega
  rw [en] at e2
  simp only [pr] at e1 e2
  have lz : ss.length < 16777216 := by omega
  obtain ⟨o1, o2, o3, o4⟩ := ok1
  by_cases w0 : way = 0
  · refine ⟨i2, l2, first, .dat (pr (1 + r1, 1 + r2)), ?_, ⟨b1, b2, by have := f.n0; omega, by omega⟩, o1, o2, o3, o4⟩
    subst w0
    simp [bodyH, envH, ↓e1, ↓e2, slot, storeT, storeT.storeL, fnAt, D.ntr, D.ntrL, D.own, D.ownL, binD, cmpV, cmpD, D.view, D.viewL, D.fz, D.fzL, E.pure, Es.pure, P.pure, As.pure, fits, biV, Bi.makes, biD, ixV, ixD, atI_0, atI_1, atI_2, atI_3, getS_nil, putS_nil, -List.map_map, -Option.map_map, pr, isLst, pmD, shaped_int, PyData.eqv, lz, getS, putS, -s_call]
  · by_cases w1 : way = 1
    · refine ⟨i2, l2, (first.1, 1 + r2), .dat (pr (1 + r1, 1 + r2)), ?_, ⟨b1, b2, by have := f.n0; omega, by omega⟩, o1, o2, by show 1 ≤ 1 + r2; omega, by show 1 + r2 ≤ 6; omega⟩
      subst w1
      simp [bodyH, envH, ↓e1, ↓e2, slot, storeT, storeT.storeL, fnAt, D.ntr, D.ntrL, D.own, D.ownL, binD, cmpV, cmpD, D.view, D.viewL, D.fz, D.fzL, E.pure, Es.pure, P.pure, As.pure, fits, biV, Bi.makes, biD, ixV, ixD, atI_0, atI_1, atI_2, atI_3, getS_nil, putS_nil, -List.map_map, -Option.map_map, pr, isLst, pmD, shaped_int, PyData.eqv, lz, getS, putS, -s_call]
    · refine ⟨i2, l2, (1 + r1, 1 + r2), .dat (pr (1 + r1, 1 + r2)), ?_, ⟨b1, b2, by have := f.n0; omega, by omega⟩, by show 1 ≤ 1 + r1; omega, by show 1 + r1 ≤ 5; omega, by show 1 ≤ 1 + r2; omega, by show 1 + r2 ≤ 6; omega⟩
      simp [bodyH, envH, ↓e1, ↓e2, slot, storeT, storeT.storeL, fnAt, D.ntr, D.ntrL, D.own, D.ownL, binD, cmpV, cmpD, D.view, D.viewL, D.fz, D.fzL, E.pure, Es.pure, P.pure, As.pure, fits, biV, Bi.makes, biD, ixV, ixD, atI_0, atI_1, atI_2, atI_3, getS_nil, putS_nil, -List.map_map, -Option.map_map, pr, isLst, pmD, shaped_int, PyData.eqv, lz, getS, putS, w0, w1, -s_call]
theorem rngL_length (lo : Int) (n : Nat) : (rngL lo n).length = n := by simp [rngL]
theorem loopH {cs : List Int} {i l n k way h w : Int} {M : D} {first : Int × Int} (f : Fd n i l) (f1 : n + 100 < 2 ^ 90) (hk : 1 ≤ k) (hk4 : k ≤ 4) (hw : 1 ≤ w) (hw6 : w ≤ 6) (ok1 : okS first) :
    ∃ i' l' n' ss kd od, forL (.nm 8) (exSs GH bodyH) (rngL 0 k.toNat) (envH (feed cs i l n) M k way first h w [] .dead .dead) = .nx (envH (feed cs i' l' n') M k way first h w ss kd od) ∧ Fd n' i' l' ∧ n' ≤ n + 8 ∧ n ≤ n' ∧ (ss.length : Int) = k ∧ ∀ s ∈ ss, okS s := by
  obtain ⟨ρ', e, i', l', ss, kd, od, rfl, f', ls, oks⟩ := forL_all (t := .nm 8) (b := exSs GH bodyH) (fun j ρ => ∃ i l ss kd od, ρ = envH (feed cs i l (n + 2 * j)) M k way first h w ss kd od ∧ Fd (n + 2 * j) i l ∧ ss.length = j ∧ ∀ s ∈ ss, okS s)
    (rngL 0 k.toNat) 0 (envH (feed cs i l n) M k way first h w [] .dead .dead) ⟨i, l, [], .dead, .dead, by simp, by simpa using f, rfl, by simp⟩ (fun j x ρ hx ⟨i, l, ss, kd, od, e, f, ls, oks⟩ => by
      subst e
      obtain ⟨lj, rfl⟩ := rngL_get hx
      simp only [Nat.zero_add] at *
      obtain ⟨i', l', s, od', e', f', s1⟩ := stepH (cs := cs) (M := M) (k := k) (way := way) (h := h) (w := w) (idx := 0 + (j : Int)) (first := first) (ss := ss) (od := od) f (by omega) hw hw6 ok1 (by omega)
      refine ⟨_, _, by simp [storeT, envH, D.ntr], e', i', l', ss ++ [s], _, od', by rw [show n + 2 * ((j + 1 : Nat) : Int) = n + 2 * (j : Int) + 2 by omega], by rw [show n + 2 * ((j + 1 : Nat) : Int) = n + 2 * (j : Int) + 2 by omega]; exact f', by simp [ls], fun t ht => ?_⟩
      rcases List.mem_append.mp ht with ht | ht
      · exact oks t ht
      · rw [List.mem_singleton.mp ht]; exact s1)
  refine ⟨i', l', _, ss, kd, od, e, f', ?_, by omega, ?_, oks⟩
  · rw [rngL_length]; omega
  · rw [ls, rngL_length]; omega
end DE
end

section
set_option Elab.async false
set_option linter.all false
set_option maxRecDepth 100000
set_option maxHeartbeats 4000000
namespace DE
open PySem
def cutD (a b : Int) : PyData := .tuple [.int ((a.toNat / Nat.gcd a.toNat b.toNat : Nat) : Int), .int ((b.toNat / Nat.gcd a.toNat b.toNat : Nat) : Int)]
def fracOk (p : PyData) : Prop := ∃ x y : Nat, p = .tuple [.int x, .int y] ∧ x < 2 ^ 60 ∧ y < 2 ^ 60
theorem cutI {a b : Int} (ha : 0 ≤ a) (hb : 0 < b) (ha2 : a < 2 ^ 60) (hb2 : b < 2 ^ 60) : d_w_cut [.dat (.int a), .dat (.int b)] = .ret (.dat (cutD a b)) [.dead, .dead] ∧ fracOk (cutD a b) := by
  have ea : ((a.toNat : Nat) : Int) = a := Int.toNat_of_nonneg ha
  have eb : ((b.toNat : Nat) : Int) = b := Int.toNat_of_nonneg (by omega)
  have h := cut_spec (a := a.toNat) (b := b.toNat) (by omega) (by omega) (by omega)
  rw [ea, eb] at h
  refine ⟨h, _, _, rfl, ?_, ?_⟩
  · exact Nat.lt_of_le_of_lt (Nat.div_le_self _ _) (by omega)
  · exact Nat.lt_of_le_of_lt (Nat.div_le_self _ _) (by omega)
theorem intsL_map : ∀ l : List Int, intsL (l.map PyData.int) = some l
  | [] => rfl
  | a :: l => by rw [List.map_cons, intsL, intsL_map l]; rfl
theorem cutE {F : D} {rest : Env} {ea eb : E} {a b : Int} (h1 : evE GH ea (F :: rest) = .ok (.dat (.int a)) (F :: rest)) (h2 : evE GH eb (F :: rest) = .ok (.dat (.int b)) (F :: rest)) (ha : 0 ≤ a) (hb : 0 < b) (ha2 : a < 2 ^ 60) (hb2 : b < 2 ^ 60) :
    evE GH (.call 1 "_law_cut" false (.val ea (.val eb .nil))) (F :: rest) = .ok (.dat (cutD a b)) (F :: rest) := by
  have c := (cutI ha hb ha2 hb2).1
  simp [h1, h2, D.ntr, takeAs, fnAt, c, putBack, As.pure, kA2]
/-- the env behind the loop -/
def envI (F M : D) (k way : Int) (first : D) (h w : Int) (ss : List (Int × Int)) (kd c9 c10 c11 c12 od x y : D) : Env := [F, M, .dat (.int k), .dat (.int way), first, .dat (.int h), .dat (.int w), .lst ((ss.map pr).map .dat), kd, c9, c10, c11, c12, od, x, y]
theorem speedsE {F M first kd c9 c10 c11 c12 od x y : D} {k way h w : Int} {ss : List (Int × Int)} (ls : ss.length < 1000) : evE GH (.comp (.var 14) (.tp [14, 15]) (.ref (.root 7)) .none [14, 15]) (envI F M k way first h w ss kd c9 c10 c11 c12 od x y) = .ok (dl (ss.map fun s => .int s.1)) (envI F M k way first h w ss kd c9 c10 c11 c12 od x y) := by
  have := comp_pure (G := GH) (elt := .var 14) (t := .tp [14, 15]) (it := .ref (.root 7)) (c := .none) (own := [14, 15]) (ρ := envI F M k way first h w ss kd c9 c10 c11 c12 od x y) (ρ1 := (envI F M k way first h w ss kd c9 c10 c11 c12 od x y).set 7 .dead) (ρ3 := envI F M k way first h w ss kd c9 c10 c11 c12 od x y)
    (items := (ss.map pr).map .dat) (w := some (7, .lst ((ss.map pr).map .dat))) (fun _ => true) (fun d => match d with | .dat (.tuple [.int a, _]) => .int a | _ => .none)
    (by simp [envI, slot, getS_nil, dats_dats, -List.map_map]) (fun x hx => by
      obtain ⟨p, hp, rfl⟩ := List.mem_map.mp hx
      obtain ⟨s, hs, rfl⟩ := List.mem_map.mp hp
      refine ⟨_, by simp [storeT, storeT.storeL, envI, wipeE, pr]; rfl, by simp [wipeE, envI], by simp, fun _ => ⟨.dat (.int s.1), by simp [slot, envI, wipeE], by simp [D.fz, pr]⟩⟩)
    (by rw [List.filter_eq_self.mpr (by simp)]; simp [fits]; omega) (by simp [unlock, slot, envI])
  rw [this]
  have e : ((((ss.map pr).map D.dat).filter fun _ => true).map fun d => match d with | .dat (.tuple [.int a, _]) => PyData.int a | _ => .none) = ss.map fun s => .int s.1 := by
    rw [List.filter_eq_self.mpr (by simp)]
    simp [List.map_map, Function.comp_def, pr]
  rw [e]
theorem toldE {F M first kd c9 c10 c12 od x y : D} {k way h w wh : Int} {ss : List (Int × Int)} (ls : ss.length < 1000) (hh : 1 ≤ h ∧ h ≤ 97) (hw : 0 < wh ∧ wh < 2 ^ 50) (ok : ∀ s ∈ ss, okS s) : evE GH (.comp (.tup (.cons (.call 1 "_law_cut" false (.val (.bin .Mult (.var 14) (.var 5)) (.val (.var 11) .nil))) (.cons (.var 15) .nil))) (.tp [14, 15]) (.ref (.root 7)) .none [14, 15]) (envI F M k way first h w ss kd c9 c10 (.dat (.int wh)) c12 od x y) =
    .ok (dl (ss.map fun s => .tuple [cutD (s.1 * h) wh, .int s.2])) (envI F M k way first h w ss kd c9 c10 (.dat (.int wh)) c12 od x y) := by
  have := comp_pure (G := GH) (elt := (.tup (.cons (.call 1 "_law_cut" false (.val (.bin .Mult (.var 14) (.var 5)) (.val (.var 11) .nil))) (.cons (.var 15) .nil)))) (t := .tp [14, 15]) (it := .ref (.root 7)) (c := .none) (own := [14, 15]) (ρ := envI F M k way first h w ss kd c9 c10 (.dat (.int wh)) c12 od x y) (ρ1 := (envI F M k way first h w ss kd c9 c10 (.dat (.int wh)) c12 od x y).set 7 .dead) (ρ3 := envI F M k way first h w ss kd c9 c10 (.dat (.int wh)) c12 od x y)
    (items := (ss.map pr).map .dat) (w := some (7, .lst ((ss.map pr).map .dat))) (fun _ => true) (fun d => match d with | .dat (.tuple [.int a, .int b]) => .tuple [cutD (a * h) wh, .int b] | _ => .none)
    (by simp [envI, slot, getS_nil, dats_dats, -List.map_map]) (fun x hx => by
      obtain ⟨p, hp, rfl⟩ := List.mem_map.mp hx
      obtain ⟨s, hs, rfl⟩ := List.mem_map.mp hp
      obtain ⟨o1, o2, o3, o4⟩ := ok s hs
      have m1 : 1 ≤ s.1 * h := by
        have := Int.mul_le_mul o1 hh.1 (by omega) (by omega)
        omega
      have m2 : s.1 * h ≤ 5 * 97 := Int.mul_le_mul o2 hh.2 (by omega) (by omega)
      have mo : mulOk s.1 h = true := mulOk_of (by omega) (by omega)
      have ce := cutE (F := F) (rest := [M, .dat (.int k), .dat (.int way), first, .dat (.int h), .dat (.int w), .dead, kd, c9, c10, .dat (.int wh), c12, od, .dat (.int s.1), .dat (.int s.2)]) (ea := .bin .Mult (.var 14) (.var 5)) (eb := .var 11) (a := s.1 * h) (b := wh)
        (by simp [slot, binD, mo]) (by simp [slot]) (by omega) hw.1 (by omega) (by omega)
      refine ⟨F :: [M, .dat (.int k), .dat (.int way), first, .dat (.int h), .dat (.int w), .dead, kd, c9, c10, .dat (.int wh), c12, od, .dat (.int s.1), .dat (.int s.2)], by simp [storeT, storeT.storeL, envI, wipeE, pr], by simp [wipeE, envI], by simp, fun _ => ⟨.dat (.tuple [cutD (s.1 * h) wh, .int s.2]), ?_, by simp [D.fz, pr]⟩⟩
      simp [↓ce, slot, D.ntr, D.fzL, D.fz, fits, -s_call])
    (by rw [List.filter_eq_self.mpr (by simp)]; simp [fits]; omega) (by simp [unlock, slot, envI])
  rw [this]
  have e : ((((ss.map pr).map D.dat).filter fun _ => true).map fun d => match d with | .dat (.tuple [.int a, .int b]) => PyData.tuple [cutD (a * h) wh, .int b] | _ => .none) = ss.map fun s => .tuple [cutD (s.1 * h) wh, .int s.2] := by
    rw [List.filter_eq_self.mpr (by simp)]
    simp [List.map_map, Function.comp_def, pr]
  rw [e]
/-- a hall -/
def Hall (d : PyData) : Prop := ∃ (c : PyData) (ss : List (PyData × Int)) (b : Bool), d = .tuple [c, .tuple (ss.map fun s => .tuple [s.1, .int s.2]), .bool b] ∧ fracOk c ∧ 1 ≤ ss.length ∧ ss.length ≤ 4 ∧ ∀ s ∈ ss, fracOk s.1 ∧ 1 ≤ s.2 ∧ s.2 ≤ 6
theorem sum_le : ∀ ss : List (Int × Int), (∀ s ∈ ss, okS s) → (ss.length : Int) ≤ (ss.map (·.1)).sum ∧ (ss.map (·.1)).sum ≤ 5 * ss.length
  | [], _ => by simp
  | s :: ss, h => by
    obtain ⟨o1, o2, _, _⟩ := h s List.mem_cons_self
    have := sum_le ss fun t ht => h t (List.mem_cons_of_mem _ ht)
    simp only [List.map_cons, List.sum_cons, List.length_cons]
    omega
theorem hall_spec {cs : List Int} {i l n : Int} (f : Fd n i l) (f1 : n + 200 < 2 ^ 90) : ∃ i' l' n' hd o, d_w_hall [feed cs i l n, .dat (.int 4)] = .ret (.dat hd) [feed cs i' l' n', o] ∧ Fd n' i' l' ∧ n ≤ n' ∧ n' ≤ n + 40 ∧ Hall hd := by
  have n0 := f.n0
  obtain ⟨i1, l1, r1, e1, a1, a2, a3, a4⟩ := drawE' (G := GH) (c := 0) rfl (cs := cs) (m := 4) (me := .var 1) (rest := [.dat (.int 4), .dead, .dead, .dead, .dead, .dead, .dead, .dead, .dead, .dead, .dead, .dead, .dead, .dead, .dead]) (by simp [slot]) (by decide) (by decide) f
  have g1 : Fd (n + 1) i1 l1 := ⟨a1, a2, by omega, by omega⟩
  obtain ⟨i2, l2, r2, e2, b1, b2, b3, b4⟩ := drawE' (G := GH) (c := 0) rfl (cs := cs) (m := 3) (me := .cst (.int 3)) (rest := [.dat (.int 4), .dat (.int (1 + r1)), .dead, .dead, .dead, .dead, .dead, .dead, .dead, .dead, .dead, .dead, .dead, .dead, .dead]) (by simp) (by decide) (by decide) g1
  have g2 : Fd (n + 1 + 1) i2 l2 := ⟨b1, b2, by omega, by omega⟩
  obtain ⟨i3, l3, r3, e3, c1, c2, c3, c4⟩ := drawE' (G := GH) (c := 0) rfl (cs := cs) (m := 5) (me := .cst (.int 5)) (rest := [.dat (.int 4), .dat (.int (1 + r1)), .dat (.int r2), .dead, .dead, .dead, .dead, .dead, .dead, .dead, .dead, .dead, .dead, .dead, .dead]) (by simp) (by decide) (by decide) g2
  have g3 : Fd (n + 1 + 1 + 1) i3 l3 := ⟨c1, c2, by omega, by omega⟩
  obtain ⟨i4, l4, r4, e4, d1, d2, d3, d4⟩ := drawE' (G := GH) (c := 0) rfl (cs := cs) (m := 3) (me := .cst (.int 3)) (rest := [.dat (.int 4), .dat (.int (1 + r1)), .dat (.int r2), .dead, .dead, .dead, .dead, .dead, .dead, .dead, .dead, .dead, .dead, .dead, .dead]) (by simp) (by decide) (by decide) g3
  have g4 : Fd (n + 1 + 1 + 1 + 1) i4 l4 := ⟨d1, d2, by omega, by omega⟩
  have okf : okS (1 + r3, 1 + r4) := ⟨by show 1 ≤ 1 + r3; omega, by show 1 + r3 ≤ 5; omega, by show 1 ≤ 1 + r4; omega, by show 1 + r4 ≤ 6; omega⟩
  obtain ⟨i5, l5, r5, e5, p1, p2, p3, p4⟩ := drawE' (G := GH) (c := 0) rfl (cs := cs) (m := 3) (me := .cst (.int 3)) (rest := [.dat (.int 4), .dat (.int (1 + r1)), .dat (.int r2), .dat (pr (1 + r3, 1 + r4)), .dead, .dead, .dead, .dead, .dead, .dead, .dead, .dead, .dead, .dead, .dead]) (by simp) (by decide) (by decide) g4
  have g5 : Fd (n + 1 + 1 + 1 + 1 + 1) i5 l5 := ⟨p1, p2, by omega, by omega⟩
  obtain ⟨h, eh, h1, h97⟩ := heavyI r5 p3 p4
  obtain ⟨i6, l6, n6, w, e6, q1, q2, q3, q4, w1, w6⟩ := wideE (cs := cs) (k := 1 + r1) (a := .dat (.int 4)) (b := .dead) (c := .dead) (d := .dead) (rest := [.dat (.int r2), .dat (pr (1 + r3, 1 + r4)), .dat (.int h), .dead, .dead, .dead, .dead, .dead, .dead, .dead, .dead, .dead, .dead]) g5 (by omega) (by omega)
  have g6 : Fd n6 i6 l6 := ⟨q1, q2, by omega, by omega⟩
  obtain ⟨i7, l7, n7, ss, kd, od, e7, g7, n7b, n7a, ls, oks⟩ := loopH (cs := cs) (M := .dat (.int 4)) (k := 1 + r1) (way := r2) (h := h) (w := w) (first := (1 + r3, 1 + r4)) g6 (by omega) (by omega) (by omega) w1 w6 okf
  have ml : (ss.map fun s => D.dat (pr s)) = (ss.map pr).map .dat := by rw [List.map_map]; rfl
  obtain ⟨i8, l8, r8, e8, s1, s2, s3, s4⟩ := drawE' (G := GH) (c := 0) rfl (cs := cs) (m := 7) (me := .cst (.int 7)) (rest := [.dat (.int 4), .dat (.int (1 + r1)), .dat (.int r2), .dat (pr (1 + r3, 1 + r4)), .dat (.int h), .dat (.int w), .lst ((ss.map pr).map .dat), kd, .dead, .dead, .dead, .dead, od, .dead, .dead]) (by simp) (by decide) (by decide) g7
  have n7c : n ≤ n7 := by omega
  have g8 : Fd (n7 + 1) i8 l8 := ⟨s1, s2, by omega, by omega⟩
  obtain ⟨i9, l9, r9, e9, t1, t2, t3, t4⟩ := drawE' (G := GH) (c := 0) rfl (cs := cs) (m := 3) (me := .cst (.int 3)) (rest := [.dat (.int 4), .dat (.int (1 + r1)), .dat (.int r2), .dat (pr (1 + r3, 1 + r4)), .dat (.int h), .dat (.int w), .lst ((ss.map pr).map .dat), kd, .dat (.int (1 + r8)), .dead, .dead, .dead, od, .dead, .dead]) (by simp) (by decide) (by decide) g8
  have g9 : Fd (n7 + 1 + 1) i9 l9 := ⟨t1, t2, by omega, by omega⟩
  obtain ⟨rs, er, rs0, rs5⟩ := restI r9 t3 t4
  obtain ⟨sm1, sm2⟩ := sum_le ss oks
  have lss : ss.length ≤ 4 := by omega
  obtain ⟨wh, hwh⟩ : ∃ wh : Int, wh = (1 + r8 + (ss.map (·.1)).sum) * h + rs := ⟨_, rfl⟩
  have wb : 1 ≤ (1 + r8 + (ss.map (·.1)).sum) * h := by
    have : (1 : Int) * 1 ≤ (1 + r8 + (ss.map (·.1)).sum) * h := Int.mul_le_mul (by omega) h1 (by omega) (by omega)
    omega
  have wb2 : (1 + r8 + (ss.map (·.1)).sum) * h ≤ 27 * 97 := Int.mul_le_mul (by omega) h97 (by omega) (by omega)
  have cb : 1 ≤ (1 + r8) * h := by
    have : (1 : Int) * 1 ≤ (1 + r8) * h := Int.mul_le_mul (by omega) h1 (by omega) (by omega)
    omega
  have cb2 : (1 + r8) * h ≤ 7 * 97 := Int.mul_le_mul (by omega) h97 (by omega) (by omega)
  have mo1 : mulOk (1 + r8 + (ss.map (·.1)).sum) h = true := mulOk_of (by omega) (by omega)
  have mo2 : mulOk (1 + r8) h = true := mulOk_of (by omega) (by omega)
  have sp := speedsE (F := feed cs i9 l9 (n7 + 1 + 1)) (M := .dat (.int 4)) (first := .dat (pr (1 + r3, 1 + r4))) (kd := kd) (c9 := .dat (.int (1 + r8))) (c10 := .dat (.int rs)) (c11 := .dead) (c12 := .dead) (od := od) (x := .dead) (y := .dead) (k := 1 + r1) (way := r2) (h := h) (w := w) (ss := ss) (by omega)
  have td := toldE (F := feed cs i9 l9 (n7 + 1 + 1)) (M := .dat (.int 4)) (first := .dat (pr (1 + r3, 1 + r4))) (kd := kd) (c9 := .dat (.int (1 + r8))) (c10 := .dat (.int rs)) (c12 := .dead) (od := od) (x := .dead) (y := .dead) (k := 1 + r1) (way := r2) (h := h) (w := w) (wh := wh) (ss := ss) (by omega) ⟨h1, h97⟩ ⟨by omega, by omega⟩ oks
  have ce := cutE (F := feed cs i9 l9 (n7 + 1 + 1)) (rest := [.dat (.int 4), .dat (.int (1 + r1)), .dat (.int r2), .dat (pr (1 + r3, 1 + r4)), .dat (.int h), .dat (.int w), .lst ((ss.map pr).map .dat), kd, .dat (.int (1 + r8)), .dat (.int rs), .dat (.int wh), .dat (.tuple (ss.map fun s => .tuple [cutD (s.1 * h) wh, .int s.2])), od, .dead, .dead]) (ea := .bin .Mult (.var 9) (.var 5)) (eb := .var 11) (a := (1 + r8) * h) (b := wh) (by simp [slot, binD, mo2]) (by simp [slot]) (by omega) (by omega) (by omega) (by omega)
  obtain ⟨i10, l10, r10, e10, u1, u2, u3, u4⟩ := drawE' (G := GH) (c := 0) rfl (cs := cs) (m := 3) (me := .cst (.int 3)) (rest := [.dat (.int 4), .dat (.int (1 + r1)), .dat (.int r2), .dat (pr (1 + r3, 1 + r4)), .dat (.int h), .dat (.int w), .lst ((ss.map pr).map .dat), kd, .dat (.int (1 + r8)), .dat (.int rs), .dat (.int wh), .dat (.tuple (ss.map fun s => .tuple [cutD (s.1 * h) wh, .int s.2])), od, .dead, .dead]) (by simp) (by decide) (by decide) g9
  refine ⟨i10, l10, n7 + 1 + 1 + 1, .tuple [cutD ((1 + r8) * h) wh, .tuple (ss.map fun s => .tuple [cutD (s.1 * h) wh, .int s.2]), .bool (decide (r10 = 0))], .dead, ?_, ⟨u1, u2, by omega, by omega⟩, by omega, by omega, ?_⟩
  · simp only [envH, envI, ml, List.map_nil, bodyH] at e7 sp td
    have k1 : rngOk (1 + r1) = true := by unfold rngOk; simp; omega
    have own7 : D.ownL ((cs.map PyData.int).map D.dat) = true := ownL_dats _
    have sm : sumD [.list (ss.map fun s => PyData.int s.1)] = some (.int (ss.map (·.1)).sum) := by
      have e : (ss.map fun s => PyData.int s.1) = (ss.map (·.1)).map PyData.int := by rw [List.map_map]; rfl
      rw [e, sumD, intsL_map]; rfl
    simp only [pr] at e5 e6 e7 e8 e9 e10 sp td ce
    subst hwh
    have lz : ss.length ≤ 16777216 := by omega
    have dl1 : D.viewL ((ss.map fun s => PyData.int s.1).map D.dat) = some (ss.map fun s => PyData.int s.1) := viewL_dats _
    have dl2 : D.fzL ((ss.map fun s => PyData.tuple [cutD (s.1 * h) ((1 + r8 + (ss.map (·.1)).sum) * h + rs), .int s.2]).map D.dat) = some (ss.map fun s => PyData.tuple [cutD (s.1 * h) ((1 + r8 + (ss.map (·.1)).sum) * h + rs), .int s.2]) := fzL_dats _
    simp [d_w_hall, i_w_hall, runF, ↓e1, ↓e2, ↓e3, ↓e4, ↓e5, ↓e6, ↓e7, ↓e8, ↓e9, ↓e10, ↓sp, ↓td, ↓ce, eh, er, k1, mo1, sm, dl1, dl2, tupleD, biF, shaped_int, PyData.eqv, outsOf, slot, storeT, storeT.storeL, fnAt, D.ntr, D.ntrL, D.own, D.ownL, binD, cmpV, cmpD, D.view, D.viewL, D.fz, D.fzL, E.pure, Es.pure, P.pure, As.pure, fits, biV, Bi.makes, biD, ixV, ixD, atI_0, atI_1, atI_2, atI_3, getS_nil, putS_nil, -List.map_map, -Option.map_map, -s_call, -s_comp]
    by_cases z : r10 = 0 <;> simp [z]
  · refine ⟨_, ss.map fun s => (cutD (s.1 * h) wh, s.2), _, by rw [List.map_map]; rfl, (cutI (by omega) (by omega) (by omega) (by omega)).2, by simp; omega, by simp; omega, fun t ht => ?_⟩
    obtain ⟨s, hs, rfl⟩ := List.mem_map.mp ht
    obtain ⟨o1, o2, o3, o4⟩ := oks s hs
    have m1 : 1 ≤ s.1 * h := by
      have := Int.mul_le_mul o1 h1 (by omega) (by omega)
      omega
    have m2 : s.1 * h ≤ 5 * 97 := Int.mul_le_mul o2 h97 (by omega) (by omega)
    exact ⟨(cutI (by omega) (by omega) (by omega) (by omega)).2, o3, o4⟩
end DE
end

section
set_option Elab.async false
set_option linter.all false
set_option maxRecDepth 100000
set_option maxHeartbeats 4000000
namespace DE
open PySem
/-! counting through lines -/
def linesH : List Int → List (List Int)
  | [] => [[]]
  | r :: rs => (List.range (r + 1).toNat).flatMap fun (m : Nat) => (linesH rs).map ((m : Int) :: ·)
def linesF (found : List (List Int)) : List Int → List (List Int)
  | [] => found
  | r :: rs => linesF (found.flatMap fun l => (List.range (r + 1).toNat).map fun (k : Nat) => l ++ [(k : Int)]) rs
theorem linesF_eq : ∀ (rs : List Int) (found : List (List Int)), linesF found rs = found.flatMap fun l => (linesH rs).map (l ++ ·)
  | [], found => by simp [linesF, linesH]
  | r :: rs, found => by
    rw [linesF, linesF_eq rs]
    simp [linesH, List.flatMap_assoc, List.map_flatMap, List.flatMap_map, List.append_assoc, Function.comp_def]
inductive Tr {α : Type} (f : α → Option α) : Option α → List α → Option α → Prop
  | nil {o : Option α} : Tr f o [] o
  | cons {a : α} {l : List α} {e : Option α} : Tr f (f a) l e → Tr f (some a) (a :: l) e
theorem Tr.append {α : Type} {f : α → Option α} : ∀ {o o1 o2 : Option α} {l1 l2 : List α}, Tr f o l1 o1 → Tr f o1 l2 o2 → Tr f o (l1 ++ l2) o2
  | _, _, _, _, _, .nil, h => h
  | _, _, _, _, _, .cons t, h => .cons (Tr.append t h)
theorem Tr.map {f g : List Int → Option (List Int)} {m : Int} {e : Option (List Int)} (hg : ∀ x, g (m :: x) = match f x with | some y => some (m :: y) | none => e) : ∀ {o : Option (List Int)} {l : List (List Int)}, Tr f o l none → Tr g (match o with | some y => some (m :: y) | none => e) (l.map (m :: ·)) e
  | _, _, .nil => .nil
  | _, _, .cons (a := a) t => by
    have := Tr.map hg t
    rw [← hg a] at this
    exact .cons this
def nextL : List Int → List Int → Option (List Int)
  | x :: xs, r :: rs => match nextL xs rs with
    | some ys => some (x :: ys)
    | none => if x < r then some ((x + 1) :: rs.map fun _ => 0) else none
  | _, _ => none
theorem tr_lines : ∀ rs : List Int, (∀ r ∈ rs, 0 ≤ r) → Tr (nextL · rs) (some (rs.map fun _ => 0)) (linesH rs) none
  | [], _ => .cons (by simp only [nextL]; exact .nil)
  | r :: rs, h => by
    have ih := tr_lines rs fun r hr => h r (List.mem_cons_of_mem _ hr)
    have r0 := h r List.mem_cons_self
    have block : ∀ m : Int, Tr (nextL · (r :: rs)) (some (m :: rs.map fun _ => 0)) ((linesH rs).map (m :: ·)) (if m < r then some ((m + 1) :: rs.map fun _ => 0) else none) := fun m =>
      Tr.map (f := (nextL · rs)) (g := (nextL · (r :: rs))) (e := if m < r then some ((m + 1) :: rs.map fun _ => 0) else none) (fun x => rfl) ih
    have upto : ∀ k : Nat, (k : Int) ≤ r → Tr (nextL · (r :: rs)) (some (0 :: rs.map fun _ => 0)) ((List.range (k + 1)).flatMap fun (m : Nat) => (linesH rs).map ((m : Int) :: ·)) (if (k : Int) < r then some (((k : Int) + 1) :: rs.map fun _ => 0) else none) := fun k => by
      induction k with
      | zero => intro _; simpa using block 0
      | succ k ihk =>
        intro hk
        have a := ihk (by omega)
        rw [if_pos (by omega)] at a
        rw [List.range_succ, List.flatMap_append]
        refine a.append ?_
        have b := block ((k : Int) + 1)
        simpa using b
    have u := upto r.toNat (by omega)
    rw [if_neg (by omega)] at u
    have e : (r + 1).toNat = r.toNat + 1 := by omega
    rw [linesH, e]
    exact u
theorem nextL_none : ∀ (b d : List Int), b.length = d.length → (∀ (i : Nat) (x r : Int), b[i]? = some x → d[i]? = some r → ¬ x < r) → nextL b d = none
  | [], [], _, _ => by simp [nextL]
  | [], _ :: _, h, _ => by simp at h
  | _ :: _, [], h, _ => by simp at h
  | x :: b, r :: d, h, hm => by
    rw [nextL, nextL_none b d (by simpa using h) fun i x r h1 h2 => hm (i + 1) x r (by simpa using h1) (by simpa using h2)]
    simp only
    rw [if_neg (hm 0 x r rfl rfl)]
theorem nextL_hit : ∀ (a c b d : List Int) (x r : Int), a.length = c.length → b.length = d.length → (∀ (i : Nat) (x r : Int), b[i]? = some x → d[i]? = some r → ¬ x < r) → x < r → nextL (a ++ x :: b) (c ++ r :: d) = some (a ++ (x + 1) :: d.map fun _ => 0)
  | [], [], b, d, x, r, _, hl, hm, hx => by
    simp only [List.nil_append]
    rw [nextL, nextL_none b d hl hm]
    simp only
    rw [if_pos hx]
  | [], _ :: _, _, _, _, _, h, _, _, _ => by simp at h
  | _ :: _, [], _, _, _, _, h, _, _, _ => by simp at h
  | y :: a, s :: c, b, d, x, r, h, hl, hm, hx => by
    simp only [List.cons_append]
    rw [nextL, nextL_hit a c b d x r (by simpa using h) hl hm hx]
theorem linesH_len : ∀ (rs : List Int) (l : List Int), l ∈ linesH rs → l.length = rs.length
  | [], l, h => by simp only [linesH, List.mem_singleton] at h; subst h; rfl
  | r :: rs, l, h => by
    simp only [linesH, List.mem_flatMap, List.mem_map] at h
    obtain ⟨m, _, y, hy, rfl⟩ := h
    simp [linesH_len rs y hy]
theorem linesH_bd : ∀ (rs : List Int) (l : List Int), l ∈ linesH rs → ∀ x ∈ l, 0 ≤ x ∧ x < 2 ^ 64 ∨ ¬ (∀ r ∈ rs, r < 2 ^ 60)
  | [], l, h, x, hx => by simp only [linesH, List.mem_singleton] at h; subst h; simp at hx
  | r :: rs, l, h, x, hx => by
    simp only [linesH, List.mem_flatMap, List.mem_map, List.mem_range] at h
    obtain ⟨m, hm, y, hy, rfl⟩ := h
    rcases List.mem_cons.mp hx with e | hx
    · by_cases z : r < 2 ^ 60
      · left; omega
      · right; intro z2; exact z (z2 r List.mem_cons_self)
    · rcases linesH_bd rs y hy x hx with z | z
      · exact .inl z
      · exact .inr fun z2 => z fun r hr => z2 r (List.mem_cons_of_mem _ hr)
theorem linesH_count : ∀ rs : List Int, (∀ r ∈ rs, 0 ≤ r ∧ r ≤ 6) → (linesH rs).length ≤ 7 ^ rs.length
  | [], _ => by simp [linesH]
  | r :: rs, h => by
    have ih := linesH_count rs fun r hr => h r (List.mem_cons_of_mem _ hr)
    obtain ⟨h0, h6⟩ := h r List.mem_cons_self
    have : ∀ n : Nat, ((List.range n).flatMap fun (m : Nat) => (linesH rs).map ((m : Int) :: ·)).length = n * (linesH rs).length := fun n => by
      induction n with
      | zero => simp
      | succ n ih => rw [List.range_succ, List.flatMap_append, List.length_append, ih]; simp; rw [Nat.add_mul, Nat.one_mul]
    rw [linesH, this, List.length_cons, Nat.pow_succ, Nat.mul_comm (7 ^ rs.length)]
    exact Nat.mul_le_mul (by omega) ih
end DE
end

section
set_option Elab.async false
set_option linter.all false
set_option maxRecDepth 100000
set_option maxHeartbeats 4000000
namespace DE
open PySem
def lineP (l : List Int) : PyData := .tuple (l.map PyData.int)
def hallP (c : PyData) (ss : List (PyData × Int)) (b : Bool) : PyData := .tuple [c, .tuple (ss.map fun s => .tuple [s.1, .int s.2]), .bool b]
theorem ix1 {G : List Fn} {c : PyData} {ss : List (PyData × Int)} {b : Bool} {i : Nat} {ρ : Env} (h : slot ρ i = .dat (hallP c ss b)) : evE G (.ix (.var i) (.cst (.int 1))) ρ = .ok (.dat (.tuple (ss.map fun s => .tuple [s.1, .int s.2]))) ρ := by
  simp [h, hallP, D.ntr, ixV, ixD, atI_1]
/-- the inner comprehension of all_lines -/
theorem longerE {hd f sp x4 x6 : D} {l : List Int} {r : Int} (hr : 0 ≤ r) (hr6 : r ≤ 6) (hl : l.length ≤ 100) : evE [] (.comp (.bin .Add (.var 5) (.tup (.cons (.var 6) .nil))) (.nm 6) (.rng1 (.bin .Add (.var 3) (.cst (.int 1)))) .none [6]) [hd, f, sp, .dat (.int r), x4, .dat (lineP l), x6] =
    .ok (dl ((List.range (r + 1).toNat).map fun (k : Nat) => lineP (l ++ [(k : Int)]))) [hd, f, sp, .dat (.int r), x4, .dat (lineP l), x6] := by
  have k1 : rngOk (r + 1) = true := by unfold rngOk; simp; omega
  have := comp_pure (G := []) (elt := (.bin .Add (.var 5) (.tup (.cons (.var 6) .nil)))) (t := .nm 6) (it := .rng1 (.bin .Add (.var 3) (.cst (.int 1)))) (c := .none) (own := [6]) (ρ := [hd, f, sp, .dat (.int r), x4, .dat (lineP l), x6]) (ρ1 := [hd, f, sp, .dat (.int r), x4, .dat (lineP l), x6]) (ρ3 := [hd, f, sp, .dat (.int r), x4, .dat (lineP l), x6])
    (items := rngL 0 (r + 1).toNat) (w := none) (fun _ => true) (fun d => match d with | .dat (.int k) => lineP (l ++ [k]) | _ => .none)
    (by simp [slot, binD, k1]) (fun x hx => by
      obtain ⟨j, hj⟩ := List.getElem?_of_mem hx
      obtain ⟨_, rfl⟩ := rngL_get hj
      have fl : l.length + 1 ≤ 16777216 := by omega
      refine ⟨[hd, f, sp, .dat (.int r), x4, .dat (lineP l), .dat (.int (0 + (j : Int)))], by simp [storeT, wipeE, D.ntr], by simp [wipeE], by simp, fun _ => ⟨.dat (lineP (l ++ [0 + (j : Int)])), ?_, by simp [D.fz]⟩⟩
      simp [slot, D.ntr, D.fzL, D.fz, fits, lineP, binD, fl])
    (by rw [List.filter_eq_self.mpr (by simp)]; simp [fits, rngL]; omega) (by simp [unlock])
  rw [this]
  have e : (((rngL 0 (r + 1).toNat).filter fun _ => true).map fun d => match d with | .dat (.int k) => lineP (l ++ [k]) | _ => PyData.none) = (List.range (r + 1).toNat).map fun (k : Nat) => lineP (l ++ [(k : Int)]) := by
    rw [List.filter_eq_self.mpr (by simp)]
    simp [rngL, List.map_map, Function.comp_def]
  rw [e]
def bodyA2 : Ss := (.cons (.ex (.pm .extend (.root 4) (.cons (.comp (.bin .Add (.var 5) (.tup (.cons (.var 6) .nil))) (.nm 6) (.rng1 (.bin .Add (.var 3) (.cst (.int 1)))) .none [6]) .nil))) .nil)
theorem innerA {hd sp x5 : D} {r : Int} {found : List (List Int)} (hr : 0 ≤ r) (hr6 : r ≤ 6) (hl : ∀ l ∈ found, l.length ≤ 100) (hf : found.length ≤ 100000) :
    ∃ x5', forL (.nm 5) (exSs [] bodyA2) ((found.map lineP).map .dat) [hd, .dead, sp, .dat (.int r), .lst [], x5, .dead] = .nx [hd, .dead, sp, .dat (.int r), .lst ((((found.flatMap fun l => (List.range (r + 1).toNat).map fun (k : Nat) => l ++ [(k : Int)])).map lineP).map .dat), x5', .dead] := by
  obtain ⟨ρ', e, x5', rfl⟩ := forL_all (t := .nm 5) (b := exSs [] bodyA2) (fun j ρ => ∃ x5', ρ = [hd, .dead, sp, .dat (.int r), .lst (((((found.take j).flatMap fun l => (List.range (r + 1).toNat).map fun (k : Nat) => l ++ [(k : Int)])).map lineP).map .dat), x5', .dead])
    ((found.map lineP).map .dat) 0 [hd, .dead, sp, .dat (.int r), .lst [], x5, .dead] ⟨x5, by simp⟩ (fun j x ρ hx ⟨x5', e⟩ => by
      subst e
      simp only [Nat.zero_add] at *
      have hx' : ∃ l, found[j]? = some l ∧ x = .dat (lineP l) := by
        rw [List.getElem?_map, List.getElem?_map] at hx
        cases hl : found[j]? with
        | none => rw [hl] at hx; cases hx
        | some l => rw [hl] at hx; cases hx; exact ⟨l, rfl, rfl⟩
      obtain ⟨l, hl', rfl⟩ := hx'
      have lm : l ∈ found := List.mem_of_getElem? hl'
      have lj : j < found.length := (List.getElem?_eq_some_iff.mp hl').1
      have tk : found.take (j + 1) = found.take j ++ [l] := by
        rw [List.take_succ, hl']; rfl
      have ce := longerE (hd := hd) (f := .dead) (sp := sp) (x4 := .lst (((((found.take j).flatMap fun l => (List.range (r + 1).toNat).map fun (k : Nat) => l ++ [(k : Int)])).map lineP).map .dat)) (x6 := .dead) (l := l) (r := r) hr hr6 (hl l lm)
      have bound : ∀ m : List (List Int), ((m.flatMap fun l => (List.range (r + 1).toNat).map fun (k : Nat) => l ++ [(k : Int)])).length = m.length * (r + 1).toNat := fun m => by
        induction m with
        | nil => simp
        | cons a m ih => rw [List.flatMap_cons, List.length_append, ih]; simp; rw [Nat.add_mul, Nat.one_mul, Nat.add_comm]
      have fz : fits ((((((found.take j).flatMap fun l => (List.range (r + 1).toNat).map fun (k : Nat) => l ++ [(k : Int)])).map lineP).map D.dat).length + ((((List.range (r + 1).toNat).map fun (k : Nat) => lineP (l ++ [(k : Int)]))).map D.dat).length) = true := by
        unfold fits
        refine decide_eq_true ?_
        simp only [List.length_map, bound, List.length_range, List.length_take]
        have h1 : min j found.length * (r + 1).toNat ≤ 100000 * 7 := Nat.mul_le_mul (by omega) (by omega)
        omega
      have ow : D.ownL ((((List.range (r + 1).toNat).map fun (k : Nat) => lineP (l ++ [(k : Int)]))).map D.dat) = true := ownL_dats _
      refine ⟨[hd, .dead, sp, .dat (.int r), .lst (((((found.take j).flatMap fun l => (List.range (r + 1).toNat).map fun (k : Nat) => l ++ [(k : Int)])).map lineP).map .dat), .dat (lineP l), .dead], _, by simp [storeT, D.ntr], ?_, .dat (lineP l), rfl⟩
      rw [tk]
      simp only [List.flatMap_append, List.map_append, List.flatMap_cons, List.flatMap_nil, List.append_nil]
      simp [bodyA2, ↓ce, slot, isLst, getS_nil, D.ntr, D.ntrL, ntrL_dats, pmD, fz, ow, putS_nil, dl, Function.comp_def, -s_comp, -List.map_map, -List.length_map]
      simp [List.map_map, Function.comp_def])
  exact ⟨x5', by rw [e]; simp⟩
theorem linesF_snoc : ∀ (rs : List Int) (r : Int) (found : List (List Int)), linesF found (rs ++ [r]) = (linesF found rs).flatMap fun l => (List.range (r + 1).toNat).map fun (k : Nat) => l ++ [(k : Int)]
  | [], r, found => rfl
  | a :: rs, r, found => by rw [List.cons_append, linesF, linesF, linesF_snoc rs r]
theorem linesF_nil (rs : List Int) : linesF [[]] rs = linesH rs := by rw [linesF_eq]; simp
theorem seven (k : Nat) (h : k ≤ 4) : 7 ^ k ≤ 2401 := by
  have : k = 0 ∨ k = 1 ∨ k = 2 ∨ k = 3 ∨ k = 4 := by omega
  rcases this with e | e | e | e | e <;> subst e <;> decide
theorem unl_nx (w : Option (Nat × D)) (ρ : Env) : (SR.nx ρ).unlock w = (match unlock w ρ with | some ρ' => .nx ρ' | none => .no) := rfl
theorem unl_rt (w : Option (Nat × D)) (d : D) (ρ : Env) : (SR.rt d ρ).unlock w = (match unlock w ρ with | some ρ' => .rt d ρ' | none => .no) := rfl
def bodyA1 : Ss := (.cons (.asg (.nm 4) (.lst .nil)) (.cons (.fors (.nm 5) (.ref (.root 1)) bodyA2) (.cons (.asg (.nm 1) (.mv 4)) .nil)))
theorem linesOwn (ls : List (List Int)) : D.ownL ((ls.map lineP).map .dat) = true := ownL_dats _
theorem linesDats (ls : List (List Int)) : D.dats ((ls.map lineP).map .dat) = some (ls.map lineP) := dats_dats _
theorem outerA {hd : D} {ss : List (PyData × Int)} (ok : ∀ s ∈ ss, 0 ≤ s.2 ∧ s.2 ≤ 6) (ls : ss.length ≤ 4) :
    ∃ a b x5, forL (.tp [2, 3]) (exSs [] bodyA1) ((ss.map fun s => PyData.tuple [s.1, .int s.2]).map .dat) [hd, .lst [.dat (.tuple [])], .dead, .dead, .dead, .dead, .dead] = .nx [hd, .lst (((linesH (ss.map (·.2))).map lineP).map .dat), a, b, .dead, x5, .dead] := by
  obtain ⟨ρ', e, a, b, x5', rfl⟩ := forL_all (t := .tp [2, 3]) (b := exSs [] bodyA1) (fun j ρ => ∃ a b x5, ρ = [hd, .lst (((linesF [[]] ((ss.take j).map (·.2))).map lineP).map .dat), a, b, .dead, x5, .dead])
    ((ss.map fun s => PyData.tuple [s.1, .int s.2]).map .dat) 0 [hd, .lst [.dat (.tuple [])], .dead, .dead, .dead, .dead, .dead] ⟨.dead, .dead, .dead, by simp [linesF, lineP]⟩ (fun j x ρ hx ⟨a, b, x5, e⟩ => by
      subst e
      simp only [Nat.zero_add] at *
      have hx' : ∃ s, ss[j]? = some s ∧ x = .dat (.tuple [s.1, .int s.2]) := by
        rw [List.getElem?_map, List.getElem?_map] at hx
        cases hl : ss[j]? with
        | none => rw [hl] at hx; cases hx
        | some l => rw [hl] at hx; cases hx; exact ⟨l, rfl, rfl⟩
      obtain ⟨s, hs, rfl⟩ := hx'
      have sm : s ∈ ss := List.mem_of_getElem? hs
      obtain ⟨s0, s6⟩ := ok s sm
      have tk : (ss.take (j + 1)).map (·.2) = (ss.take j).map (·.2) ++ [s.2] := by
        rw [List.take_succ, hs]; simp
      have lenl : ∀ l ∈ linesF [[]] ((ss.take j).map (·.2)), l.length ≤ 100 := fun l hl => by
        rw [linesF_nil] at hl
        have := linesH_len _ l hl
        simp at this; omega
      have cnt : (linesF [[]] ((ss.take j).map (·.2))).length ≤ 100000 := by
        rw [linesF_nil]
        have h1 := linesH_count ((ss.take j).map (·.2)) (fun r hr => by
          obtain ⟨t, ht, rfl⟩ := List.mem_map.mp hr
          exact ok t (List.mem_of_mem_take ht))
        have h2 := seven ((ss.take j).map (·.2)).length (by simp; omega)
        omega
      obtain ⟨x5', ie⟩ := innerA (hd := hd) (sp := .dat s.1) (x5 := x5) (r := s.2) (found := linesF [[]] ((ss.take j).map (·.2))) s0 s6 lenl cnt
      refine ⟨[hd, .lst (((linesF [[]] ((ss.take j).map (·.2))).map lineP).map .dat), .dat s.1, .dat (.int s.2), .dead, x5, .dead], _, by simp [storeT, storeT.storeL], ?_, .dat s.1, .dat (.int s.2), x5', rfl⟩
      rw [tk, linesF_snoc]
      have nl : ((T.nm 5).slots ++ bodyA2.asgs).contains 1 = false := by decide
      simp only [bodyA1, x_cons, x_asg, s_lst, s_nil, bind_ok, kLst_eq, fits, List.length_nil, Nat.zero_le, decide_true, if_true, sbind_ok, kAsg_eq, D.own, D.ownL]
      simp [kFor_some, ↓ie, unl_nx, unlock, nl, slot, getS_nil, linesDats, storeT, D.ntr, D.ntrL, D.own, D.ownL, fits, linesOwn, ntrL_dats, -List.map_map, -List.map_take, -List.contains_eq_mem])
  exact ⟨a, b, x5', by rw [e]; simp [linesF_nil]⟩
end DE
end

section
set_option Elab.async false
set_option linter.all false
set_option maxRecDepth 100000
set_option maxHeartbeats 4000000
namespace DE
open PySem
def RoomOk (ss : List (PyData × Int)) : Prop := ss.length ≤ 4 ∧ ∀ s ∈ ss, 0 ≤ s.2 ∧ s.2 ≤ 6
theorem all_lines_spec {c : PyData} {ss : List (PyData × Int)} {b : Bool} (ok : RoomOk ss) : d_p_all_lines [.dat (hallP c ss b)] = .ret (.lst (((linesH (ss.map (·.2))).map lineP).map .dat)) [.dead] := by
  obtain ⟨a, e, x5, oe⟩ := outerA (hd := .dat (hallP c ss b)) ok.2 ok.1
  have h1 := ix1 (G := []) (c := c) (ss := ss) (b := b) (i := 0) (ρ := [.dat (hallP c ss b), .lst [.dat (.tuple [])], .dead, .dead, .dead, .dead, .dead]) rfl
  simp only [bodyA1, bodyA2] at oe
  simp [d_p_all_lines, runF, i_p_all_lines, ↓h1, ↓oe, slot, storeT, D.ntr, D.ntrL, D.own, D.ownL, D.fzL, fits, itemsV, itemsD, linesOwn, outsOf, -List.map_map, -s_ix]
/-! the next line -/
theorem set_mid {α : Type} (a : List α) (x y : α) (b : List α) : (a ++ x :: b).set a.length y = a ++ y :: b := by
  rw [List.set_append_right _ _ (Nat.le_refl _), Nat.sub_self]; rfl
theorem getS_mid {xs : List D} {k : Nat} {d : D} (h : xs[k]? = some d) : getS (.lst xs) [(k : Int)] = some d := by
  have l : k < xs.length := (List.getElem?_eq_some_iff.mp h).1
  have e : L2.atI xs (k : Int) = some d := by rw [atI_nn (by omega) (by omega)]; simpa using h
  simp only [getS, e]
  try (cases d <;> rfl)
def bodyN : Ss := (.cons (.ifs (.cmp .Lt (.rd (.idx (.root 2) (.var 3))) (.ix (.ix (.ix (.var 0) (.cst (.int 1))) (.var 3)) (.cst (.int 1)))) (.cons (.set (.root 2) (.var 3) (.bin .Add (.rd (.idx (.root 2) (.var 3))) (.cst (.int 1)))) (.cons (.ret (.bi .tuple (.cons (.mv 2) .nil))) .nil)) .nil) (.cons (.set (.root 2) (.var 3) (.cst (.int 0))) .nil))
/-- one turn, at place k -/
theorem turnN {c : PyData} {ss : List (PyData × Int)} {b : Bool} {lp : D} {pre post : List Int} {x : Int} {s : PyData × Int} (hs : ss[pre.length]? = some s) :
    exSs [] bodyN [.dat (hallP c ss b), lp, .lst (((pre ++ x :: post).map PyData.int).map .dat), .dat (.int (pre.length : Int))] =
      if x < s.2 then .rt (.dat (lineP (pre ++ (x + 1) :: post))) [.dat (hallP c ss b), lp, .dead, .dat (.int (pre.length : Int))] else .nx [.dat (hallP c ss b), lp, .lst (((pre ++ 0 :: post).map PyData.int).map .dat), .dat (.int (pre.length : Int))] := by
  have g1 : (((pre ++ x :: post).map PyData.int).map D.dat)[pre.length]? = some (.dat (.int x)) := by simp
  have g2 := getS_mid g1
  have hl : pre.length < ss.length := (List.getElem?_eq_some_iff.mp hs).1
  have i1 := ix1 (G := []) (c := c) (ss := ss) (b := b) (i := 0) (ρ := [.dat (hallP c ss b), lp, .lst (((pre ++ x :: post).map PyData.int).map .dat), .dat (.int (pre.length : Int))]) rfl
  have i2 : L2.atI (ss.map fun s => PyData.tuple [s.1, .int s.2]) (pre.length : Int) = some (.tuple [s.1, .int s.2]) := by
    rw [atI_nn (by omega) (by simp; omega)]
    simp [hs]
  have nx : L2.ixN (((pre ++ x :: post).map PyData.int).map D.dat).length (pre.length : Int) = some pre.length := by
    rw [ixN_nn (by omega) (by simp; omega)]; simp
  have st : ∀ y : Int, ((((pre ++ x :: post).map PyData.int).map D.dat).set pre.length (.dat (.int y))) = ((pre ++ y :: post).map PyData.int).map D.dat := fun y => by
    simp only [List.map_append, List.map_cons]
    have := set_mid ((pre.map PyData.int).map D.dat) (.dat (.int x)) (.dat (.int y)) ((post.map PyData.int).map D.dat)
    simpa using this
  have fz := fun y : Int => fzL_dats ((pre ++ y :: post).map PyData.int)
  by_cases h : x < s.2
  · rw [if_pos h]
    simp [bodyN, slot, ↓i1, g2, isLive, ixV, ixD, i2, atI_1, D.ntr, D.own, E.pure, P.pure, binD, cmpV, cmpD, D.view, h, nx, st, getS_nil, putS_nil, biV, Bi.makes, D.fzL, D.fz, biF, tupleD, fz, lineP, ntrL_dats, Es.pure, -List.map_append, -List.map_map, -List.length_map, -List.map_cons]
  · rw [if_neg h]
    simp [bodyN, slot, ↓i1, g2, isLive, ixV, ixD, i2, atI_1, D.ntr, D.own, E.pure, P.pure, binD, cmpV, cmpD, D.view, h, nx, st, getS_nil, putS_nil, -List.map_append, -List.map_map, -List.length_map, -List.map_cons]
def optP : Option (List Int) → PyData
  | none => .none
  | some l => lineP l
theorem zmap (rs : List Int) (n : Nat) : (rs.drop n).map (fun _ => (0 : Int)) = List.replicate (rs.length - n) 0 := by
  rw [List.map_const', List.length_drop]
theorem loopN {c : PyData} {ss : List (PyData × Int)} {b : Bool} {xs : List Int} (hl : xs.length = ss.length) :
    (∃ ρ', forL (.nm 3) (exSs [] bodyN) (rrngL xs.length) [.dat (hallP c ss b), .dat (lineP xs), .lst ((xs.map PyData.int).map .dat), .dead] = .nx ρ' ∧ nextL xs (ss.map (·.2)) = none ∧ ∃ f kd, ρ' = [.dat (hallP c ss b), .dat (lineP xs), f, kd]) ∨
    (∃ l kd, forL (.nm 3) (exSs [] bodyN) (rrngL xs.length) [.dat (hallP c ss b), .dat (lineP xs), .lst ((xs.map PyData.int).map .dat), .dead] = .rt (.dat (lineP l)) [.dat (hallP c ss b), .dat (lineP xs), .dead, kd] ∧ nextL xs (ss.map (·.2)) = some l) := by
  have loop := forL_upto (t := .nm 3) (b := exSs [] bodyN)
    (fun i ρ => i ≤ xs.length ∧ (∃ kd, ρ = [.dat (hallP c ss b), .dat (lineP xs), .lst (((xs.take (xs.length - i) ++ List.replicate i 0).map PyData.int).map .dat), kd]) ∧ ∀ (j : Nat) (x r : Int), (xs.drop (xs.length - i))[j]? = some x → ((ss.map (·.2)).drop (xs.length - i))[j]? = some r → ¬ x < r)
    (fun d ρ => ∃ l, nextL xs (ss.map (·.2)) = some l ∧ d = .dat (lineP l) ∧ ∃ kd, ρ = [.dat (hallP c ss b), .dat (lineP xs), .dead, kd])
    (rrngL xs.length) 0 [.dat (hallP c ss b), .dat (lineP xs), .lst ((xs.map PyData.int).map .dat), .dead] ⟨Nat.zero_le _, ⟨.dead, by simp⟩, fun j x r h => by simp at h⟩ (fun i y ρ hy ⟨hi, ⟨kd, e⟩, hm⟩ => by
      subst e
      simp only [Nat.zero_add] at *
      have hi' : i < xs.length ∧ y = .dat (.int ((xs.length : Int) - 1 - (i : Int))) := by
        unfold rrngL at hy
        rw [List.getElem?_map] at hy
        obtain ⟨k, e1, e2⟩ := Option.map_eq_some_iff.mp hy
        have z : i < xs.length := by
          by_cases z : i < xs.length
          · exact z
          · rw [List.getElem?_eq_none (by simpa using z)] at e1; cases e1
        rw [List.getElem?_range z] at e1
        cases e1
        exact ⟨z, e2.symm⟩
      obtain ⟨hi', rfl⟩ := hi'
      -- the place
      obtain ⟨k, hk⟩ : ∃ k, k = xs.length - 1 - i := ⟨_, rfl⟩
      have ek : xs.length - i = k + 1 := by omega
      have kx : k < xs.length := by omega
      have ks : k < ss.length := by omega
      have ei : ((xs.length : Int) - 1 - (i : Int)) = (k : Int) := by omega
      have pl : (xs.take k).length = k := by simp; omega
      have sp : xs.take (xs.length - i) ++ List.replicate i 0 = xs.take k ++ xs[k] :: List.replicate i 0 := by
        rw [ek, List.take_succ, List.getElem?_eq_getElem kx, List.append_assoc]; rfl
      have hs : ss[(xs.take k).length]? = some ss[k] := by rw [pl]; exact List.getElem?_eq_getElem ks
      have tn := turnN (c := c) (ss := ss) (b := b) (lp := .dat (lineP xs)) (pre := xs.take k) (post := List.replicate i 0) (x := xs[k]) hs
      rw [pl] at tn
      refine ⟨[.dat (hallP c ss b), .dat (lineP xs), .lst (((xs.take k ++ xs[k] :: List.replicate i 0).map PyData.int).map .dat), .dat (.int (k : Int))], by rw [sp, ei]; simp [storeT, D.ntr], ?_⟩
      rw [tn]
      have dx : xs.drop k = xs[k] :: xs.drop (k + 1) := List.drop_eq_getElem_cons kx
      have ds : (ss.map (·.2)).drop k = ss[k].2 :: (ss.map (·.2)).drop (k + 1) := by
        rw [List.drop_eq_getElem_cons (by simpa using ks)]; simp
      rw [ek] at hm
      by_cases lt : xs[k] < ss[k].2
      · rw [if_pos lt]
        refine .inr ⟨_, _, rfl, xs.take k ++ (xs[k] + 1) :: List.replicate i 0, ?_, rfl, _, rfl⟩
        have h := nextL_hit (xs.take k) ((ss.map (·.2)).take k) (xs.drop (k + 1)) ((ss.map (·.2)).drop (k + 1)) xs[k] ss[k].2 (by simp; omega) (by simp; omega) hm lt
        rw [← dx, ← ds, List.take_append_drop, List.take_append_drop, zmap] at h
        rw [h]
        have : (ss.map (·.2)).length - (k + 1) = i := by simp; omega
        rw [this]
      · rw [if_neg lt]
        refine .inl ⟨_, rfl, by omega, ⟨.dat (.int (k : Int)), ?_⟩, ?_⟩
        · have : xs.length - (i + 1) = k := by omega
          rw [this]
          have : List.replicate (i + 1) (0 : Int) = 0 :: List.replicate i 0 := rfl
          rw [this]
        · have : xs.length - (i + 1) = k := by omega
          rw [this, dx, ds]
          intro j x r h1 h2
          cases j with
          | zero =>
            rw [List.getElem?_cons_zero] at h1 h2
            cases h1; cases h2; exact lt
          | succ j =>
            rw [List.getElem?_cons_succ] at h1 h2
            exact hm j x r h1 h2)
  rcases loop with ⟨ρ', e, hi, ⟨kd, rfl⟩, hm⟩ | ⟨d, ρ', e, l, hn, rfl, kd, rfl⟩
  · refine .inl ⟨_, e, nextL_none _ _ (by simpa using hl) fun j x r h1 h2 => ?_, _, _, rfl⟩
    have z : xs.length - (0 + (rrngL xs.length).length) = 0 := by simp [rrngL]
    rw [z] at hm
    exact hm j x r h1 h2
  · exact .inr ⟨l, kd, e, hn⟩
theorem rngOk_small {j : Int} (h : 0 ≤ j) (h2 : j ≤ 1000000) : rngOk j = true := by
  unfold rngOk; simp; omega
theorem next_spec {c : PyData} {ss : List (PyData × Int)} {b : Bool} {xs : List Int} (hl : xs.length = ss.length) (h4 : ss.length ≤ 4) : d_w_next [.dat (hallP c ss b), .dat (lineP xs)] = .ret (.dat (optP (nextL xs (ss.map (·.2))))) [.dead, .dead] := by
  have loop := loopN (c := c) (b := b) hl
  have fx := fzL_dats (xs.map PyData.int)
  have k1 : rngOk (xs.length : Int) = true := rngOk_small (by omega) (by omega)
  have s1 : exS [] (.asg (.nm 2) (.bi .list (.cons (.var 1) .nil))) [.dat (hallP c ss b), .dat (lineP xs), .dead, .dead] = .nx [.dat (hallP c ss b), .dat (lineP xs), .lst ((xs.map PyData.int).map .dat), .dead] := by
    simp [slot, storeT, D.ntr, D.ntrL, D.own, biV, Bi.makes, D.fzL, D.fz, biF, listD, lineP, dl, ownL_dats, ntrL_dats, Es.pure, -List.map_map]
  have s2 : evI [] (.rrng1 (.bi .len (.cons (.bp (.root 2)) .nil))) [.dat (hallP c ss b), .dat (lineP xs), .lst ((xs.map PyData.int).map .dat), .dead] = .ok (rrngL xs.length, none) [.dat (hallP c ss b), .dat (lineP xs), .lst ((xs.map PyData.int).map .dat), .dead] := by
    have a : evE [] (.bi .len (.cons (.bp (.root 2)) .nil)) [.dat (hallP c ss b), .dat (lineP xs), .lst ((xs.map PyData.int).map .dat), .dead] = .ok (.dat (.int (xs.length : Int))) [.dat (hallP c ss b), .dat (lineP xs), .lst ((xs.map PyData.int).map .dat), .dead] := by
      simp [slot, getS_nil, D.view, viewL_dats, D.ntr, Es.pure, biV, Bi.makes, D.viewL, biD, lenD, -List.map_map]
    rw [s_rrng1, a, bind_ok, kRrng1_int, if_pos k1, Int.toNat_natCast]
  have body : exSs [] i_w_next.body [.dat (hallP c ss b), .dat (lineP xs), .dead, .dead] = ((forL (.nm 3) (exSs [] bodyN) (rrngL xs.length) [.dat (hallP c ss b), .dat (lineP xs), .lst ((xs.map PyData.int).map .dat), .dead]).bind (exSs [] (.cons (.ret (.cst .none)) .nil))) := by
    show exSs [] (.cons (.asg (.nm 2) (.bi .list (.cons (.var 1) .nil))) (.cons (.fors (.nm 3) (.rrng1 (.bi .len (.cons (.bp (.root 2)) .nil))) bodyN) (.cons (.ret (.cst .none)) .nil))) _ = _
    rw [x_cons, s1, nx_bind, x_cons, x_for, s2, sbind_ok, kFor_none]
  have run : d_w_next [.dat (hallP c ss b), .dat (lineP xs)] = match exSs [] i_w_next.body [.dat (hallP c ss b), .dat (lineP xs), .dead, .dead] with
      | .rt d ρ => .ret d (outsOf [false, false] ρ)
      | .nx ρ => .ret (.dat .none) (outsOf [false, false] ρ)
      | .ex x ρ => .ex x (outsOf [false, false] ρ)
      | .no => .no := rfl
  rw [run, body]
  rcases loop with ⟨ρ', e, hnone, f, kd, rfl⟩ | ⟨l, kd, e, hn⟩
  · rw [e, hnone, nx_bind]
    simp [D.own, optP, outsOf]
  · rw [e, hn, rt_bind]
    simp [optP, outsOf]
end DE
end

section
set_option Elab.async false
set_option linter.all false
set_option maxRecDepth 100000
set_option maxHeartbeats 4000000
namespace DE
open PySem
theorem feed_spec (ns : List Int) (h : ns.length ≤ 63) : d_w_feed [.dat (.list (ns.map .int))] = .ret (feed ns 0 0 0) [.dead] := by
  have c : cutL (ns.map PyData.int) none (some 63) = ns.map PyData.int := by
    unfold cutL
    have h1 : HT.sIx (ns.map PyData.int).length 0 none = 0 := rfl
    have h2 : HT.sIx (ns.map PyData.int).length (ns.map PyData.int).length (some 63) = ns.length := by
      have := HT.sIx_nat (ns.map PyData.int).length (ns.map PyData.int).length 63
      simp at this ⊢
      rw [this]; omega
    rw [h1, h2, List.drop_zero, Nat.sub_zero]
    exact List.take_of_length_le (by simp)
  have f1 := fzL_dats (ns.map PyData.int)
  simp [d_w_feed, runF, i_w_feed, slot, D.ntr, D.ntrL, D.own, D.ownL, slV, D.fz, c, dl, biV, Bi.makes, D.fzL, f1, biF, listD, fits, feed, outsOf, ntrL_dats, ownL_dats, Es.pure, -List.map_map]
/-- a list of numbers below n, as it was drawn -/
def bodyS : Ss := (.cons (.ex (.pm .append (.root 3) (.cons (.pm .popAt (.root 2) (.cons (.call 0 "_law_draw" false (.ref (.root 0) (.val (.bi .len (.cons (.bp (.root 2)) .nil)) .nil))) .nil)) .nil))) .nil)
theorem stepS {cs : List Int} {i l n : Int} {sm kd : D} {left found : List Int} (f : Fd n i l) (f1 : n + 2 < 2 ^ 90) (h0 : 0 < left.length) (h1 : left.length ≤ 1000) (h2 : found.length ≤ 1000) :
    ∃ (i' l' : Int) (j : Nat) (hj : j < left.length), exSs [d_w_draw] bodyS [feed cs i l n, sm, .lst ((left.map PyData.int).map .dat), .lst ((found.map PyData.int).map .dat), kd] =
      .nx [feed cs i' l' (n + 1), sm, .lst (((left.eraseIdx j).map PyData.int).map .dat), .lst (((found ++ [left[j]]).map PyData.int).map .dat), kd] ∧ Fd (n + 1) i' l' := by
  have me : evE [d_w_draw] (.bi .len (.cons (.bp (.root 2)) .nil)) [feed cs i l n, sm, .lst ((left.map PyData.int).map .dat), .lst ((found.map PyData.int).map .dat), kd] = .ok (.dat (.int (left.length : Int))) [feed cs i l n, sm, .lst ((left.map PyData.int).map .dat), .lst ((found.map PyData.int).map .dat), kd] := by
    simp [slot, getS_nil, D.view, viewL_dats, D.ntr, Es.pure, biV, Bi.makes, D.viewL, biD, lenD, -List.map_map]
  obtain ⟨i', l', r, e, a1, a2, a3, a4⟩ := drawE' (G := [d_w_draw]) (c := 0) rfl (cs := cs) (rest := [sm, .lst ((left.map PyData.int).map .dat), .lst ((found.map PyData.int).map .dat), kd]) me (by omega) (by omega) f
  have hj : r.toNat < left.length := by omega
  refine ⟨i', l', r.toNat, hj, ?_, ⟨a1, a2, by have := f.n0; omega, by omega⟩⟩
  have ix : L2.ixN ((left.map PyData.int).map D.dat).length r = some r.toNat := ixN_nn a3 (by simp; omega)
  have g : ((left.map PyData.int).map D.dat)[r.toNat]? = some (.dat (.int left[r.toNat])) := by simp [List.getElem?_eq_getElem hj]
  have er : ((left.map PyData.int).map D.dat).eraseIdx r.toNat = ((left.eraseIdx r.toNat).map PyData.int).map D.dat := by simp only [List.eraseIdx_eq_take_drop_succ, List.map_append, List.map_take, List.map_drop]
  have pop : pmD .popAt ((left.map PyData.int).map D.dat) [.dat (.int r)] = some (((left.eraseIdx r.toNat).map PyData.int).map D.dat, .dat (.int left[r.toNat])) := by
    have c1 : decide (-(2 ^ 63) ≤ r) = true := decide_eq_true (by omega)
    have c2 : decide (r < 2 ^ 63) = true := decide_eq_true (by omega)
    simp only [pmD, c1, c2, Bool.and_self, if_true, ix, Option.bind_some, g, Option.map_some, er]
  have app : pmD .append ((found.map PyData.int).map D.dat) [.dat (.int left[r.toNat])] = some (((found ++ [left[r.toNat]]).map PyData.int).map D.dat, .dat .none) := by
    have c1 : ((found.map PyData.int).map D.dat).length < 16777216 := by simp; omega
    simp only [pmD, c1, decide_true, if_true, D.own]
    simp
  simp [bodyS, ↓e, slot, isLst, getS_nil, putS_nil, D.ntr, Es.pure, pop, app, -s_call, -List.map_map, -List.map_append]
theorem loopS {cs : List Int} {i l n : Int} {sm : D} {left : List Int} (f : Fd n i l) (f1 : n + 2000 < 2 ^ 90) (h1 : left.length ≤ 1000) :
    ∃ (i' l' : Int) (found : List Int) (kd : D), forL (.nm 4) (exSs [d_w_draw] bodyS) (rngL 0 left.length) [feed cs i l n, sm, .lst ((left.map PyData.int).map .dat), .lst [], .dead] = .nx [feed cs i' l' (n + left.length), sm, .lst [], .lst ((found.map PyData.int).map .dat), kd] ∧ Fd (n + left.length) i' l' ∧ found.length = left.length ∧ ∀ x ∈ found, x ∈ left := by
  obtain ⟨ρ', e, i', l', lf, fd, kd, rfl, f', e1, e2, m1, m2⟩ := forL_all (t := .nm 4) (b := exSs [d_w_draw] bodyS) (fun j ρ => ∃ i l lf fd kd, ρ = [feed cs i l (n + j), sm, .lst ((lf.map PyData.int).map .dat), .lst ((fd.map PyData.int).map .dat), kd] ∧ Fd (n + j) i l ∧ lf.length + j = left.length ∧ fd.length = j ∧ (∀ x ∈ lf, x ∈ left) ∧ ∀ x ∈ fd, x ∈ left)
    (rngL 0 left.length) 0 [feed cs i l n, sm, .lst ((left.map PyData.int).map .dat), .lst [], .dead] ⟨i, l, left, [], .dead, by simp, by simpa using f, by simp, rfl, fun x h => h, by simp⟩ (fun j x ρ hx ⟨i, l, lf, fd, kd, e, f, e1, e2, m1, m2⟩ => by
      subst e
      obtain ⟨lj, rfl⟩ := rngL_get hx
      simp only [Nat.zero_add] at *
      obtain ⟨i', l', k, hk, es, f'⟩ := stepS (cs := cs) (sm := sm) (kd := .dat (.int (0 + (j : Int)))) (left := lf) (found := fd) f (by omega) (by omega) (by omega) (by omega)
      have en : n + (j : Int) + 1 = n + ((j + 1 : Nat) : Int) := by omega
      rw [en] at es f'
      refine ⟨_, _, by simp [storeT, D.ntr], es, i', l', lf.eraseIdx k, fd ++ [lf[k]], _, rfl, f', by rw [List.length_eraseIdx_of_lt hk]; omega, by simp [e2], fun x hx => m1 x (List.mem_of_mem_eraseIdx hx), fun x hx => ?_⟩
      rcases List.mem_append.mp hx with hx | hx
      · exact m2 x hx
      · rw [List.mem_singleton.mp hx]; exact m1 _ (List.getElem_mem _))
  rw [rngL_length] at *
  have z : lf = [] := List.eq_nil_of_length_eq_zero (by omega)
  subst z
  exact ⟨i', l', fd, kd, by rw [e]; simp, by simpa using f', by omega, m2⟩
theorem shuffled_spec {cs : List Int} {i l n : Int} {left : List Int} (f : Fd n i l) (f1 : n + 2000 < 2 ^ 90) (h1 : left.length ≤ 1000) :
    ∃ (i' l' : Int) (found : List Int), d_w_shuffled [feed cs i l n, .dat (.list (left.map .int))] = .ret (.lst ((found.map PyData.int).map .dat)) [feed cs i' l' (n + left.length), .dead] ∧ Fd (n + left.length) i' l' ∧ found.length = left.length ∧ ∀ x ∈ found, x ∈ left := by
  obtain ⟨i', l', found, kd, e, f', e1, m⟩ := loopS (cs := cs) (sm := .dat (.list (left.map .int))) f f1 h1
  refine ⟨i', l', found, ?_, f', e1, m⟩
  have k1 : rngOk (left.length : Int) = true := rngOk_small (by omega) (by omega)
  have s1 : exS [d_w_draw] (.asg (.nm 2) (.bi .list (.cons (.var 1) .nil))) [feed cs i l n, .dat (.list (left.map .int)), .dead, .dead, .dead] = .nx [feed cs i l n, .dat (.list (left.map .int)), .lst ((left.map PyData.int).map .dat), .dead, .dead] := by
    simp [slot, storeT, D.ntr, D.ntrL, D.own, biV, Bi.makes, D.fzL, D.fz, biF, listD, dl, ownL_dats, ntrL_dats, Es.pure, -List.map_map]
  have s2 : exS [d_w_draw] (.asg (.nm 3) (.lst .nil)) [feed cs i l n, .dat (.list (left.map .int)), .lst ((left.map PyData.int).map .dat), .dead, .dead] = .nx [feed cs i l n, .dat (.list (left.map .int)), .lst ((left.map PyData.int).map .dat), .lst [], .dead] := by
    simp [storeT, D.ntr, D.ntrL, D.own, D.ownL, fits, -List.map_map]
  have a : evE [d_w_draw] (.bi .len (.cons (.bp (.root 2)) .nil)) [feed cs i l n, .dat (.list (left.map .int)), .lst ((left.map PyData.int).map .dat), .lst [], .dead] = .ok (.dat (.int (left.length : Int))) [feed cs i l n, .dat (.list (left.map .int)), .lst ((left.map PyData.int).map .dat), .lst [], .dead] := by
    simp [slot, getS_nil, D.view, viewL_dats, D.ntr, Es.pure, biV, Bi.makes, D.viewL, biD, lenD, -List.map_map]
  have body : exSs [d_w_draw] i_w_shuffled.body [feed cs i l n, .dat (.list (left.map .int)), .dead, .dead, .dead] = .rt (.lst ((found.map PyData.int).map .dat)) [feed cs i' l' (n + left.length), .dat (.list (left.map .int)), .lst [], .dead, kd] := by
    show exSs [d_w_draw] (.cons (.asg (.nm 2) (.bi .list (.cons (.var 1) .nil))) (.cons (.asg (.nm 3) (.lst .nil)) (.cons (.fors (.nm 4) (.rng1 (.bi .len (.cons (.bp (.root 2)) .nil))) bodyS) (.cons (.ret (.mv 3)) .nil)))) _ = _
    rw [x_cons, s1, nx_bind, x_cons, s2, nx_bind, x_cons, x_for, s_rng1, a, bind_ok, kRng1_int, if_pos k1, sbind_ok, kFor_none, Int.toNat_natCast, e, nx_bind]
    simp [slot, D.own, ownL_dats, -List.map_map]
  have run : d_w_shuffled [feed cs i l n, .dat (.list (left.map .int))] = match exSs [d_w_draw] i_w_shuffled.body [feed cs i l n, .dat (.list (left.map .int)), .dead, .dead, .dead] with
      | .rt d ρ => .ret d (outsOf [true, false] ρ)
      | .nx ρ => .ret (.dat .none) (outsOf [true, false] ρ)
      | .ex x ρ => .ex x (outsOf [true, false] ρ)
      | .no => .no := rfl
  rw [run, body]
  rfl
end DE
end

section
set_option Elab.async false
set_option linter.all false
set_option maxRecDepth 100000
set_option maxHeartbeats 4000000
namespace DE
open PySem
def srvP (s : PyData × Int) : PyData := .tuple [s.1, .int s.2]
def okSrv (s : PyData × Int) : Prop := fracOk s.1 ∧ 1 ≤ s.2 ∧ s.2 ≤ 6
theorem fracR {p : PyData} (h : fracOk p) : rOk p = true ∧ wid p = 69 ∧ p.depth ≤ 1 ∧ p.canLay0 = true := by
  obtain ⟨x, y, rfl, hx, hy⟩ := h
  refine ⟨?_, by simp [wid, widL], by simp [PyData.depth, PyData.depthAll], by simp [PyData.canLay0, PyData.canLayAll0]⟩
  simp [rOk, rOkL]
  omega
theorem srvR {s : PyData × Int} (h : okSrv s) : rOk (srvP s) = true ∧ wid (srvP s) = 107 ∧ (srvP s).depth ≤ 2 ∧ (srvP s).canLay0 = true := by
  obtain ⟨h1, h2, h3⟩ := h
  obtain ⟨r, w, d, l⟩ := fracR h1
  refine ⟨by simp [srvP, rOk, rOkL, r]; omega, by simp [srvP, wid, widL, w], ?_, by simp [srvP, PyData.canLay0, PyData.canLayAll0, l]⟩
  simp [srvP, PyData.depth, PyData.depthAll]
  omega
theorem srvsR : ∀ {sv : List PyData}, (∀ d ∈ sv, rOk d = true ∧ wid d = 107 ∧ d.depth ≤ 2 ∧ d.canLay0 = true) → rOkL sv = true ∧ widL sv = 109 * sv.length ∧ PyData.depthAll sv ≤ 2 ∧ PyData.canLayAll0 sv = true
  | [], _ => by simp [rOkL, widL, PyData.depthAll, PyData.canLayAll0]
  | d :: sv, h => by
    obtain ⟨a, b, c, e⟩ := h d List.mem_cons_self
    obtain ⟨a2, b2, c2, e2⟩ := srvsR fun d hd => h d (List.mem_cons_of_mem _ hd)
    refine ⟨by simp [rOkL, a, a2], by simp [widL, b, b2]; omega, ?_, by simp [PyData.canLayAll0, e, e2]⟩
    simp [PyData.depthAll]
    omega
/-- three things: a fraction, servers, a truth -/
def tri (c : PyData) (sv : List PyData) (b : Bool) : PyData := .tuple [c, .tuple sv, .bool b]
theorem triR {c : PyData} {sv : List PyData} {b : Bool} (hc : fracOk c) (hs : ∀ d ∈ sv, rOk d = true ∧ wid d = 107 ∧ d.depth ≤ 2 ∧ d.canLay0 = true) (hl : sv.length ≤ 4) : rOk (tri c sv b) = true ∧ biD .repr [tri c sv b] = some (.str (tri c sv b).shown) := by
  obtain ⟨r, w, d, l⟩ := fracR hc
  obtain ⟨a, b2, c2, e⟩ := srvsR hs
  have ro : rOk (tri c sv b) = true := by simp [tri, rOk, rOkL, r, a]
  refine ⟨ro, repr_val ro ?_ ?_⟩
  · simp [tri, PyData.depth, PyData.depthAll]
    omega
  · simp [tri, wid, widL, w, b2]
    omega
theorem lineR {l : List Int} (h : ∀ x ∈ l, 0 ≤ x ∧ x < 2 ^ 64) (hl : l.length ≤ 4) : rOk (lineP l) = true ∧ biD .repr [lineP l] = some (.str (lineP l).shown) := by
  have a : ∀ l : List Int, (∀ x ∈ l, 0 ≤ x ∧ x < 2 ^ 64) → rOkL (l.map .int) = true ∧ widL (l.map .int) = 33 * l.length ∧ PyData.depthAll (l.map .int) = 0 := fun l => by
    induction l with
    | nil => intro _; simp [rOkL, widL, PyData.depthAll]
    | cons x l ih =>
      intro h
      obtain ⟨p, q, r⟩ := ih fun x hx => h x (List.mem_cons_of_mem _ hx)
      have := h x List.mem_cons_self
      refine ⟨by simp [rOkL, rOk, p]; omega, by simp [widL, wid, q]; omega, by simp [PyData.depthAll, PyData.depth, r]⟩
  obtain ⟨p, q, r⟩ := a l h
  have ro : rOk (lineP l) = true := by simp [lineP, rOk, p]
  refine ⟨ro, repr_val ro (by simp [lineP, PyData.depth, r]) ?_⟩
  simp [lineP, wid, q]
  omega
theorem eq_strs (xs : List Str) (h : ∀ x ∈ xs, PyData.strOk x = true) : cmpD .Eq (.list (xs.map .str)) (.list (xs.map .str)) = some true := by
  have a : ∀ xs : List Str, (∀ x ∈ xs, PyData.strOk x = true) → PyData.canLayAll0 (xs.map .str) = true ∧ PyData.depthAll (xs.map .str) = 0 ∧ PyData.eqvAll (xs.map .str) (xs.map .str) = true := fun xs => by
    induction xs with
    | nil => intro _; simp [PyData.canLayAll0, PyData.depthAll, PyData.eqvAll]
    | cons x xs ih =>
      intro h
      obtain ⟨p, q, r⟩ := ih fun x hx => h x (List.mem_cons_of_mem _ hx)
      have := h x List.mem_cons_self
      exact ⟨by simp [PyData.canLayAll0, PyData.canLay0, p, this], by simp [PyData.depthAll, PyData.depth, q], by simp [PyData.eqvAll, PyData.eqv, r]⟩
  obtain ⟨p, q, r⟩ := a xs h
  simp [cmpD, SeqAt.shaped, PyData.canLay0, PyData.depth, p, q, PyData.eqv, r]
theorem ne_str (x : Str) (h : PyData.strOk x = true) : cmpD .NotEq (.str x) (.str x) = some false := by
  simp [cmpD, shaped_str h, PyData.eqv]
/-- is_alike -/
theorem eqvS {d e : PyData} (h : d.canLay0 = true ∧ d.depth ≤ 2) (h' : e.canLay0 = true ∧ e.depth ≤ 2) : SeqAt.shaped d = true ∧ SeqAt.shaped e = true := by
  unfold SeqAt.shaped
  rw [h.1, h'.1]
  exact ⟨by simp; omega, by simp; omega⟩
end DE
end

section
set_option Elab.async false
set_option linter.all false
set_option maxRecDepth 100000
set_option maxHeartbeats 1000000
namespace DE
open PySem
theorem hallP_tri (c : PyData) (ss : List (PyData × Int)) (b : Bool) : hallP c ss b = tri c (ss.map srvP) b := rfl
theorem ix1t {G : List Fn} {c : PyData} {sv : List PyData} {b : Bool} {i : Nat} {ρ : Env} (h : slot ρ i = .dat (tri c sv b)) : evE G (.ix (.var i) (.cst (.int 1))) ρ = .ok (.dat (.tuple sv)) ρ := by
  simp [h, tri, D.ntr, ixV, ixD, atI_1]
theorem atI_z {sv : List PyData} {d0 : PyData} (h0 : sv[0]? = some d0) : L2.atI sv 0 = some d0 := by
  cases sv with
  | nil => simp at h0
  | cons x r => simp at h0; subst h0; exact atI_0 _ _
def okD (d : PyData) : Prop := d.canLay0 = true ∧ d.depth ≤ 2
theorem alikeE {c : PyData} {sv : List PyData} {b : Bool} {d0 : PyData} (h0 : sv[0]? = some d0) (ok : ∀ d ∈ sv, okD d) (hl : sv.length ≤ 4) :
    evE [] (.comp (.cmp .Eq (.var 1) (.ix (.ix (.var 0) (.cst (.int 1))) (.cst (.int 0)))) (.nm 1) (.val (.ix (.var 0) (.cst (.int 1)))) .none [1]) [.dat (tri c sv b), .dead] = .ok (dl (sv.map fun d => .bool (d.eqv d0))) [.dat (tri c sv b), .dead] := by
  have o0 := ok d0 (List.mem_of_getElem? h0)
  have i0 := ix1t (G := []) (c := c) (sv := sv) (b := b) (i := 0) (ρ := [.dat (tri c sv b), .dead]) rfl
  have := comp_pure (G := []) (elt := (.cmp .Eq (.var 1) (.ix (.ix (.var 0) (.cst (.int 1))) (.cst (.int 0))))) (t := .nm 1) (it := .val (.ix (.var 0) (.cst (.int 1)))) (c := .none) (own := [1]) (ρ := [.dat (tri c sv b), .dead]) (ρ1 := [.dat (tri c sv b), .dead]) (ρ3 := [.dat (tri c sv b), .dead])
    (items := sv.map .dat) (w := none) (fun _ => true) (fun d => match d with | .dat d => .bool (d.eqv d0) | _ => .none)
    (by simp [↓i0, itemsV, itemsD, -s_ix]) (fun x hx => by
      obtain ⟨d, hd, rfl⟩ := List.mem_map.mp hx
      obtain ⟨s1, s2⟩ := eqvS (ok d hd) o0
      have i1 := ix1t (G := []) (c := c) (sv := sv) (b := b) (i := 0) (ρ := [.dat (tri c sv b), .dat d]) rfl
      have i2 : evE [] (.ix (.ix (.var 0) (.cst (.int 1))) (.cst (.int 0))) [.dat (tri c sv b), .dat d] = .ok (.dat d0) [.dat (tri c sv b), .dat d] := by
        rw [s_ix, i1]
        simp [D.ntr, ixV, ixD, atI_z h0]
      refine ⟨[.dat (tri c sv b), .dat d], by simp [storeT, wipeE, D.ntr], by simp [wipeE], by simp, fun _ => ⟨.dat (.bool (d.eqv d0)), ?_, by simp [D.fz]⟩⟩
      simp [slot, ↓i2, cmpV, cmpD, D.view, D.ntr, E.pure, s1, s2, -s_ix])
    (by rw [List.filter_eq_self.mpr (by simp)]; simp [fits]; omega) (by simp [unlock])
  rw [this]
  have e : (((sv.map D.dat).filter fun _ => true).map fun d => match d with | .dat d => PyData.bool (d.eqv d0) | _ => .none) = sv.map fun d => .bool (d.eqv d0) := by
    rw [List.filter_eq_self.mpr (by simp)]
    simp [List.map_map, Function.comp_def]
  rw [e]
theorem filterE {G : List Fn} {F : D} {c : PyData} {sv : List PyData} {b : Bool} {d0 : PyData} {x2 x3 x4 x5 x6 x7 x8 x10 : D} (h0 : sv[0]? = some d0) (ok : ∀ d ∈ sv, okD d) (hl : sv.length ≤ 4) :
    evE G (.comp (.var 9) (.nm 9) (.val (.ix (.var 1) (.cst (.int 1)))) (.some (.cmp .NotEq (.var 9) (.ix (.ix (.var 1) (.cst (.int 1))) (.cst (.int 0))))) [9]) [F, .dat (tri c sv b), x2, x3, x4, x5, x6, x7, x8, .dead, x10] = .ok (dl (sv.filter fun d => !d.eqv d0)) [F, .dat (tri c sv b), x2, x3, x4, x5, x6, x7, x8, .dead, x10] := by
  have o0 := ok d0 (List.mem_of_getElem? h0)
  have i0 := ix1t (G := G) (c := c) (sv := sv) (b := b) (i := 1) (ρ := [F, .dat (tri c sv b), x2, x3, x4, x5, x6, x7, x8, .dead, x10]) rfl
  have := comp_pure (G := G) (elt := .var 9) (t := .nm 9) (it := .val (.ix (.var 1) (.cst (.int 1)))) (c := (.some (.cmp .NotEq (.var 9) (.ix (.ix (.var 1) (.cst (.int 1))) (.cst (.int 0)))))) (own := [9]) (ρ := [F, .dat (tri c sv b), x2, x3, x4, x5, x6, x7, x8, .dead, x10]) (ρ1 := [F, .dat (tri c sv b), x2, x3, x4, x5, x6, x7, x8, .dead, x10]) (ρ3 := [F, .dat (tri c sv b), x2, x3, x4, x5, x6, x7, x8, .dead, x10])
    (items := sv.map .dat) (w := none) (fun d => match d with | .dat d => !d.eqv d0 | _ => false) (fun d => match d with | .dat d => d | _ => .none)
    (by simp [↓i0, itemsV, itemsD, -s_ix]) (fun x hx => by
      obtain ⟨d, hd, rfl⟩ := List.mem_map.mp hx
      obtain ⟨s1, s2⟩ := eqvS (ok d hd) o0
      have i1 := ix1t (G := G) (c := c) (sv := sv) (b := b) (i := 1) (ρ := [F, .dat (tri c sv b), x2, x3, x4, x5, x6, x7, x8, .dat d, x10]) rfl
      have i2 : evE G (.ix (.ix (.var 1) (.cst (.int 1))) (.cst (.int 0))) [F, .dat (tri c sv b), x2, x3, x4, x5, x6, x7, x8, .dat d, x10] = .ok (.dat d0) [F, .dat (tri c sv b), x2, x3, x4, x5, x6, x7, x8, .dat d, x10] := by
        rw [s_ix, i1]
        simp [D.ntr, ixV, ixD, atI_z h0]
      refine ⟨[F, .dat (tri c sv b), x2, x3, x4, x5, x6, x7, x8, .dat d, x10], by simp [storeT, wipeE, D.ntr], by simp [wipeE], ?_, fun _ => ⟨.dat d, by simp [slot], by simp [D.fz]⟩⟩
      simp [slot, ↓i2, cmpV, cmpD, D.view, D.ntr, E.pure, s1, s2, -s_ix])
    (by have := List.length_filter_le (fun d => match d with | D.dat d => !d.eqv d0 | _ => false) (sv.map D.dat); rw [List.length_map] at this; simp only [List.length_map, fits]; refine decide_eq_true ?_; omega) (by simp [unlock])
  rw [this]
  have e : ∀ sv : List PyData, (((sv.map D.dat).filter fun d => match d with | .dat d => !d.eqv d0 | _ => false).map fun d => match d with | .dat d => d | _ => PyData.none) = sv.filter fun d => !d.eqv d0 := fun sv => by
    rw [List.filter_map]
    simp [List.map_map, Function.comp_def]
  rw [e]
def gk (sv : List PyData) (k : Int) : PyData := sv.getD k.toNat .none
theorem turn1E {c : PyData} {sv : List PyData} {b : Bool} {ks : List Int} (hk : ∀ k ∈ ks, 0 ≤ k ∧ k < sv.length) (hl : ks.length ≤ 1000) :
    evE [] (.comp (.ix (.ix (.var 0) (.cst (.int 1))) (.var 2)) (.nm 2) (.val (.var 1)) .none [2]) [.dat (tri c sv b), .dat (.tuple (ks.map .int)), .dead] = .ok (dl (ks.map (gk sv))) [.dat (tri c sv b), .dat (.tuple (ks.map .int)), .dead] := by
  have := comp_pure (G := []) (elt := (.ix (.ix (.var 0) (.cst (.int 1))) (.var 2))) (t := .nm 2) (it := .val (.var 1)) (c := .none) (own := [2]) (ρ := [.dat (tri c sv b), .dat (.tuple (ks.map .int)), .dead]) (ρ1 := [.dat (tri c sv b), .dat (.tuple (ks.map .int)), .dead]) (ρ3 := [.dat (tri c sv b), .dat (.tuple (ks.map .int)), .dead])
    (items := (ks.map PyData.int).map .dat) (w := none) (fun _ => true) (fun d => match d with | .dat (.int k) => gk sv k | _ => .none)
    (by simp [slot, itemsV, itemsD]) (fun x hx => by
      obtain ⟨d, hd, rfl⟩ := List.mem_map.mp hx
      obtain ⟨k, hm, rfl⟩ := List.mem_map.mp hd
      obtain ⟨k0, k1⟩ := hk k hm
      have hi : k.toNat < sv.length := by omega
      have i1 := ix1t (G := []) (c := c) (sv := sv) (b := b) (i := 0) (ρ := [.dat (tri c sv b), .dat (.tuple (ks.map .int)), .dat (.int k)]) rfl
      have g : L2.atI sv k = some (gk sv k) := by
        rw [atI_nn k0 (by omega)]
        simp [gk, List.getElem?_eq_getElem hi]
      have i2 : evE [] (.ix (.ix (.var 0) (.cst (.int 1))) (.var 2)) [.dat (tri c sv b), .dat (.tuple (ks.map .int)), .dat (.int k)] = .ok (.dat (gk sv k)) [.dat (tri c sv b), .dat (.tuple (ks.map .int)), .dat (.int k)] := by
        rw [s_ix, i1]
        simp [slot, D.ntr, ixV, ixD, g]
      exact ⟨[.dat (tri c sv b), .dat (.tuple (ks.map .int)), .dat (.int k)], by simp [storeT, wipeE, D.ntr], by simp [wipeE], by simp, fun _ => ⟨.dat (gk sv k), i2, by simp [D.fz]⟩⟩)
    (by rw [List.filter_eq_self.mpr (by simp)]; simp [fits]; omega) (by simp [unlock])
  rw [this]
  have e : ((((ks.map PyData.int).map D.dat).filter fun _ => true).map fun d => match d with | .dat (.int k) => gk sv k | _ => .none) = ks.map (gk sv) := by
    rw [List.filter_eq_self.mpr (by simp)]
    simp [List.map_map, Function.comp_def]
  rw [e]
theorem turn2E {G : List Fn} {F : D} {c : PyData} {sv : List PyData} {b : Bool} {ks : List Int} {x2 x3 x4 x5 x6 x8 x9 : D} (hk : ∀ k ∈ ks, 0 ≤ k ∧ k < sv.length) (hl : ks.length ≤ 1000) :
    evE G (.comp (.ix (.ix (.var 1) (.cst (.int 1))) (.var 10)) (.nm 10) (.val (.var 7)) .none [10]) [F, .dat (tri c sv b), x2, x3, x4, x5, x6, .dat (.tuple (ks.map .int)), x8, x9, .dead] = .ok (dl (ks.map (gk sv))) [F, .dat (tri c sv b), x2, x3, x4, x5, x6, .dat (.tuple (ks.map .int)), x8, x9, .dead] := by
  have := comp_pure (G := G) (elt := (.ix (.ix (.var 1) (.cst (.int 1))) (.var 10))) (t := .nm 10) (it := .val (.var 7)) (c := .none) (own := [10]) (ρ := [F, .dat (tri c sv b), x2, x3, x4, x5, x6, .dat (.tuple (ks.map .int)), x8, x9, .dead]) (ρ1 := [F, .dat (tri c sv b), x2, x3, x4, x5, x6, .dat (.tuple (ks.map .int)), x8, x9, .dead]) (ρ3 := [F, .dat (tri c sv b), x2, x3, x4, x5, x6, .dat (.tuple (ks.map .int)), x8, x9, .dead])
    (items := (ks.map PyData.int).map .dat) (w := none) (fun _ => true) (fun d => match d with | .dat (.int k) => gk sv k | _ => .none)
    (by simp [slot, itemsV, itemsD]) (fun x hx => by
      obtain ⟨d, hd, rfl⟩ := List.mem_map.mp hx
      obtain ⟨k, hm, rfl⟩ := List.mem_map.mp hd
      obtain ⟨k0, k1⟩ := hk k hm
      have hi : k.toNat < sv.length := by omega
      have i1 := ix1t (G := G) (c := c) (sv := sv) (b := b) (i := 1) (ρ := [F, .dat (tri c sv b), x2, x3, x4, x5, x6, .dat (.tuple (ks.map .int)), x8, x9, .dat (.int k)]) rfl
      have g : L2.atI sv k = some (gk sv k) := by
        rw [atI_nn k0 (by omega)]
        simp [gk, List.getElem?_eq_getElem hi]
      have i2 : evE G (.ix (.ix (.var 1) (.cst (.int 1))) (.var 10)) [F, .dat (tri c sv b), x2, x3, x4, x5, x6, .dat (.tuple (ks.map .int)), x8, x9, .dat (.int k)] = .ok (.dat (gk sv k)) [F, .dat (tri c sv b), x2, x3, x4, x5, x6, .dat (.tuple (ks.map .int)), x8, x9, .dat (.int k)] := by
        rw [s_ix, i1]
        simp [slot, D.ntr, ixV, ixD, g]
      exact ⟨[F, .dat (tri c sv b), x2, x3, x4, x5, x6, .dat (.tuple (ks.map .int)), x8, x9, .dat (.int k)], by simp [storeT, wipeE, D.ntr], by simp [wipeE], by simp, fun _ => ⟨.dat (gk sv k), i2, by simp [D.fz]⟩⟩)
    (by rw [List.filter_eq_self.mpr (by simp)]; simp [fits]; omega) (by simp [unlock])
  rw [this]
  have e : ((((ks.map PyData.int).map D.dat).filter fun _ => true).map fun d => match d with | .dat (.int k) => gk sv k | _ => .none) = ks.map (gk sv) := by
    rw [List.filter_eq_self.mpr (by simp)]
    simp [List.map_map, Function.comp_def]
  rw [e]
theorem alike_spec {c : PyData} {sv : List PyData} {b : Bool} {d0 : PyData} (h0 : sv[0]? = some d0) (ok : ∀ d ∈ sv, okD d) (hl : sv.length ≤ 4) : d_p_is_alike [.dat (tri c sv b)] = .ret (.dat (.bool (sv.all fun d => d.eqv d0))) [.dead] := by
  have e := alikeE (c := c) (b := b) h0 ok hl
  have bs : boolsL (sv.map fun d => PyData.bool (d.eqv d0)) = some (sv.map fun d => d.eqv d0) := by
    clear h0 ok hl e
    induction sv with
    | nil => rfl
    | cons x r ih => simp [boolsL, ih]
  have vw := viewL_dats (sv.map fun d => PyData.bool (d.eqv d0))
  simp [d_p_is_alike, runF, i_p_is_alike, ↓e, dl, biV, Bi.makes, D.viewL, D.view, vw, biD, allD, bs, D.own, outsOf, Es.pure, List.all_map, Function.comp_def, -s_comp, -List.map_map]
theorem turned_spec {c : PyData} {sv : List PyData} {b : Bool} {ks : List Int} (hk : ∀ k ∈ ks, 0 ≤ k ∧ k < sv.length) (hl : ks.length ≤ 1000) : d_p_hall_turned [.dat (tri c sv b), .dat (.tuple (ks.map .int))] = .ret (.dat (tri c (ks.map (gk sv)) b)) [.dead, .dead] := by
  have e := turn1E (c := c) (b := b) hk hl
  have fz := fzL_dats (ks.map (gk sv))
  simp only [tri] at e
  simp [d_p_hall_turned, runF, i_p_hall_turned, ↓e, slot, dl, biV, Bi.makes, D.fzL, D.fz, fz, biF, tupleD, tri, ixV, ixD, atI_0, atI_2, D.ntr, D.own, fits, outsOf, Es.pure, -s_comp, -List.map_map]
end DE
end

section
set_option Elab.async false
set_option linter.all false
set_option maxRecDepth 100000
set_option maxHeartbeats 1000000
namespace DE
open PySem
noncomputable abbrev G5 : List Fn := [d_p_all_lines, d_w_next, d_w_shuffled, d_p_is_alike, d_p_hall_turned]
theorem zerosE {G : List Fn} {F : D} {c : PyData} {sv : List PyData} {b : Bool} {x2 x3 x4 x5 x6 x7 x8 x10 : D} (hl : sv.length ≤ 4) :
    evE G (.comp (.cst (.int 0)) (.nm 9) (.val (.ix (.var 1) (.cst (.int 1)))) .none [9]) [F, .dat (tri c sv b), x2, x3, x4, x5, x6, x7, x8, .dead, x10] = .ok (dl (sv.map fun _ => .int 0)) [F, .dat (tri c sv b), x2, x3, x4, x5, x6, x7, x8, .dead, x10] := by
  have i0 := ix1t (G := G) (c := c) (sv := sv) (b := b) (i := 1) (ρ := [F, .dat (tri c sv b), x2, x3, x4, x5, x6, x7, x8, .dead, x10]) rfl
  have := comp_pure (G := G) (elt := .cst (.int 0)) (t := .nm 9) (it := .val (.ix (.var 1) (.cst (.int 1)))) (c := .none) (own := [9]) (ρ := [F, .dat (tri c sv b), x2, x3, x4, x5, x6, x7, x8, .dead, x10]) (ρ1 := [F, .dat (tri c sv b), x2, x3, x4, x5, x6, x7, x8, .dead, x10]) (ρ3 := [F, .dat (tri c sv b), x2, x3, x4, x5, x6, x7, x8, .dead, x10])
    (items := sv.map .dat) (w := none) (fun _ => true) (fun _ => .int 0)
    (by simp [↓i0, itemsV, itemsD, -s_ix]) (fun x hx => by
      obtain ⟨d, hd, rfl⟩ := List.mem_map.mp hx
      exact ⟨[F, .dat (tri c sv b), x2, x3, x4, x5, x6, x7, x8, .dat d, x10], by simp [storeT, wipeE, D.ntr], by simp [wipeE], by simp, fun _ => ⟨.dat (.int 0), by simp, by simp [D.fz]⟩⟩)
    (by rw [List.filter_eq_self.mpr (by simp)]; simp [fits]; omega) (by simp [unlock])
  rw [this]
  have e : (((sv.map D.dat).filter fun _ => true).map fun _ => PyData.int 0) = sv.map fun _ => .int 0 := by
    rw [List.filter_eq_self.mpr (by simp)]
    simp [List.map_map, Function.comp_def]
  rw [e]
def bodyR : Ss := (.cons (.ifs (.cmp .NotEq (.bi .repr (.cons (.var 5) .nil)) (.bi .repr (.cons (.var 4) .nil))) (.cons (.ret (.cst (.bool false))) .nil) .nil) (.cons (.asg (.nm 4) (.call 1 "_law_next" false (.val (.var 1) (.val (.var 4) .nil)))) .nil))
theorem bi1 {G : List Fn} {i : Nat} {p q : PyData} {ρ : Env} (h : slot ρ i = .dat p) (hr : biD .repr [p] = some q) : evE G (.bi .repr (.cons (.var i) .nil)) ρ = .ok (.dat q) ρ := by
  simp [h, D.ntr, Es.pure, biV, Bi.makes, D.viewL, D.view, hr]
theorem stepR {F kp x6 x7 x8 x9 x10 : D} {c : PyData} {ss : List (PyData × Int)} {b : Bool} {l : List Int} (hl : l.length = ss.length) (h4 : ss.length ≤ 4) (hx : ∀ x ∈ l, 0 ≤ x ∧ x < 2 ^ 64) :
    exSs G5 bodyR [F, .dat (hallP c ss b), kp, .dead, .dat (lineP l), .dat (lineP l), x6, x7, x8, x9, x10] = .nx [F, .dat (hallP c ss b), kp, .dead, .dat (optP (nextL l (ss.map (·.2)))), .dat (lineP l), x6, x7, x8, x9, x10] := by
  obtain ⟨r1, r2⟩ := lineR hx (by omega)
  have a5 := bi1 (G := G5) (i := 5) (ρ := [F, .dat (hallP c ss b), kp, .dead, .dat (lineP l), .dat (lineP l), x6, x7, x8, x9, x10]) rfl r2
  have a4 := bi1 (G := G5) (i := 4) (ρ := [F, .dat (hallP c ss b), kp, .dead, .dat (lineP l), .dat (lineP l), x6, x7, x8, x9, x10]) rfl r2
  have n := next_spec (c := c) (b := b) hl h4
  have so : PyData.strOk (lineP l).shown = true := shown_ok r1
  have nn := ne_str _ so
  simp [bodyR, ↓a5, ↓a4, cmpV, D.view, nn, slot, storeT, D.ntr, takeAs, fnAt, n, putBack, As.pure, E.pure, Es.pure, D.own, kA2, -s_bi]
theorem loopR {F kp x6 x7 x8 x9 x10 : D} {c : PyData} {ss : List (PyData × Int)} {b : Bool} (h4 : ss.length ≤ 4) : ∀ {o e : Option (List Int)} {ls : List (List Int)}, Tr (nextL · (ss.map (·.2))) o ls e → (∀ l ∈ ls, l.length = ss.length ∧ ∀ x ∈ l, 0 ≤ x ∧ x < 2 ^ 64) → ∀ x5 : D,
    ∃ x5', forL (.nm 5) (exSs G5 bodyR) ((ls.map lineP).map .dat) [F, .dat (hallP c ss b), kp, .dead, .dat (optP o), x5, x6, x7, x8, x9, x10] = .nx [F, .dat (hallP c ss b), kp, .dead, .dat (optP e), x5', x6, x7, x8, x9, x10]
  | _, _, _, .nil, _, x5 => ⟨x5, rfl⟩
  | _, _, _, .cons (a := l) (l := ls) t, h, x5 => by
    obtain ⟨hl, hx⟩ := h l List.mem_cons_self
    obtain ⟨x5', e⟩ := loopR (F := F) (kp := kp) (x6 := x6) (x7 := x7) (x8 := x8) (x9 := x9) (x10 := x10) (c := c) (b := b) h4 t (fun l hl => h l (List.mem_cons_of_mem _ hl)) (.dat (lineP l))
    have s := stepR (F := F) (kp := kp) (x6 := x6) (x7 := x7) (x8 := x8) (x9 := x9) (x10 := x10) (c := c) (b := b) hl h4 hx
    have st : storeT (.nm 5) (.dat (lineP l)) [F, .dat (hallP c ss b), kp, .dead, .dat (optP (some l)), x5, x6, x7, x8, x9, x10] = some [F, .dat (hallP c ss b), kp, .dead, .dat (lineP l), .dat (lineP l), x6, x7, x8, x9, x10] := by simp [storeT, D.ntr, optP]
    refine ⟨x5', ?_⟩
    rw [List.map_cons, List.map_cons, forL, st]
    simp only [s, nx_bind]
    exact e
end DE
end

section
set_option Elab.async false
set_option linter.all false
set_option maxRecDepth 100000
set_option maxHeartbeats 1000000
namespace DE
open PySem
theorem tupleText_0 (xs : List Str) : (tupleText xs).cps[0]? = some 40 := by
  unfold tupleText
  have : (Str.ofString "(").cps = #[40] := by decide +kernel
  change (((Str.ofString "(").cps ++ _) ++ _)[0]? = _
  rw [Array.append_assoc, this, Array.getElem?_append_left (by simp)]
  rfl
theorem line_ne (l : List Int) : cmpD .Eq (.str (lineP l).shown) (.str (PyData.str "a").shown) = if PyData.strOk (lineP l).shown then some false else cmpD .Eq (.str (lineP l).shown) (.str (PyData.str "a").shown) := by
  by_cases h : PyData.strOk (lineP l).shown = true
  · rw [if_pos h]
    have ha : PyData.strOk (PyData.str "a").shown = true := by decide +kernel
    have ne : (lineP l).shown ≠ (PyData.str "a").shown := by
      intro e
      have z := tupleText_0 (PyData.shownAll (l.map PyData.int))
      have e2 : (lineP l).shown = tupleText (PyData.shownAll (l.map PyData.int)) := by simp only [lineP, PyData.shown]
      rw [← e2, e] at z
      revert z
      decide +kernel
    simp [cmpD, shaped_str h, shaped_str ha, PyData.eqv, ne]
  · rw [if_neg h]
def R5 : S := (.ifs (.or (.cmp .IsNot (.var 4) (.cst .none)) (.not (.isi (.bp (.root 3)) ["list"] true))) (.cons (.ret (.cst (.bool false))) .nil) .nil)
def R8 : S := (.ifs (.or (.cmp .NotEq (.bi .len (.cons (.call 0 "all_lines" false (.val (.var 1) .nil)) .nil)) (.bin .Sub (.bi .len (.cons (.bp (.root 3)) .nil)) (.cst (.int 1)))) (.cmp .Eq (.bi .repr (.cons (.ix (.call 0 "all_lines" false (.val (.var 1) .nil)) (.cst (.int 0))) .nil)) (.bi .repr (.cons (.cst (.str "a")) .nil)))) (.cons (.ret (.cst (.bool false))) .nil) .nil)
theorem allE {F kp x3 x4 x5 x6 x7 x8 x9 x10 : D} {c : PyData} {ss : List (PyData × Int)} {b : Bool} (ok : RoomOk ss) : evE G5 (.call 0 "all_lines" false (.val (.var 1) .nil)) [F, .dat (hallP c ss b), kp, x3, x4, x5, x6, x7, x8, x9, x10] = .ok (.lst (((linesH (ss.map (·.2))).map lineP).map .dat)) [F, .dat (hallP c ss b), kp, x3, x4, x5, x6, x7, x8, x9, x10] := by
  have a := all_lines_spec (c := c) (b := b) ok
  simp [slot, D.ntr, takeAs, fnAt, a, putBack, As.pure, kA2, -List.map_map]
theorem step5 {F H kp x5 x6 x7 x8 x9 x10 : D} {ts : List PyData} : exS G5 R5 [F, H, kp, .lst (ts.map .dat), .dat .none, x5, x6, x7, x8, x9, x10] = .nx [F, H, kp, .lst (ts.map .dat), .dat .none, x5, x6, x7, x8, x9, x10] := by
  simp [R5, slot, cmpV, isNone, E.pure, D.ntr, getS_nil, isiV, D.view, viewL_dats, isiD, -List.map_map]
theorem step6 {F H kp x4 x5 x6 x7 x8 x9 x10 : D} {ts : List PyData} (h : ts.length ≤ 100000) : exS G5 (.ex (.pm .append (.root 3) (.cons (.cst .none) .nil))) [F, H, kp, .lst (ts.map .dat), x4, x5, x6, x7, x8, x9, x10] = .nx [F, H, kp, .lst (ts.map .dat ++ [.dat .none]), x4, x5, x6, x7, x8, x9, x10] := by
  have c1 : (ts.map D.dat).length < 16777216 := by simp; omega
  have app : pmD .append (ts.map D.dat) [.dat .none] = some (ts.map .dat ++ [.dat .none], .dat .none) := by
    simp only [pmD, c1, decide_true, if_true, D.own]
    try simp
  simp [slot, isLst, getS_nil, putS_nil, D.ntr, Es.pure, app, -List.map_map]
theorem step7 {F H kp x4 x5 x6 x7 x8 x9 x10 t : D} {ts : List D} : exS G5 (.set (.root 3) (.cst (.int 0)) (.cst (.str "a"))) [F, H, kp, .lst (t :: ts), x4, x5, x6, x7, x8, x9, x10] = .nx [F, H, kp, .lst (.dat (.str "a") :: ts), x4, x5, x6, x7, x8, x9, x10] := by
  have nx : L2.ixN (t :: ts).length 0 = some 0 := by rw [ixN_nn (by omega) (by simp <;> omega)]; rfl
  simp only [List.length_cons] at nx
  simp [slot, getS_nil, putS_nil, D.own, E.pure, nx]
theorem step8 {F kp x4 x5 x6 x7 x8 x9 x10 : D} {ts : List PyData} {c : PyData} {ss : List (PyData × Int)} {b : Bool} {l0 : List Int} {lr : List (List Int)} (ok : RoomOk ss) (hl : linesH (ss.map (·.2)) = l0 :: lr) (h0 : rOk (lineP l0) = true) (r0 : biD .repr [lineP l0] = some (.str (lineP l0).shown)) (ht : ts.length = lr.length + 2) (hs : lr.length ≤ 100000) :
    exS G5 R8 [F, .dat (hallP c ss b), kp, .lst (ts.map .dat), x4, x5, x6, x7, x8, x9, x10] = .nx [F, .dat (hallP c ss b), kp, .lst (ts.map .dat), x4, x5, x6, x7, x8, x9, x10] := by
  have a := allE (F := F) (kp := kp) (x3 := .lst (ts.map .dat)) (x4 := x4) (x5 := x5) (x6 := x6) (x7 := x7) (x8 := x8) (x9 := x9) (x10 := x10) (c := c) (b := b) ok
  have so : PyData.strOk (lineP l0).shown = true := shown_ok h0
  have ne := line_ne l0
  rw [if_pos so] at ne
  have ra : biD .repr [PyData.str "a"] = some (.str (PyData.str "a").shown) := repr_val (by decide +kernel) (by decide +kernel) (by decide +kernel)
  have vl := viewL_dats ((l0 :: lr).map lineP)
  have vt := viewL_dats ts
  rw [hl] at a
  have n1 : evE G5 (.cmp .NotEq (.bi .len (.cons (.call 0 "all_lines" false (.val (.var 1) .nil)) .nil)) (.bin .Sub (.bi .len (.cons (.bp (.root 3)) .nil)) (.cst (.int 1)))) [F, .dat (hallP c ss b), kp, .lst (ts.map .dat), x4, x5, x6, x7, x8, x9, x10] = .ok (.dat (.bool false)) [F, .dat (hallP c ss b), kp, .lst (ts.map .dat), x4, x5, x6, x7, x8, x9, x10] := by
    have l1 : biV .len [.lst (((l0 :: lr).map lineP).map .dat)] = some (.dat (.int (lr.length + 1 : Int))) := by
      simp only [biV, Bi.makes, D.viewL, D.view, vl]
      simp [biD, lenD]
    have l2 : biV .len [.tr (.list ts)] = some (.dat (.int (lr.length + 2 : Int))) := by
      simp only [biV, Bi.makes, D.viewL, D.view]
      simp [biD, lenD, ht]
    have sub : binD .Sub (.int (lr.length + 2 : Int)) (.int 1) = some (.dat (.int (lr.length + 1 : Int))) := by
      simp [binD]
      try omega
    simp [↓a, l1, l2, vt, slot, getS_nil, D.ntr, E.pure, Es.pure, P.pure, D.view, cmpV, cmpD, sub, SeqAt.shaped, PyData.canLay0, PyData.depth, PyData.eqv, -s_call, -List.map_map, -Option.map_map, -List.map_cons]
  have n2 : evE G5 (.cmp .Eq (.bi .repr (.cons (.ix (.call 0 "all_lines" false (.val (.var 1) .nil)) (.cst (.int 0))) .nil)) (.bi .repr (.cons (.cst (.str "a")) .nil))) [F, .dat (hallP c ss b), kp, .lst (ts.map .dat), x4, x5, x6, x7, x8, x9, x10] = .ok (.dat (.bool false)) [F, .dat (hallP c ss b), kp, .lst (ts.map .dat), x4, x5, x6, x7, x8, x9, x10] := by
    have i0 : ixV (.lst (((l0 :: lr).map lineP).map .dat)) (.int 0) = some (.dat (lineP l0)) := by simp [ixV, atI_0]
    have b0 : biV .repr [.dat (lineP l0)] = some (.dat (.str (lineP l0).shown)) := by simp [biV, Bi.makes, D.viewL, D.view, r0]
    have ba : biV .repr [.dat (.str "a")] = some (.dat (.str (PyData.str "a").shown)) := by simp only [biV, Bi.makes, D.viewL, D.view]; simp [ra]
    simp [↓a, i0, b0, ba, D.ntr, E.pure, Es.pure, D.view, cmpV, ne, -s_call, -List.map_map, -Option.map_map, -List.map_cons]
  simp [R8, ↓n1, ↓n2, -s_cmp]
end DE
end

section
set_option Elab.async false
set_option linter.all false
set_option maxRecDepth 100000
set_option maxHeartbeats 1000000
namespace DE
open PySem
theorem step1 {F x3 x4 x5 x6 x7 x8 x9 x10 : D} {h : PyData} {s : Str} (r : biD .repr [h] = some (.str s)) : exS G5 (.asg (.nm 2) (.bi .repr (.cons (.var 1) .nil))) [F, .dat h, .dead, x3, x4, x5, x6, x7, x8, x9, x10] = .nx [F, .dat h, .dat (.str s), x3, x4, x5, x6, x7, x8, x9, x10] := by
  have b := bi1 (G := G5) (i := 1) (ρ := [F, .dat h, .dead, x3, x4, x5, x6, x7, x8, x9, x10]) rfl r
  simp [↓b, storeT, D.ntr, D.own, -s_bi]
theorem step2 {F kp x4 x5 x6 x7 x8 x9 x10 : D} {c : PyData} {ss : List (PyData × Int)} {b : Bool} (ok : RoomOk ss) : exS G5 (.asg (.nm 3) (.call 0 "all_lines" false (.val (.var 1) .nil))) [F, .dat (hallP c ss b), kp, .dead, x4, x5, x6, x7, x8, x9, x10] = .nx [F, .dat (hallP c ss b), kp, .lst (((linesH (ss.map (·.2))).map lineP).map .dat), x4, x5, x6, x7, x8, x9, x10] := by
  have a := allE (F := F) (kp := kp) (x3 := .dead) (x4 := x4) (x5 := x5) (x6 := x6) (x7 := x7) (x8 := x8) (x9 := x9) (x10 := x10) (c := c) (b := b) ok
  have n := ntrL_dats ((linesH (ss.map (·.2))).map lineP)
  simp [↓a, storeT, D.ntr, n, D.own, ownL_dats, -s_call, -List.map_map]
theorem step3 {F kp x3 x5 x6 x7 x8 x10 : D} {c : PyData} {ss : List (PyData × Int)} {b : Bool} (h4 : ss.length ≤ 4) : exS G5 (.asg (.nm 4) (.bi .tuple (.cons (.comp (.cst (.int 0)) (.nm 9) (.val (.ix (.var 1) (.cst (.int 1)))) .none [9]) .nil))) [F, .dat (hallP c ss b), kp, x3, .dead, x5, x6, x7, x8, .dead, x10] = .nx [F, .dat (hallP c ss b), kp, x3, .dat (optP (some ((ss.map (·.2)).map fun _ => 0))), x5, x6, x7, x8, .dead, x10] := by
  have z := zerosE (G := G5) (F := F) (c := c) (sv := ss.map srvP) (b := b) (x2 := kp) (x3 := x3) (x4 := .dead) (x5 := x5) (x6 := x6) (x7 := x7) (x8 := x8) (x10 := x10) (by simpa using h4)
  rw [← hallP_tri] at z
  have fz := fzL_dats ((ss.map srvP).map fun _ => PyData.int 0)
  have e : (ss.map srvP).map (fun _ => PyData.int 0) = ((ss.map (·.2)).map fun _ => (0 : Int)).map PyData.int := by simp [Function.comp_def]
  simp [↓z, dl, biV, Bi.makes, D.fzL, D.fz, fz, biF, tupleD, storeT, D.ntr, Es.pure, -s_comp, -List.map_map]
  rw [e]
  rfl
theorem step4 {F kp x5 x6 x7 x8 x9 x10 : D} {c : PyData} {ss : List (PyData × Int)} {b : Bool} (ok : RoomOk ss) : ∃ x5', exS G5 (.fors (.nm 5) (.ref (.root 3)) bodyR) [F, .dat (hallP c ss b), kp, .lst (((linesH (ss.map (·.2))).map lineP).map .dat), .dat (optP (some ((ss.map (·.2)).map fun _ => 0))), x5, x6, x7, x8, x9, x10] = .nx [F, .dat (hallP c ss b), kp, .lst (((linesH (ss.map (·.2))).map lineP).map .dat), .dat .none, x5', x6, x7, x8, x9, x10] := by
  have ro : ∀ r ∈ ss.map (·.2), 0 ≤ r := fun r hr => by
    obtain ⟨s, hs, rfl⟩ := List.mem_map.mp hr
    exact (ok.2 s hs).1
  have r6 : ∀ r ∈ ss.map (·.2), r < 2 ^ 60 := fun r hr => by
    obtain ⟨s, hs, rfl⟩ := List.mem_map.mp hr
    have := (ok.2 s hs).2
    omega
  obtain ⟨x5', e⟩ := loopR (F := F) (kp := kp) (x6 := x6) (x7 := x7) (x8 := x8) (x9 := x9) (x10 := x10) (c := c) (b := b) ok.1 (tr_lines _ ro) (fun l hl => ⟨by rw [linesH_len _ l hl, List.length_map], fun x hx => (linesH_bd _ l hl x hx).resolve_right fun z => z r6⟩) x5
  refine ⟨x5', ?_⟩
  have d := dats_dats ((linesH (ss.map (·.2))).map lineP)
  simp only [optP] at e
  have nc : (!((T.nm 5).slots ++ bodyR.asgs).contains 3) = true := by rfl
  simp [↓e, slot, getS_nil, d, unl_nx, unlock, optP, kFor_some, nc, -List.map_map, -List.contains_eq_mem, -Bool.not_eq_eq_eq_not, -List.contains_append]
theorem step9 {F kp x3 x4 x5 x7 x8 x10 : D} {c : PyData} {sv : List PyData} {b : Bool} {d0 : PyData} (h0 : sv[0]? = some d0) (ok : ∀ d ∈ sv, okD d) (hl : sv.length ≤ 4) :
    exS G5 (.asg (.nm 6) (.cmp .Eq (.comp (.var 9) (.nm 9) (.val (.ix (.var 1) (.cst (.int 1)))) (.some (.cmp .NotEq (.var 9) (.ix (.ix (.var 1) (.cst (.int 1))) (.cst (.int 0))))) [9]) (.lst .nil))) [F, .dat (tri c sv b), kp, x3, x4, x5, .dead, x7, x8, .dead, x10] = .nx [F, .dat (tri c sv b), kp, x3, x4, x5, .dat (.bool (sv.all fun d => d.eqv d0)), x7, x8, .dead, x10] := by
  have e := filterE (G := G5) (F := F) (c := c) (b := b) (x2 := kp) (x3 := x3) (x4 := x4) (x5 := x5) (x6 := .dead) (x7 := x7) (x8 := x8) (x10 := x10) h0 ok hl
  have vw := viewL_dats (sv.filter fun d => !d.eqv d0)
  have sh : ∀ xs : List PyData, (∀ d ∈ xs, okD d) → PyData.canLayAll0 xs = true ∧ PyData.depthAll xs ≤ 2 := fun xs => by
    induction xs with
    | nil => intro _; simp [PyData.canLayAll0, PyData.depthAll]
    | cons x xs ih =>
      intro h
      obtain ⟨p, q⟩ := ih fun x hx => h x (List.mem_cons_of_mem _ hx)
      obtain ⟨p2, q2⟩ := h x List.mem_cons_self
      refine ⟨by simp [PyData.canLayAll0, p, p2], ?_⟩
      simp [PyData.depthAll]
      omega
  obtain ⟨s1, s2⟩ := sh (sv.filter fun d => !d.eqv d0) fun d hd => ok d ((List.mem_filter.mp hd).1)
  have shp : SeqAt.shaped (.list (sv.filter fun d => !d.eqv d0)) = true := by
    simp [SeqAt.shaped, PyData.canLay0, PyData.depth, s1]
    omega
  have ev : PyData.eqv (.list (sv.filter fun d => !d.eqv d0)) (.list []) = sv.all fun d => d.eqv d0 := by
    clear h0 ok hl e vw s1 s2 shp
    induction sv with
    | nil => simp [PyData.eqv, PyData.eqvAll]
    | cons x xs ih =>
      cases hx : x.eqv d0 <;> simp_all [PyData.eqv, PyData.eqvAll]
  have sh0 : SeqAt.shaped (.list []) = true := by decide +kernel
  simp [↓e, dl, cmpV, D.view, D.viewL, vw, cmpD, shp, sh0, ev, fits, storeT, D.ntr, D.own, E.pure, Es.pure, -s_comp, -List.map_map]
end DE
end

section
set_option Elab.async false
set_option linter.all false
set_option maxRecDepth 100000
set_option maxHeartbeats 1000000
namespace DE
open PySem
def zto (n : Nat) : List Int := (List.range n).map fun (k : Nat) => (k : Int)
theorem frzE {F kp x3 x4 x5 x6 x7 x8 x9 x10 : D} {c : PyData} {sv : List PyData} {b : Bool} (k1 : rngOk (sv.length : Int) = true) (fs : fits sv.length = true) : evE G5 (.frz (.lrg (.bi .len (.cons (.ix (.var 1) (.cst (.int 1))) .nil)))) [F, .dat (tri c sv b), kp, x3, x4, x5, x6, x7, x8, x9, x10] = .ok (.dat (.list ((zto sv.length).map .int))) [F, .dat (tri c sv b), kp, x3, x4, x5, x6, x7, x8, x9, x10] := by
  have i0 := ix1t (G := G5) (c := c) (sv := sv) (b := b) (i := 1) (ρ := [F, .dat (tri c sv b), kp, x3, x4, x5, x6, x7, x8, x9, x10]) rfl
  have rz : D.fzL (rngL 0 sv.length) = some ((zto sv.length).map .int) := by
    have : rngL 0 sv.length = ((zto sv.length).map PyData.int).map .dat := by simp [rngL, zto, Function.comp_def]
    rw [this]
    exact fzL_dats _
  have a : evE G5 (.bi .len (.cons (.ix (.var 1) (.cst (.int 1))) .nil)) [F, .dat (tri c sv b), kp, x3, x4, x5, x6, x7, x8, x9, x10] = .ok (.dat (.int (sv.length : Int))) [F, .dat (tri c sv b), kp, x3, x4, x5, x6, x7, x8, x9, x10] := by
    simp [↓i0, D.ntr, Es.pure, biV, Bi.makes, D.viewL, D.view, biD, lenD, -s_ix]
  have kk : (rngOk (sv.length : Int) && fits sv.length) = true := by rw [k1, fs]; rfl
  rw [s_frz, s_lrg, a, bind_ok, kLrg_int, Int.toNat_natCast, if_pos kk, bind_ok, kFrz_eq]
  simp only [D.fz, rz, Option.map_some]
  rfl
theorem shufE {cs : List Int} {i l n i' l' n' : Int} {kp x3 x4 x5 x6 x7 x8 x9 x10 : D} {left ks : List PyData} {H : D} {me : E} (e : d_w_shuffled [feed cs i l n, .dat (.list left)] = .ret (.lst (ks.map .dat)) [feed cs i' l' n', .dead])
    (a0 : evE G5 me [feed cs i l n, H, kp, x3, x4, x5, x6, x7, x8, x9, x10] = .ok (.dat (.list left)) [feed cs i l n, H, kp, x3, x4, x5, x6, x7, x8, x9, x10]) :
    evE G5 (.call 2 "_law_shuffled" false (.ref (.root 0) (.val me .nil))) [feed cs i l n, H, kp, x3, x4, x5, x6, x7, x8, x9, x10] = .ok (.lst (ks.map .dat)) [feed cs i' l' n', H, kp, x3, x4, x5, x6, x7, x8, x9, x10] := by
  obtain ⟨xs, ex⟩ := feed_live cs i l n
  have own := feed_own cs i' l' n'
  rw [ex] at a0 e ⊢
  simp [slot, a0, D.ntr, takeAs, getS_nil, fnAt, e, putBack, own, putS_nil, As.pure, kA2, -List.map_map]
theorem step10 {cs : List Int} {i l n : Int} {kp x3 x4 x5 x6 x8 x9 x10 : D} {c : PyData} {sv : List PyData} {b : Bool} (f : Fd n i l) (f1 : n + 2000 < 2 ^ 90) (hl : sv.length ≤ 4) :
    ∃ (i' l' : Int) (ks : List Int), exS G5 (.asg (.nm 7) (.bi .tuple (.cons (.call 2 "_law_shuffled" false (.ref (.root 0) (.val (.frz (.lrg (.bi .len (.cons (.ix (.var 1) (.cst (.int 1))) .nil)))) .nil))) .nil))) [feed cs i l n, .dat (tri c sv b), kp, x3, x4, x5, x6, .dead, x8, x9, x10] =
      .nx [feed cs i' l' (n + sv.length), .dat (tri c sv b), kp, x3, x4, x5, x6, .dat (.tuple (ks.map .int)), x8, x9, x10] ∧ Fd (n + sv.length) i' l' ∧ ks.length = sv.length ∧ ∀ k ∈ ks, 0 ≤ k ∧ k < sv.length := by
  have lz : (zto sv.length).length = sv.length := by simp [zto]
  obtain ⟨i', l', ks, e, f', lk, m⟩ := shuffled_spec (cs := cs) (left := zto sv.length) f f1 (by rw [lz]; omega)
  rw [lz] at e f' lk
  have k1 : rngOk (sv.length : Int) = true := rngOk_small (by omega) (by omega)
  have fs : fits sv.length = true := by unfold fits; exact decide_eq_true (by omega)
  have sh := shufE (kp := kp) (x3 := x3) (x4 := x4) (x5 := x5) (x6 := x6) (x7 := .dead) (x8 := x8) (x9 := x9) (x10 := x10) e (frzE (F := feed cs i l n) (kp := kp) (x3 := x3) (x4 := x4) (x5 := x5) (x6 := x6) (x7 := .dead) (x8 := x8) (x9 := x9) (x10 := x10) (c := c) (b := b) k1 fs)
  have fz := fzL_dats (ks.map PyData.int)
  refine ⟨i', l', ks, ?_, f', lk, fun k hk => ?_⟩
  · rw [x_asg, s_bi, s_cons, sh]
    simp [Es.pure, D.ntr, biV, Bi.makes, D.fzL, D.fz, fz, biF, tupleD, storeT, D.own, -List.map_map]
  · have := m k hk
    simp only [zto, List.mem_map, List.mem_range] at this
    obtain ⟨j, hj, rfl⟩ := this
    omega
theorem step11 {F kp x3 x4 x5 x6 x9 : D} {c : PyData} {sv : List PyData} {b : Bool} {ks : List Int} (hk : ∀ k ∈ ks, 0 ≤ k ∧ k < sv.length) (hl : ks.length ≤ 1000) :
    exS G5 (.asg (.nm 8) (.tup (.cons (.ix (.var 1) (.cst (.int 0))) (.cons (.bi .tuple (.cons (.comp (.ix (.ix (.var 1) (.cst (.int 1))) (.var 10)) (.nm 10) (.val (.var 7)) .none [10]) .nil)) (.cons (.ix (.var 1) (.cst (.int 2))) .nil))))) [F, .dat (tri c sv b), kp, x3, x4, x5, x6, .dat (.tuple (ks.map .int)), .dead, x9, .dead] =
      .nx [F, .dat (tri c sv b), kp, x3, x4, x5, x6, .dat (.tuple (ks.map .int)), .dat (tri c (ks.map (gk sv)) b), x9, .dead] := by
  have e := turn2E (G := G5) (F := F) (c := c) (b := b) (x2 := kp) (x3 := x3) (x4 := x4) (x5 := x5) (x6 := x6) (x8 := .dead) (x9 := x9) hk hl
  have fz := fzL_dats (ks.map (gk sv))
  simp only [tri] at e ⊢
  simp [↓e, slot, dl, biV, Bi.makes, D.fzL, D.fz, fz, biF, tupleD, ixV, ixD, atI_0, atI_2, D.ntr, D.own, fits, storeT, E.pure, Es.pure, -s_comp, -List.map_map]
theorem step12 {F x3 x4 x5 x9 x10 : D} {c : PyData} {sv : List PyData} {b k : Bool} {d0 : PyData} {ks : List Int} (h0 : sv[0]? = some d0) (ok : ∀ d ∈ sv, okD d) (h4 : sv.length ≤ 4) (hk : ∀ k ∈ ks, 0 ≤ k ∧ k < sv.length) (hl : ks.length ≤ 1000)
    (r1 : rOk (tri c sv b) = true) (p1 : biD .repr [tri c sv b] = some (.str (tri c sv b).shown)) (r2 : rOk (tri c (ks.map (gk sv)) b) = true) (p2 : biD .repr [tri c (ks.map (gk sv)) b] = some (.str (tri c (ks.map (gk sv)) b).shown)) (ek : k = sv.all fun d => d.eqv d0) :
    exS G5 (.ret (.cmp .Eq (.lst (.cons (.bi .repr (.cons (.call 3 "is_alike" false (.val (.var 1) .nil)) .nil)) (.cons (.bi .repr (.cons (.call 4 "hall_turned" false (.val (.var 1) (.val (.var 7) .nil))) .nil)) (.cons (.bi .repr (.cons (.var 1) .nil)) .nil)))) (.lst (.cons (.bi .repr (.cons (.var 6) .nil)) (.cons (.bi .repr (.cons (.var 8) .nil)) (.cons (.var 2) .nil)))))) [F, .dat (tri c sv b), .dat (.str (tri c sv b).shown), x3, x4, x5, .dat (.bool k), .dat (.tuple (ks.map .int)), .dat (tri c (ks.map (gk sv)) b), x9, x10] =
      .rt (.dat (.bool true)) [F, .dat (tri c sv b), .dat (.str (tri c sv b).shown), x3, x4, x5, .dat (.bool k), .dat (.tuple (ks.map .int)), .dat (tri c (ks.map (gk sv)) b), x9, x10] := by
  have a := alike_spec (c := c) (b := b) h0 ok h4
  have t := turned_spec (c := c) (b := b) hk hl
  rw [← ek] at a
  have pk : biD .repr [.bool k] = some (.str (PyData.bool k).shown) := repr_val (by simp [rOk]) (by simp [PyData.depth]) (by simp [wid])
  have sk : rOk (.bool k) = true := by simp [rOk]
  have fin := eq_strs [(PyData.bool k).shown, (tri c (ks.map (gk sv)) b).shown, (tri c sv b).shown] (by
    intro x hx
    simp only [List.mem_cons, List.mem_nil_iff, or_false] at hx
    rcases hx with rfl | rfl | rfl
    · exact shown_ok sk
    · exact shown_ok r2
    · exact shown_ok r1)
  simp only [List.map_cons, List.map_nil] at fin
  have q1 : biV .repr [.dat (.bool k)] = some (.dat (.str (PyData.bool k).shown)) := by simp [biV, Bi.makes, D.viewL, D.view, pk]
  have q2 : biV .repr [.dat (tri c (ks.map (gk sv)) b)] = some (.dat (.str (tri c (ks.map (gk sv)) b).shown)) := by simp [biV, Bi.makes, D.viewL, D.view, p2]
  have q3 : biV .repr [.dat (tri c sv b)] = some (.dat (.str (tri c sv b).shown)) := by simp [biV, Bi.makes, D.viewL, D.view, p1]
  simp [slot, D.ntr, takeAs, fnAt, a, t, putBack, As.pure, kA2, q1, q2, q3, fits, cmpV, D.view, D.viewL, fin, D.own, E.pure, Es.pure, -List.map_map]
end DE
end

section
set_option Elab.async false
set_option linter.all false
set_option maxRecDepth 100000
set_option maxHeartbeats 1000000
namespace DE
open PySem
def HallO (c : PyData) (ss : List (PyData × Int)) : Prop := fracOk c ∧ 1 ≤ ss.length ∧ ss.length ≤ 4 ∧ ∀ s ∈ ss, fracOk s.1 ∧ 1 ≤ s.2 ∧ s.2 ≤ 6
theorem right_spec {cs : List Int} {i l n : Int} {c : PyData} {ss : List (PyData × Int)} {b : Bool} (f : Fd n i l) (f1 : n + 2000 < 2 ^ 90) (hh : HallO c ss) :
    ∃ i' l' n', d_w_right [feed cs i l n, .dat (hallP c ss b)] = .ret (.dat (.bool true)) [feed cs i' l' n', .dead] ∧ Fd n' i' l' ∧ n ≤ n' ∧ n' ≤ n + 4 := by
  obtain ⟨hc, l1, l4, hs⟩ := hh
  have room : RoomOk ss := ⟨l4, fun s m => by have := hs s m; omega⟩
  have svl : (ss.map srvP).length = ss.length := by simp
  have okv : ∀ d ∈ ss.map srvP, rOk d = true ∧ wid d = 107 ∧ d.depth ≤ 2 ∧ d.canLay0 = true := fun d hd => by
    obtain ⟨s, m, rfl⟩ := List.mem_map.mp hd
    exact srvR (hs s m)
  have okd : ∀ d ∈ ss.map srvP, okD d := fun d hd => ⟨(okv d hd).2.2.2, (okv d hd).2.2.1⟩
  obtain ⟨d0, h0⟩ : ∃ d0, (ss.map srvP)[0]? = some d0 := ⟨_, List.getElem?_eq_getElem (by omega)⟩
  obtain ⟨r1, p1⟩ := triR (b := b) hc okv (by omega)
  have ro : ∀ r ∈ ss.map (·.2), 0 ≤ r ∧ r ≤ 6 := fun r hr => by
    obtain ⟨s, m, rfl⟩ := List.mem_map.mp hr
    have := hs s m
    omega
  have cnt : (linesH (ss.map (·.2))).length ≤ 2401 := by
    have a := linesH_count _ ro
    have : 7 ^ (ss.map (·.2)).length ≤ 7 ^ 4 := Nat.pow_le_pow_right (by omega) (by rw [List.length_map]; exact l4)
    omega
  have tr := tr_lines _ fun r hr => (ro r hr).1
  obtain ⟨lr, hl⟩ : ∃ lr, linesH (ss.map (·.2)) = ((ss.map (·.2)).map fun _ => 0) :: lr := by
    generalize linesH (ss.map (·.2)) = LL at tr
    cases tr with
    | cons t => exact ⟨_, rfl⟩
  obtain ⟨q0, q1⟩ := lineR (l := (ss.map (·.2)).map fun _ => 0) (fun x hx => by
    obtain ⟨_, _, rfl⟩ := List.mem_map.mp hx
    omega) (by simpa using l4)
  obtain ⟨i', l', ks, s10, f', lk, hk⟩ := step10 (cs := cs) (kp := .dat (.str (tri c (ss.map srvP) b).shown)) (x3 := .lst (((PyData.str "a") :: (lr.map lineP ++ [.none])).map .dat)) (x4 := .dat .none) (x5 := .dead) (x6 := .dead) (x8 := .dead) (x9 := .dead) (x10 := .dead) (c := c) (sv := ss.map srvP) (b := b) f f1 (by omega)
  clear s10 f' lk hk i' l' ks
  obtain ⟨x5, s4⟩ := step4 (F := feed cs i l n) (kp := .dat (.str (tri c (ss.map srvP) b).shown)) (x5 := .dead) (x6 := .dead) (x7 := .dead) (x8 := .dead) (x9 := .dead) (x10 := .dead) (c := c) (b := b) room
  obtain ⟨i', l', ks, s10, f', lk, hk⟩ := step10 (cs := cs) (kp := .dat (.str (tri c (ss.map srvP) b).shown)) (x3 := .lst (((PyData.str "a") :: (lr.map lineP ++ [.none])).map .dat)) (x4 := .dat .none) (x5 := x5) (x6 := .dat (.bool ((ss.map srvP).all fun d => d.eqv d0))) (x8 := .dead) (x9 := .dead) (x10 := .dead) (c := c) (sv := ss.map srvP) (b := b) f f1 (by omega)
  have okt : ∀ d ∈ ks.map (gk (ss.map srvP)), rOk d = true ∧ wid d = 107 ∧ d.depth ≤ 2 ∧ d.canLay0 = true := fun d hd => by
    obtain ⟨k, m, rfl⟩ := List.mem_map.mp hd
    have := hk k m
    have hi : k.toNat < (ss.map srvP).length := by omega
    have e : gk (ss.map srvP) k = (ss.map srvP)[k.toNat] := by rw [gk, List.getD_eq_getElem?_getD, List.getElem?_eq_getElem hi]; rfl
    rw [e]
    exact okv _ (List.getElem_mem _)
  obtain ⟨r2, p2⟩ := triR (b := b) hc okt (by rw [List.length_map]; omega)
  have s1 := step1 (F := feed cs i l n) (x3 := .dead) (x4 := .dead) (x5 := .dead) (x6 := .dead) (x7 := .dead) (x8 := .dead) (x9 := .dead) (x10 := .dead) p1
  have s2 := step2 (F := feed cs i l n) (kp := .dat (.str (tri c (ss.map srvP) b).shown)) (x4 := .dead) (x5 := .dead) (x6 := .dead) (x7 := .dead) (x8 := .dead) (x9 := .dead) (x10 := .dead) (c := c) (b := b) room
  have s3 := step3 (F := feed cs i l n) (kp := .dat (.str (tri c (ss.map srvP) b).shown)) (x3 := .lst (((linesH (ss.map (·.2))).map lineP).map .dat)) (x5 := .dead) (x6 := .dead) (x7 := .dead) (x8 := .dead) (x10 := .dead) (c := c) (b := b) l4
  have s5 := step5 (F := feed cs i l n) (H := .dat (hallP c ss b)) (kp := .dat (.str (tri c (ss.map srvP) b).shown)) (x5 := x5) (x6 := .dead) (x7 := .dead) (x8 := .dead) (x9 := .dead) (x10 := .dead) (ts := (linesH (ss.map (·.2))).map lineP)
  have s6 := step6 (F := feed cs i l n) (H := .dat (hallP c ss b)) (kp := .dat (.str (tri c (ss.map srvP) b).shown)) (x4 := .dat .none) (x5 := x5) (x6 := .dead) (x7 := .dead) (x8 := .dead) (x9 := .dead) (x10 := .dead) (ts := (linesH (ss.map (·.2))).map lineP) (by rw [List.length_map]; omega)
  have e6 : ((linesH (ss.map (·.2))).map lineP).map D.dat ++ [.dat .none] = .dat (lineP ((ss.map (·.2)).map fun _ => 0)) :: (lr.map lineP ++ [PyData.none]).map D.dat := by rw [hl]; simp
  rw [e6] at s6
  have s7 := step7 (F := feed cs i l n) (H := .dat (hallP c ss b)) (kp := .dat (.str (tri c (ss.map srvP) b).shown)) (x4 := .dat .none) (x5 := x5) (x6 := .dead) (x7 := .dead) (x8 := .dead) (x9 := .dead) (x10 := .dead) (t := .dat (lineP ((ss.map (·.2)).map fun _ => 0))) (ts := (lr.map lineP ++ [PyData.none]).map D.dat)
  have len : lr.length ≤ 2400 := by rw [hl] at cnt; simp at cnt; omega
  have s8 := step8 (F := feed cs i l n) (kp := .dat (.str (tri c (ss.map srvP) b).shown)) (x4 := .dat .none) (x5 := x5) (x6 := .dead) (x7 := .dead) (x8 := .dead) (x9 := .dead) (x10 := .dead) (ts := (PyData.str "a") :: (lr.map lineP ++ [.none])) (c := c) (b := b) room hl q0 q1 (by simp) (by omega)
  have s9 := step9 (F := feed cs i l n) (kp := .dat (.str (tri c (ss.map srvP) b).shown)) (x3 := .lst (((PyData.str "a") :: (lr.map lineP ++ [.none])).map .dat)) (x4 := .dat .none) (x5 := x5) (x7 := .dead) (x8 := .dead) (x10 := .dead) (c := c) (b := b) h0 okd (by omega)
  have s11 := step11 (F := feed cs i' l' (n + (ss.map srvP).length)) (kp := .dat (.str (tri c (ss.map srvP) b).shown)) (x3 := .lst (((PyData.str "a") :: (lr.map lineP ++ [.none])).map .dat)) (x4 := .dat .none) (x5 := x5) (x6 := .dat (.bool ((ss.map srvP).all fun d => d.eqv d0))) (x9 := .dead) (c := c) (b := b) hk (by omega)
  have s12 := step12 (F := feed cs i' l' (n + (ss.map srvP).length)) (x3 := .lst (((PyData.str "a") :: (lr.map lineP ++ [.none])).map .dat)) (x4 := .dat .none) (x5 := x5) (x9 := .dead) (x10 := .dead) h0 okd (by omega) hk (by omega) r1 p1 r2 p2 rfl
  rw [hallP_tri] at s2 s3 s4 s5 s6 s7 s8
  refine ⟨i', l', n + (ss.map srvP).length, ?_, f', by omega, by omega⟩
  have body : exSs G5 i_w_right.body [feed cs i l n, .dat (tri c (ss.map srvP) b), .dead, .dead, .dead, .dead, .dead, .dead, .dead, .dead, .dead] = .rt (.dat (.bool true)) [feed cs i' l' (n + (ss.map srvP).length), .dat (tri c (ss.map srvP) b), .dat (.str (tri c (ss.map srvP) b).shown), .lst (((PyData.str "a") :: (lr.map lineP ++ [.none])).map .dat), .dat .none, x5, .dat (.bool ((ss.map srvP).all fun d => d.eqv d0)), .dat (.tuple (ks.map .int)), .dat (tri c (ks.map (gk (ss.map srvP))) b), .dead, .dead] := by
    show exSs G5 (.cons (.asg (.nm 2) (.bi .repr (.cons (.var 1) .nil))) (.cons (.asg (.nm 3) (.call 0 "all_lines" false (.val (.var 1) .nil))) (.cons (.asg (.nm 4) (.bi .tuple (.cons (.comp (.cst (.int 0)) (.nm 9) (.val (.ix (.var 1) (.cst (.int 1)))) .none [9]) .nil))) (.cons (.fors (.nm 5) (.ref (.root 3)) (.cons (.ifs (.cmp .NotEq (.bi .repr (.cons (.var 5) .nil)) (.bi .repr (.cons (.var 4) .nil))) (.cons (.ret (.cst (.bool false))) .nil) .nil) (.cons (.asg (.nm 4) (.call 1 "_law_next" false (.val (.var 1) (.val (.var 4) .nil)))) .nil))) (.cons (.ifs (.or (.cmp .IsNot (.var 4) (.cst .none)) (.not (.isi (.bp (.root 3)) ["list"] true))) (.cons (.ret (.cst (.bool false))) .nil) .nil) (.cons (.ex (.pm .append (.root 3) (.cons (.cst .none) .nil))) (.cons (.set (.root 3) (.cst (.int 0)) (.cst (.str "a"))) (.cons (.ifs (.or (.cmp .NotEq (.bi .len (.cons (.call 0 "all_lines" false (.val (.var 1) .nil)) .nil)) (.bin .Sub (.bi .len (.cons (.bp (.root 3)) .nil)) (.cst (.int 1)))) (.cmp .Eq (.bi .repr (.cons (.ix (.call 0 "all_lines" false (.val (.var 1) .nil)) (.cst (.int 0))) .nil)) (.bi .repr (.cons (.cst (.str "a")) .nil)))) (.cons (.ret (.cst (.bool false))) .nil) .nil) (.cons (.asg (.nm 6) (.cmp .Eq (.comp (.var 9) (.nm 9) (.val (.ix (.var 1) (.cst (.int 1)))) (.some (.cmp .NotEq (.var 9) (.ix (.ix (.var 1) (.cst (.int 1))) (.cst (.int 0))))) [9]) (.lst .nil))) (.cons (.asg (.nm 7) (.bi .tuple (.cons (.call 2 "_law_shuffled" false (.ref (.root 0) (.val (.frz (.lrg (.bi .len (.cons (.ix (.var 1) (.cst (.int 1))) .nil)))) .nil))) .nil))) (.cons (.asg (.nm 8) (.tup (.cons (.ix (.var 1) (.cst (.int 0))) (.cons (.bi .tuple (.cons (.comp (.ix (.ix (.var 1) (.cst (.int 1))) (.var 10)) (.nm 10) (.val (.var 7)) .none [10]) .nil)) (.cons (.ix (.var 1) (.cst (.int 2))) .nil))))) (.cons (.ret (.cmp .Eq (.lst (.cons (.bi .repr (.cons (.call 3 "is_alike" false (.val (.var 1) .nil)) .nil)) (.cons (.bi .repr (.cons (.call 4 "hall_turned" false (.val (.var 1) (.val (.var 7) .nil))) .nil)) (.cons (.bi .repr (.cons (.var 1) .nil)) .nil)))) (.lst (.cons (.bi .repr (.cons (.var 6) .nil)) (.cons (.bi .repr (.cons (.var 8) .nil)) (.cons (.var 2) .nil)))))) .nil)))))))))))) _ = _
    rw [x_cons, s1, nx_bind, x_cons, s2, nx_bind, x_cons, s3, nx_bind, x_cons]
    refine (congrArg (fun z => SR.bind z _) s4).trans ?_
    rw [nx_bind, x_cons]
    refine (congrArg (fun z => SR.bind z _) s5).trans ?_
    rw [nx_bind, x_cons, s6, nx_bind, x_cons, s7, nx_bind, x_cons]
    refine (congrArg (fun z => SR.bind z _) s8).trans ?_
    rw [nx_bind, x_cons]
    rw [s9, nx_bind, x_cons]
    rw [s10, nx_bind, x_cons]
    rw [s11, nx_bind, x_cons]
    rw [s12, rt_bind]
  have run : d_w_right [feed cs i l n, .dat (tri c (ss.map srvP) b)] = match exSs G5 i_w_right.body [feed cs i l n, .dat (tri c (ss.map srvP) b), .dead, .dead, .dead, .dead, .dead, .dead, .dead, .dead, .dead] with
      | .rt d ρ => .ret d (outsOf [true, false] ρ)
      | .nx ρ => .ret (.dat .none) (outsOf [true, false] ρ)
      | .ex x ρ => .ex x (outsOf [true, false] ρ)
      | .no => .no := rfl
  rw [hallP_tri, run, body]
  rfl
end DE
end

section
set_option Elab.async false
set_option linter.all false
set_option maxRecDepth 100000
set_option maxHeartbeats 1000000
namespace DE
open PySem
/-- a comprehension that keeps nothing, by an invariant -/
theorem compL_no {own : List Nat} {t : T} {c e : Env → R D} (I : Nat → Env → Prop) (hI : ∀ k ρ, I k ρ → I k (wipeE ρ own)) : ∀ (items : List D) (n : Nat) (ρ : Env), I n ρ →
    (∀ i x ρ, items[i]? = some x → I (n + i) (wipeE ρ own) → ∃ ρ1 ρ2, storeT t x (wipeE ρ own) = some ρ1 ∧ c ρ1 = .ok (.dat (.bool false)) ρ2 ∧ I (n + i + 1) ρ2) →
    ∃ ρ', compL own t c e items ρ = .ok [] ρ' ∧ I (n + items.length) ρ'
  | [], n, ρ, h, _ => ⟨ρ, rfl, h⟩
  | x :: r, n, ρ, h, st => by
    obtain ⟨ρ1, ρ2, e1, e2, h2⟩ := st 0 x ρ rfl (hI _ _ h)
    obtain ⟨ρ', e5, h5⟩ := compL_no I hI r (n + 1) ρ2 h2 fun i y ρ e hi => by
      have := st (i + 1) y ρ (by simpa using e) (by rw [show n + (i + 1) = n + 1 + i by omega]; exact hi)
      rw [show n + (i + 1) + 1 = n + 1 + i + 1 by omega] at this
      exact this
    refine ⟨ρ', ?_, by rw [List.length_cons, show n + (r.length + 1) = n + 1 + r.length by omega]; exact h5⟩
    rw [compL, e1]
    simp only [e2]
    exact e5
noncomputable abbrev GL : List Fn := [d_w_feed, d_w_hall, d_w_draw, d_w_right]
theorem hallE {cs : List Int} {i l n : Int} {x0 x2 x3 x4 : D} (f : Fd n i l) (f1 : n + 200 < 2 ^ 90) : ∃ i' l' n' hd, evE GL (.call 1 "_law_hall" false (.ref (.root 1) (.val (.cst (.int 4)) .nil))) [x0, feed cs i l n, x2, x3, x4] = .ok (.dat hd) [x0, feed cs i' l' n', x2, x3, x4] ∧ Fd n' i' l' ∧ n ≤ n' ∧ n' ≤ n + 40 ∧ Hall hd := by
  obtain ⟨i', l', n', hd, o, e, f', h1, h2, hh⟩ := hall_spec (cs := cs) f f1
  refine ⟨i', l', n', hd, ?_, f', h1, h2, hh⟩
  obtain ⟨xs, ex⟩ := feed_live cs i l n
  have own := feed_own cs i' l' n'
  rw [ex] at e ⊢
  simp [slot, D.ntr, takeAs, getS_nil, fnAt, e, putBack, own, putS_nil, As.pure, kA2]
theorem rightE {cs : List Int} {i l n : Int} {x0 x2 x3 : D} {c : PyData} {ss : List (PyData × Int)} {b : Bool} (f : Fd n i l) (f1 : n + 2000 < 2 ^ 90) (hh : HallO c ss) : ∃ i' l' n', evE GL (.not (.call 3 "_law_right" false (.ref (.root 1) (.val (.var 4) .nil)))) [x0, feed cs i l n, x2, x3, .dat (hallP c ss b)] = .ok (.dat (.bool false)) [x0, feed cs i' l' n', x2, x3, .dat (hallP c ss b)] ∧ Fd n' i' l' ∧ n ≤ n' ∧ n' ≤ n + 4 := by
  obtain ⟨i', l', n', e, f', h1, h2⟩ := right_spec (cs := cs) (b := b) f f1 hh
  refine ⟨i', l', n', ?_, f', h1, h2⟩
  obtain ⟨xs, ex⟩ := feed_live cs i l n
  have own := feed_own cs i' l' n'
  rw [ex] at e ⊢
  simp [slot, D.ntr, takeAs, getS_nil, fnAt, e, putBack, own, putS_nil, As.pure, kA2]
end DE
end

section
set_option Elab.async false
set_option linter.all false
set_option maxRecDepth 100000
set_option maxHeartbeats 1000000
namespace DE
open PySem
theorem hallsE {cs : List Int} {x0 : D} : ∃ (i l n : Int) (hs : List PyData), evE GL (.comp (.call 1 "_law_hall" false (.ref (.root 1) (.val (.cst (.int 4)) .nil))) (.nm 3) (.rng1 (.cst (.int 4))) .none [3]) [x0, feed cs 0 0 0, .dead, .dead, .dead] = .ok (dl hs) [x0, feed cs i l n, .dead, .dead, .dead] ∧ Fd n i l ∧ n ≤ 160 ∧ hs.length = 4 ∧ ∀ h ∈ hs, Hall h := by
  obtain ⟨ds, ρ', e, ⟨i, l, n, x3, rfl, f, hn⟩, ld, v⟩ := compL_inv (own := [3]) (t := .nm 3) (c := evC GL .none) (e := evE GL (.call 1 "_law_hall" false (.ref (.root 1) (.val (.cst (.int 4)) .nil))))
    (fun k ρ => ∃ i l n x3, ρ = [x0, feed cs i l n, .dead, x3, .dead] ∧ Fd n i l ∧ n ≤ 40 * k) (fun _ d => Hall d)
    (fun k ρ ⟨i, l, n, x3, e, f, h⟩ => ⟨i, l, n, .dead, by rw [e]; simp [wipeE], f, h⟩)
    (rngL 0 4) 0 [x0, feed cs 0 0 0, .dead, .dead, .dead] ⟨0, 0, 0, .dead, rfl, ⟨by decide, by decide, by decide, by decide⟩, by decide⟩
    (fun j x ρ hx ⟨i, l, n, x3, e, f, h⟩ => by
      obtain ⟨lj, rfl⟩ := rngL_get hx
      rw [e]
      obtain ⟨i', l', n', hd, he, f', h1, h2, hh⟩ := hallE (cs := cs) (x0 := x0) (x2 := .dead) (x3 := .dat (.int (0 + (j : Int)))) (x4 := .dead) f (by omega)
      exact ⟨_, _, _, hd, by simp [storeT, D.ntr], by simp [evC], he, by simp [D.fz], hh, i', l', n', _, rfl, f', by omega⟩)
  have l4 : (rngL 0 4).length = 4 := by rfl
  rw [l4] at ld hn
  refine ⟨i, l, n, ds, ?_, f, by omega, ld, fun h hh => ?_⟩
  · have k1 : rngOk 4 = true := rngOk_small (by omega) (by omega)
    have fs : fits ds.length = true := by rw [ld]; rfl
    rw [s_comp, s_rng1, s_cst, bind_ok, kRng1_int, if_pos k1, bind_ok, kComp1_eq]
    refine (congrArg (fun z => R.bind z _) e).trans ?_
    rw [bind_ok, kComp2_eq, if_pos fs]
    rfl
  · obtain ⟨j, hj⟩ := List.getElem?_of_mem hh
    exact v j h hj
end DE
end

section
set_option Elab.async false
set_option linter.all false
set_option maxRecDepth 100000
set_option maxHeartbeats 1000000
namespace DE
open PySem
theorem drawL {cs : List Int} {i l n : Int} {x0 x2 x3 x4 : D} (f : Fd n i l) (f1 : n + 200 < 2 ^ 90) : ∃ i' l' r, evE GL (.call 2 "_law_draw" false (.ref (.root 1) (.val (.cst (.int 6)) .nil))) [x0, feed cs i l n, x2, x3, x4] = .ok (.dat (.int r)) [x0, feed cs i' l' (n + 1), x2, x3, x4] ∧ Fd (n + 1) i' l' ∧ 0 ≤ r ∧ r < 6 := by
  obtain ⟨i', l', r, o, e, h1, h2, h3, h4⟩ := draw_spec (cs := cs) (m := 6) (by decide) (by decide) f.i0 f.l0 f.n0 (by have := f.n0; omega)
  refine ⟨i', l', r, ?_, ⟨h1, h2, by have := f.n0; omega, by omega⟩, h3, h4⟩
  obtain ⟨xs, ex⟩ := feed_live cs i l n
  have own := feed_own cs i' l' (n + 1)
  rw [ex] at e ⊢
  simp [slot, D.ntr, takeAs, getS_nil, fnAt, e, putBack, own, putS_nil, As.pure, kA2]
theorem noneE {cs : List Int} {i l n : Int} {x0 : D} {hs : List PyData} (f : Fd n i l) (f1 : n ≤ 200) (h6 : hs.length ≤ 6) (hh : ∀ h ∈ hs, Hall h) : ∃ ρ', evE GL (.comp (.var 4) (.nm 4) (.ref (.root 2)) (.some (.not (.call 3 "_law_right" false (.ref (.root 1) (.val (.var 4) .nil))))) [4]) [x0, feed cs i l n, .lst (hs.map .dat), .dead, .dead] = .ok (dl []) ρ' := by
  obtain ⟨ρ', e, i', l', n', x4, rfl, f', hn⟩ := compL_no (own := [4]) (t := .nm 4) (c := evC GL (.some (.not (.call 3 "_law_right" false (.ref (.root 1) (.val (.var 4) .nil)))))) (e := evE GL (.var 4))
    (fun k ρ => ∃ i l n x4, ρ = [x0, feed cs i l n, .dead, .dead, x4] ∧ Fd n i l ∧ n ≤ 200 + 4 * k)
    (fun k ρ ⟨i, l, n, x4, e, f, h⟩ => ⟨i, l, n, .dead, by rw [e]; simp [wipeE], f, h⟩)
    (hs.map .dat) 0 [x0, feed cs i l n, .dead, .dead, .dead] ⟨i, l, n, .dead, rfl, f, by omega⟩
    (fun j x ρ hx ⟨i, l, n, x4, e, f, h⟩ => by
      have xm := List.mem_of_getElem? hx
      have lj : j < 6 := by
        have := (List.getElem?_eq_some_iff.mp hx).1
        rw [List.length_map] at this
        omega
      obtain ⟨d, hd, rfl⟩ := List.mem_map.mp xm
      obtain ⟨c, ss, b, rfl, h1⟩ := hh d hd
      rw [e]
      obtain ⟨i', l', n', he, f', a1, a2⟩ := rightE (cs := cs) (x0 := x0) (x2 := .dead) (x3 := .dead) (c := c) (ss := ss) (b := b) f (by omega) h1
      exact ⟨_, _, by simp [storeT, D.ntr, hallP], he, i', l', n', _, rfl, f', by omega⟩)
  have dd := dats_dats hs
  refine ⟨[x0, feed cs i' l' n', .lst (hs.map .dat), .dead, .dead], ?_⟩
  rw [s_comp]
  have it : evI GL (.ref (.root 2)) [x0, feed cs i l n, .lst (hs.map .dat), .dead, .dead] = .ok (hs.map .dat, some (2, .lst (hs.map .dat))) [x0, feed cs i l n, .dead, .dead, .dead] := by
    simp [slot, getS_nil, dd, -List.map_map]
  rw [it, bind_ok, kComp1_eq]
  refine (congrArg (fun z => R.bind z _) e).trans ?_
  rw [bind_ok, kComp2_eq, if_pos (by rfl)]
  rfl
end DE
end

section
set_option Elab.async false
set_option linter.all false
set_option maxRecDepth 100000
set_option maxHeartbeats 1000000
namespace DE
open PySem
def frac (a b : Int) : PyData := .tuple [.int a, .int b]
def hallA (r : Int) : PyData := hallP (frac 1 5) [(frac 1 10, 1 + r), (frac 1 10, 6)] true
def hallB : PyData := hallP (frac 1 3) [(frac 1 3, 6)] false
theorem hallA_ok {r : Int} (h : 0 ≤ r) (h6 : r < 6) : Hall (hallA r) :=
  ⟨frac 1 5, [(frac 1 10, 1 + r), (frac 1 10, 6)], true, rfl, ⟨1, 5, rfl, by omega, by omega⟩, by simp, by simp, fun s hs => by
    simp only [List.mem_cons, List.mem_nil_iff, or_false] at hs
    rcases hs with rfl | rfl
    · exact ⟨⟨1, 10, rfl, by omega, by omega⟩, by show 1 ≤ 1 + r; omega, by show 1 + r ≤ 6; omega⟩
    · exact ⟨⟨1, 10, rfl, by omega, by omega⟩, by decide, by decide⟩⟩
theorem hallB_ok : Hall hallB :=
  ⟨frac 1 3, [(frac 1 3, 6)], false, rfl, ⟨1, 3, rfl, by omega, by omega⟩, by simp, by simp, fun s hs => by
    rw [List.mem_singleton.mp hs]
    exact ⟨⟨1, 3, rfl, by omega, by omega⟩, by decide, by decide⟩⟩
theorem appL {hs : List PyData} {d : PyData} (h : hs.length ≤ 1000) : pmD .append (hs.map D.dat) [.dat d] = some ((hs ++ [d]).map .dat, .dat .none) := by
  have c1 : (hs.map D.dat).length < 16777216 := by simp; omega
  simp only [pmD, c1, decide_true, if_true, D.own]
  simp
theorem law_true (ns : List Int) (h : ns.length ≤ 63) : ∃ outs, d_law [.dat (.list (ns.map .int))] = .ret (.dat (.bool true)) outs := by
  obtain ⟨i, l, n, hs, e2, f, hn, lh, hh⟩ := hallsE (cs := ns) (x0 := .dat (.list (ns.map .int)))
  have own := feed_own ns 0 0 0
  have s1 : exS GL (.asg (.nm 1) (.call 0 "_law_feed" false (.val (.var 0) .nil))) [.dat (.list (ns.map .int)), .dead, .dead, .dead, .dead] = .nx [.dat (.list (ns.map .int)), feed ns 0 0 0, .dead, .dead, .dead] := by
    have fs := feed_spec ns h
    have nt : (feed ns 0 0 0).ntr = true := by unfold feed; simp only [D.ntr, D.ntrL, ntrL_dats, Bool.and_self]
    simp [slot, D.ntr, takeAs, fnAt, fs, putBack, As.pure, kA2, storeT, nt, own]
  have s2 : exS GL (.asg (.nm 2) (.comp (.call 1 "_law_hall" false (.ref (.root 1) (.val (.cst (.int 4)) .nil))) (.nm 3) (.rng1 (.cst (.int 4))) .none [3])) [.dat (.list (ns.map .int)), feed ns 0 0 0, .dead, .dead, .dead] = .nx [.dat (.list (ns.map .int)), feed ns i l n, .lst (hs.map .dat), .dead, .dead] := by
    simp [↓e2, dl, storeT, D.ntr, ntrL_dats, D.own, ownL_dats, -s_comp]
  obtain ⟨i', l', r, e3, f', r0, r6⟩ := drawL (cs := ns) (x0 := .dat (.list (ns.map .int))) (x2 := .lst (hs.map .dat)) (x3 := .dead) (x4 := .dead) f (by omega)
  have ap := appL (hs := hs) (d := hallA r) (by omega)
  have ap2 := appL (hs := hs ++ [hallA r]) (d := hallB) (by simp; omega)
  have s3 : exS GL (.ex (.pm .append (.root 2) (.cons (.tup (.cons (.tup (.cons (.cst (.int 1)) (.cons (.cst (.int 5)) .nil))) (.cons (.tup (.cons (.tup (.cons (.tup (.cons (.cst (.int 1)) (.cons (.cst (.int 10)) .nil))) (.cons (.bin .Add (.cst (.int 1)) (.call 2 "_law_draw" false (.ref (.root 1) (.val (.cst (.int 6)) .nil)))) .nil))) (.cons (.tup (.cons (.tup (.cons (.cst (.int 1)) (.cons (.cst (.int 10)) .nil))) (.cons (.cst (.int 6)) .nil))) .nil))) (.cons (.cst (.bool true)) .nil)))) .nil))) [.dat (.list (ns.map .int)), feed ns i l n, .lst (hs.map .dat), .dead, .dead] = .nx [.dat (.list (ns.map .int)), feed ns i' l' (n + 1), .lst ((hs ++ [hallA r]).map .dat), .dead, .dead] := by
    simp only [hallA, hallP, frac, List.map_cons, List.map_nil] at ap
    simp [↓e3, slot, getS_nil, putS_nil, isLst, D.ntr, D.fzL, D.fz, fits, binD, E.pure, Es.pure, hallA, hallP, frac, ap, -s_call, -List.map_map, -List.map_append]
  have s4 : exS GL (.ex (.pm .append (.root 2) (.cons (.tup (.cons (.tup (.cons (.cst (.int 1)) (.cons (.cst (.int 3)) .nil))) (.cons (.tup (.cons (.tup (.cons (.tup (.cons (.cst (.int 1)) (.cons (.cst (.int 3)) .nil))) (.cons (.cst (.int 6)) .nil))) .nil)) (.cons (.cst (.bool false)) .nil)))) .nil))) [.dat (.list (ns.map .int)), feed ns i' l' (n + 1), .lst ((hs ++ [hallA r]).map .dat), .dead, .dead] = .nx [.dat (.list (ns.map .int)), feed ns i' l' (n + 1), .lst ((hs ++ [hallA r] ++ [hallB]).map .dat), .dead, .dead] := by
    simp only [hallB, hallP, frac, List.map_cons, List.map_nil] at ap2
    simp [slot, getS_nil, putS_nil, isLst, D.ntr, D.fzL, D.fz, fits, E.pure, Es.pure, hallB, hallP, frac, ap2, -List.map_map, -List.map_append]
  obtain ⟨ρ', e5⟩ := noneE (cs := ns) (x0 := .dat (.list (ns.map .int))) (hs := hs ++ [hallA r] ++ [hallB]) f' (by omega) (by simp; omega) (fun x hx => by
    rcases List.mem_append.mp hx with hx | hx
    · rcases List.mem_append.mp hx with hx | hx
      · exact hh x hx
      · rw [List.mem_singleton.mp hx]; exact hallA_ok r0 r6
    · rw [List.mem_singleton.mp hx]; exact hallB_ok)
  have sh0 : cmpD .Eq (.list []) (.list []) = some true := by decide +kernel
  have s5 : exS GL (.ret (.cmp .Eq (.comp (.var 4) (.nm 4) (.ref (.root 2)) (.some (.not (.call 3 "_law_right" false (.ref (.root 1) (.val (.var 4) .nil))))) [4]) (.lst .nil))) [.dat (.list (ns.map .int)), feed ns i' l' (n + 1), .lst ((hs ++ [hallA r] ++ [hallB]).map .dat), .dead, .dead] = .rt (.dat (.bool true)) ρ' := by
    rw [x_ret, s_cmp, e5]
    simp [dl, List.map_nil, cmpV, D.view, D.viewL, sh0, fits, D.ntr, D.own, E.pure, Es.pure, -s_comp, -List.map_map, -List.map_append]
  have body : exSs GL i_law.body [.dat (.list (ns.map .int)), .dead, .dead, .dead, .dead] = .rt (.dat (.bool true)) ρ' := by
    show exSs GL (.cons (.asg (.nm 1) (.call 0 "_law_feed" false (.val (.var 0) .nil))) (.cons (.asg (.nm 2) (.comp (.call 1 "_law_hall" false (.ref (.root 1) (.val (.cst (.int 4)) .nil))) (.nm 3) (.rng1 (.cst (.int 4))) .none [3])) (.cons (.ex (.pm .append (.root 2) (.cons (.tup (.cons (.tup (.cons (.cst (.int 1)) (.cons (.cst (.int 5)) .nil))) (.cons (.tup (.cons (.tup (.cons (.tup (.cons (.cst (.int 1)) (.cons (.cst (.int 10)) .nil))) (.cons (.bin .Add (.cst (.int 1)) (.call 2 "_law_draw" false (.ref (.root 1) (.val (.cst (.int 6)) .nil)))) .nil))) (.cons (.tup (.cons (.tup (.cons (.cst (.int 1)) (.cons (.cst (.int 10)) .nil))) (.cons (.cst (.int 6)) .nil))) .nil))) (.cons (.cst (.bool true)) .nil)))) .nil))) (.cons (.ex (.pm .append (.root 2) (.cons (.tup (.cons (.tup (.cons (.cst (.int 1)) (.cons (.cst (.int 3)) .nil))) (.cons (.tup (.cons (.tup (.cons (.tup (.cons (.cst (.int 1)) (.cons (.cst (.int 3)) .nil))) (.cons (.cst (.int 6)) .nil))) .nil)) (.cons (.cst (.bool false)) .nil)))) .nil))) (.cons (.ret (.cmp .Eq (.comp (.var 4) (.nm 4) (.ref (.root 2)) (.some (.not (.call 3 "_law_right" false (.ref (.root 1) (.val (.var 4) .nil))))) [4]) (.lst .nil))) .nil))))) _ = _
    rw [x_cons, s1, nx_bind, x_cons, s2, nx_bind, x_cons, s3, nx_bind, x_cons, s4, nx_bind, x_cons, s5, rt_bind]
  have run : d_law [.dat (.list (ns.map .int))] = match exSs GL i_law.body [.dat (.list (ns.map .int)), .dead, .dead, .dead, .dead] with
      | .rt d ρ => .ret d (outsOf [false] ρ)
      | .nx ρ => .ret (.dat .none) (outsOf [false] ρ)
      | .ex x ρ => .ex x (outsOf [false] ρ)
      | .no => .no := rfl
  rw [run, body]
  exact ⟨_, rfl⟩
end DE
end

section
set_option Elab.async false
set_option linter.all false
set_option maxRecDepth 100000
set_option maxHeartbeats 0
open PySem PySem.W PySem.Calls PyProof.Rows
theorem PySem.Challenge.cw_shorterline_k03_lines_of_halls_holds : PySem.Challenge.rw_shorterline_k03_lines_of_halls.Holds := by
  w_on; o_law
  refine HandSHeadRun.head_any (r := DE.RR) (q := view DE.RR.prog [12]) (H := DE.hk) (ob := DE.ob) (M := 4000) (loose := DE.loose) (d := HandSHeadRun.topDef DE.RR.prog 12) (kwd := []) DE.ob_eq (by kernel_rfl) (fun s => by kernel_rfl) DE.run (by kernel_rfl) (by kernel_rfl) (by kernel_rfl) (by rfl)
    (by first | assumption | decide +kernel) (by decide +kernel) ⟨rfl, rfl, rfl, rfl, rfl, by decide +kernel⟩ ?hw ?hc
  case hw => w_witness2
  case hc =>
    refine DE.walkG (l := PySem.Challenge.rw_shorterline_k03_lines_of_halls) (n := 63) (k := 4) (x := "_law_script") (F := DE.d_law) rfl (by decide) (by kernel_rfl) ⟨rfl, by decide, by decide⟩ ?F DE.law_true
    intro w mg fa h Y G hmg0
    obtain ⟨K, KX, c⟩ := Y
    have hmg : mg ("law" : PySem.Str) = some (.ref fa) := by
      have e : (HandSHeadRun.topDef DE.RR.prog 12).name = ("law" : PySem.Str) := by kernel_rfl
      rw [← e]
      exact hmg0
    obtain ⟨fd, hb, hF⟩ := DE.facts (w := w) KX G hmg c
    exact ⟨K, fd, KX, hb, hF⟩
end
